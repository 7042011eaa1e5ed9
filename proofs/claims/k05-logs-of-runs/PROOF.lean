import PyProof.Rows.All
import Wide.All
import OpenK.AllK
import Wide.FinOn
import HandS.ForMost
import HandS.ForExc
import HandS.Wide
import HandS.Zip
import HandS.IsInst
import HandS.Flow
import PyProof.ReprRoads
import HandS.Strs
import HandS.SortInts
import HandS.DictComp
import HandS.HeadHook1
import HandS.SetFor
import HandS.SortKw
import KE.KMinKey
import HandS.Style
import PyProof.StrOps2
import PyProof.FitsStr
import HandS.RaiseMore
import HandS.More
import PyProof.Rows.StrMeet
import PyProof.Rows.TmSorted
import PyProof.Rows.SortStr
import HandS.TupAny
import HandS.SetKeys
import HandS.Defaults
import HandS.Codes
import HandS.Words
import HandS.Ends
import HandS.EndBits
import HandS.Head0
import HandS.Head1
import HandS.Head2
import HandS.HeadEnd
import HandS.HeadHook2
import PyProof.ReprLen
import PySem.Challenge.RW_conflate_k05_logs_of_runs
set_option Elab.async false
set_option linter.all false
set_option maxRecDepth 999999
set_option maxHeartbeats 0
/-! Ev0: set(xs) of a list, and its length -/
namespace Ev
open PySem L2 PySem.Spec PyProof.Rows
section
variable {Pg : Program} {wd : World} {Κ : Type} [DecidableEq Κ] [BEq Κ] [LawfulBEq Κ]
/-- the different keys met among the first i -/
def metK (f : Nat → Κ) (i : Nat) : List Κ := ((List.range i).map f).foldl step_dedup []
theorem metK_succ (f : Nat → Κ) (i : Nat) : metK f (i + 1) = step_dedup (metK f i) (f i) := by
  unfold metK; rw [List.range_succ, List.map_append, List.foldl_append]
  rfl
theorem ded_len (a : List Κ) (k : Κ) : (step_dedup a k).length = if (a.any fun x => x == k) = true then a.length else a.length + 1 := by
  unfold step_dedup; split <;> simp_all
theorem ded_any (a : List Κ) (v k : Κ) : ((step_dedup a v).any fun x => x == k) = ((a.any fun x => x == k) || decide (k = v)) := by
  unfold step_dedup
  by_cases h : (a.any fun x => x == v) = true
  · rw [if_pos h]
    by_cases e : k = v
    · subst e; simp [h]
    · simp [e]
  · rw [if_neg h, List.any_append]
    by_cases e : k = v
    · subst e; simp
    · have hb : (v == k) = false := by simpa [beq_iff_eq] using fun z : v = k => e z.symm
      simp [hb, e]
theorem metK_le (f : Nat → Κ) : ∀ i, (metK f i).length ≤ i
  | 0 => Nat.le_refl _
  | i + 1 => by
    have ih := metK_le f i
    rw [metK_succ, ded_len]
    split <;> omega
variable {kd : KeyKind Pg wd Κ} {Ar : Around} {Rs : Result → Shared → Prop} {I0 : Addr} {fp wr : List Addr} {Gn : Array GenState → Array GenState → Prop} {n : Nat} {Pv : Nat → Value → Prop} {Sv : Nat → Shared → Prop}
theorem set_go (W : WalksS Pg wd Ar.in1 I0 fp wr Gn n Pv Sv) (z : Addr) (hz : z ∉ fp) (f : Nat → Κ) (hf : ∀ i v, Pv i v → kd.is (f i) v = true ∧ v.scannable = true) (hn : n + 1 < scanBound) : ∀ (m i : Nat) (sh : Shared), n - i = m → i ≤ n → Sv i sh →
    sh.heap.SetOf kd z (fun q => (metK f i).any (· == q)) (metK f i).length → (∀ s2, Moved (z :: wr) Gn sh s2 → s2.heap.SetOf kd z (fun q => (metK f n).any (· == q)) (metK f n).length → Rs (.ok (.ret .none)) s2) → codeAny (model Pg wd) Ar (.builtin "set.update.loop" ⟨[.ref z, .ref I0], []⟩) Rs sh := by
  have hzw : z ∉ wr := fun q => hz (W.sub _ q)
  have up : ∀ b ∈ wr, b ∈ z :: wr := fun b q => List.mem_cons_of_mem _ q
  have keep : ∀ {sh s2 : Shared} {S : Κ → Bool} {k : Nat}, Moved wr Gn sh s2 → sh.heap.SetOf kd z S k → s2.heap.SetOf kd z S k := fun {sh s2 S k} hm q => by
    obtain ⟨o, es, ep, t, ho, rest⟩ := q; exact ⟨o, es, ep, t, hm.heap z _ hzw ho, rest⟩
  intro m
  induction m with
  | zero =>
    intro i sh hm hi st hS hR
    obtain rfl : i = n := by omega
    refine codeAny_builtin F.entry_set_update_loop ?_; rw [Around.under_plainId F.plain_set_update_loop _]
    show wpAny _ Ar.in1 (pyNext (.ref I0) >>= _) _ _ sh
    refine wpAny_bind (W.done sh _ _ st fun s2 hm => ?_); show wpAny _ Ar.in1 (ret Value.none) _ _ s2
    exact wpAny_pure (hR s2 (hm.mono up) (keep hm hS))
  | succ m ih =>
    intro i sh hm hi st hS hR
    have hlt : i < n := by omega
    refine codeAny_builtin F.entry_set_update_loop ?_; rw [Around.under_plainId F.plain_set_update_loop _]
    show wpAny _ Ar.in1 (pyNext (.ref I0) >>= _) _ _ sh
    refine wpAny_bind (W.item i sh _ _ hlt st fun v s2 hP st2 hm => ?_)
    obtain ⟨k1, k2⟩ := hf i v hP
    have hS2 := keep hm hS
    show wpAny _ Ar.in1 (holding [v] (setAdd z v) >>= _) _ _ s2
    refine wpAny_bind (wpAny_holding ?_); unfold setAdd
    refine wpAny_holding (wpAny_bind (kd.pyHash (k := f i) k1 ?_))
    have room : (metK f i).length + 1 < scanBound := by have := metK_le f i; omega
    refine wpAny_setAddHashed_of (knd := kd) (s := { s2 with toks := s2.toks + 1 }) k1 k2 hS2 room fun h' hb hS3 => ?_
    have hS4 : h'.SetOf kd z (fun q => (metK f (i + 1)).any (· == q)) (metK f (i + 1)).length := SetOf_congr hS3 (fun q => by rw [metK_succ, ded_any]) (by rw [metK_succ, ded_len])
    refine wpAny_pure ⟨plainId_quiet F.plain_set_update_loop _, ih (i + 1) _ (by omega) hlt (W.frame _ s2 _ _ st2 (Nat.le_succ _) fun b h1 o e => ?_) hS4 fun s3 hm3 hS5 => ?_⟩
    · rw [hb.2 b fun q : b = z => hz (by rw [← q]; exact h1)]; exact e
    · refine hR s3 (Moved.trans W.gtrans ((hm.mono up).then_heap (Nat.le_succ _) fun b o h1 e => ?_) hm3) hS5
      rw [hb.2 b fun q : b = z => h1 (by rw [q]; exact List.mem_cons_self)]; exact e
end
section
variable {Pg : Program} {wd : World} {Κ : Type} [DecidableEq Κ] [BEq Κ] [LawfulBEq Κ] {kd : KeyKind Pg wd Κ} {Ar : Around} {Ex : Value → Shared → Prop} {sh : Shared}
abbrev nset (led : Bool) : Obj := { cls := .type "set", dict := none, data := .set #[] 0 (.fresh 0 0 led) }
set_option maxHeartbeats 8000000 in
theorem call_set (kd : KeyKind Pg wd Κ) {l : Addr} {its : Array Value} {Q : Value → Shared → Prop} (hh : Ar.handled = none) (hl : sh.heap.IsList l its) (f : Nat → Κ) (hf : ∀ i v, its[i]? = some v → kd.is (f i) v = true ∧ v.scannable = true) (hb : its.size + 1 < scanBound)
    (q : ∀ (h' : Heap) (tk : Nat), h'.SetOf kd sh.heap.objs.size (fun k => (metK f its.size).any (· == k)) (metK f its.size).length → (∀ b o, b < sh.heap.objs.size → sh.heap.get? b = some o → h'.get? b = some o) → Q (.ref sh.heap.objs.size) { sh with heap := h', toks := tk }) :
    wpAny (model Pg wd) Ar (call (.type "set") [.ref l]) Q Ex sh := by
  obtain ⟨c, tl, hmro⟩ := PySem.F.called_set.mro; have hmade := PySem.F.called_set.made; have hsub := PySem.F.called_set.sub
  refine wpAny_call (codeAny_of_tree ?_); show wpAny _ _ (callAny (.type "set") _) _ _ _
  refine wpAny_pure ⟨Code.quiet_builtin _ (by decide +kernel), codeAny_builtin PySem.F.entry_type_call ?_⟩; rw [Around.under_plain (weight_type_call_type "set" [.ref l] []) rfl]
  have h1 := PySem.F.called_set.notType; have h2 := PySem.F.called_set.canCreate; have hct := PySem.F.typeCall_set_1 (.ref l)
  repeat (any_goals (first | assumption | wp_step))
  refine codeAny_mono (code_set_new_1 (.ref l) (E := Ex) (Q₁ := fun u s1 => ∃ led : Bool, u = .ref sh.heap.objs.size ∧ s1 = { sh with heap := sh.heap.push (nset led) }) fun led => ⟨led, rfl, rfl⟩) fun r s1 hr => ?_
  cases r with
  | error e => exact hr
  | ok fl =>
    cases fl with
    | ret u =>
      obtain ⟨led, rfl, rfl⟩ := hr
      have hS : (sh.heap.push (nset led)).get? sh.heap.objs.size = some (nset led) := Heap.get?_push_size _ rfl
      have hT : Shared.TypeIs { sh with heap := sh.heap.push (nset led) } (.ref sh.heap.objs.size) "set" := ⟨_, hS, rfl⟩
      have hli := PySem.F.called_set.init.lookup; have hbi := PySem.F.called_set.init.bind (.ref sh.heap.objs.size)
      repeat (any_goals (first | assumption | wp_step))
      refine codeAny_mono (codeAny_call_builtin (R := wants (fun r s2 => r = .none ∧ ∃ h' tk, s2 = { sh with heap := h', toks := tk } ∧ h'.SetOf kd sh.heap.objs.size (fun k => (metK f its.size).any (· == k)) (metK f its.size).length ∧ (∀ b o, b < sh.heap.objs.size → sh.heap.get? b = some o → h'.get? b = some o)) Ex)
        PySem.F.called_set.init.plain PySem.F.entry_set_init (check_set_init_1 hT ?_)) fun r2 s2 hr2 => ?_
      · obtain ⟨ol, hol, hcl, nl, hdl⟩ := hl; obtain ⟨ocls, odict, odata, oslots⟩ := ol; simp only at hcl hdl; subst hcl; subst hdl
        have hol' : (sh.heap.push (nset led)).get? l = some { cls := .type "list", dict := odict, data := .seq its nl, slots := oslots } := Heap.get?_push_of_some _ hol
        have hsls := PySem.F.sub_list_set; have hslf := PySem.F.sub_list_frozenset; have hne : (Value.type "list" == Value.type "dict") = false := by decide
        have hl1 : (sh.heap.push (nset led)).IsList l its := ⟨_, hol', rfl, nl, rfl⟩
        unfold Builtin.«set.__init__» noKeywords Builtin.Frozenset.updateFrom; generalize hPI : pyIter = PI; wp_walk; subst hPI
        refine wpAny_pyIter_list hl1 (wpAny_bind (wpAny_runValue ?_))
        have hlS : l < sh.heap.objs.size := Heap.lt_size hol; have hh3 : Ar.in1.in1.in1.handled = none := by simp [hh]
        have sz : (sh.heap.push (nset led)).objs.size = sh.heap.objs.size + 1 := Heap.size_push ..
        have n1 : l ≠ (sh.heap.push (nset led)).objs.size := by rw [sz]; exact Nat.ne_of_lt (Nat.lt_succ_of_lt hlS)
        have n2 : sh.heap.objs.size ∉ [(sh.heap.push (nset led)).objs.size, l] := by rw [sz]; simp only [List.mem_cons, List.not_mem_nil, or_false, not_or]; exact ⟨Nat.ne_of_lt (Nat.lt_succ_self _), Nat.ne_of_gt hlS⟩
        refine set_go (kd := kd) ((Walks.list hh3 _ l n1 its).toS) sh.heap.objs.size n2 f hf hb (its.size - 0) 0 _ (by omega) (Nat.zero_le _) ⟨⟨_, Heap.get?_push_size _ rfl, rfl, rfl⟩, (hl1.push _)⟩ ?a0 ?a1
        case a0 =>
          have hget : ((sh.heap.push (nset led)).push { cls := .type "list_iterator", data := .fields #[.ref l, .int 0 0] }).get? sh.heap.objs.size = some (nset led) := Heap.get?_push_of_some _ hS
          exact SetOf_congr ((setObjOf_fresh (knd := kd) led).setOf hget (by unfold scanBound; omega)) (fun _ => rfl) rfl
        case a1 =>
          intro s3 hm hS3; obtain ⟨h', g', d', tk', os'⟩ := s3
          have eg : g' = sh.gens := hm.gens; have ed : d' = sh.drawn := hm.drawn; have eo : os' = sh.os := hm.os; subst eg; subst ed; subst eo
          show wpAny _ _ _ _ _ _; refine wpAny_pure ?_; show wpAny _ _ (ret Value.none) _ _ _
          refine wpAny_pure ⟨rfl, h', tk', rfl, hS3, fun b o hb e => ?_⟩
          have m1 : b ≠ sh.heap.objs.size := Nat.ne_of_lt hb; have m2 : b ≠ (sh.heap.push (nset led)).objs.size := by rw [sz]; exact Nat.ne_of_lt (Nat.lt_succ_of_lt hb)
          exact hm.heap b o (by simp only [List.mem_cons, List.not_mem_nil, or_false, not_or]; exact ⟨m1, m2⟩) (Heap.get?_push_of_some _ (Heap.get?_push_of_some _ e))
      · cases r2 with
        | error e => exact hr2
        | ok fl2 =>
          cases fl2 with
          | ret r =>
            obtain ⟨rfl, h', tk, rfl, hS4, hk⟩ := hr2
            repeat (any_goals (first | assumption | wp_step))
            exact q _ _ hS4 hk
          | next => exact hr2.elim
          | brk => exact hr2.elim
          | cont => exact hr2.elim
    | next => exact hr.elim
    | brk => exact hr.elim
    | cont => exact hr.elim
end
end Ev
/-! Ev1: a small interpreter over values that are trees; mutable things stand in the frame (own) or in a store (ref). -/
namespace Ev
open PySem L2
inductive D where
  | non | bl (b : Bool) | int (i : Int) | str (s : Str)
  | tup (l : List D) | lst (l : List D) | dct (t : Bool) (l : List (D × D)) | scr (l : List Int) | ref (l : Nat)
mutual
def D.same : D → D → Bool
  | .non, .non => true
  | .bl a, .bl b => a == b
  | .int a, .int b => decide (a = b)
  | .str a, .str b => decide (a = b)
  | .tup a, .tup b => D.sames a b
  | .lst a, .lst b => D.sames a b
  | .dct s a, .dct t b => s == t && D.samek a b
  | .scr a, .scr b => decide (a = b)
  | .ref a, .ref b => decide (a = b)
  | _, _ => false
def D.sames : List D → List D → Bool
  | [], [] => true
  | x :: r, y :: q => D.same x y && D.sames r q
  | _, _ => false
def D.samek : List (D × D) → List (D × D) → Bool
  | [], [] => true
  | (k, v) :: r, (j, w) :: q => D.same k j && D.same v w && D.samek r q
  | _, _ => false
end
mutual
theorem D.same_eq : ∀ a b : D, D.same a b = true → a = b
  | .non, b, h => by cases b <;> simp_all [D.same]
  | .bl _, b, h => by cases b <;> simp_all [D.same]
  | .int _, b, h => by cases b <;> simp_all [D.same]
  | .str _, b, h => by cases b <;> simp_all [D.same]
  | .scr _, b, h => by cases b <;> simp_all [D.same]
  | .ref _, b, h => by cases b <;> simp_all [D.same]
  | .tup x, b, h => by
    cases b <;> simp [D.same] at h
    rw [D.sames_eq _ _ h]
  | .lst x, b, h => by
    cases b <;> simp [D.same] at h
    rw [D.sames_eq _ _ h]
  | .dct s x, b, h => by
    cases b <;> simp [D.same] at h
    rw [D.samek_eq _ _ h.2, h.1]
theorem D.sames_eq : ∀ a b : List D, D.sames a b = true → a = b
  | [], b, h => by cases b <;> simp_all [D.sames]
  | x :: r, b, h => by
    cases b with
    | nil => simp [D.sames] at h
    | cons y q =>
      simp [D.sames] at h
      rw [D.same_eq _ _ h.1, D.sames_eq _ _ h.2]
theorem D.samek_eq : ∀ a b : List (D × D), D.samek a b = true → a = b
  | [], b, h => by cases b <;> simp_all [D.samek]
  | (k, v) :: r, b, h => by
    cases b with
    | nil => simp [D.samek] at h
    | cons y q =>
      obtain ⟨j, w⟩ := y
      simp [D.samek] at h
      rw [D.same_eq _ _ h.1.1, D.same_eq _ _ h.1.2, D.samek_eq _ _ h.2]
end
mutual
theorem D.same_refl : ∀ a : D, D.same a a = true
  | .non => by simp [D.same]
  | .bl _ => by simp [D.same]
  | .int _ => by simp [D.same]
  | .str _ => by simp [D.same]
  | .scr _ => by simp [D.same]
  | .ref _ => by simp [D.same]
  | .tup x => by simp [D.same, D.sames_refl x]
  | .lst x => by simp [D.same, D.sames_refl x]
  | .dct s x => by simp [D.same, D.samek_refl x]
theorem D.sames_refl : ∀ a : List D, D.sames a a = true
  | [] => by simp [D.sames]
  | x :: r => by simp [D.sames, D.same_refl x, D.sames_refl r]
theorem D.samek_refl : ∀ a : List (D × D), D.samek a a = true
  | [] => by simp [D.samek]
  | (k, v) :: r => by simp [D.samek, D.same_refl k, D.same_refl v, D.samek_refl r]
end
instance : DecidableEq D := fun a b => if h : D.same a b = true then .isTrue (D.same_eq a b h) else .isFalse fun e => h (e ▸ D.same_refl a)
/-- a mutable thing -/
inductive O where
  | lst (l : List D) | dct (t : Bool) (l : List (D × D)) | ins (c : String) (fs : List (String × D))
  deriving DecidableEq
def O.d : O → D
  | .lst l => .lst l
  | .dct t l => .dct t l
  | .ins _ _ => .non
def oOf : D → Option O
  | .lst l => some (.lst l)
  | .dct t l => some (.dct t l)
  | _ => none
abbrev Store := List O
inductive Res (α : Type) where
  | ok (a : α) (s : Store) | exc (c : String) (fs : List D) (s : Store) | bad
def Res.bind {α β : Type} (r : Res α) (f : α → Store → Res β) : Res β := match r with
  | .ok a s => f a s
  | .exc c x s => .exc c x s
  | .bad => .bad
@[simp] theorem Res.bind_ok {α β : Type} (a : α) (s : Store) (f : α → Store → Res β) : (Res.ok a s).bind f = f a s := rfl
@[simp] theorem Res.bind_bad {α β : Type} (f : α → Store → Res β) : (Res.bad : Res α).bind f = .bad := rfl
@[simp] theorem Res.bind_exc {α β : Type} (c : String) (x : List D) (s : Store) (f : α → Store → Res β) : (Res.exc c x s : Res α).bind f = .exc c x s := rfl
theorem Res.bind_eq {α β : Type} {r : Res α} {f : α → Store → Res β} {b : β} {s' : Store} (h : r.bind f = .ok b s') : ∃ a s, r = .ok a s ∧ f a s = .ok b s' := by
  cases r with
  | ok a s => exact ⟨a, s, rfl, h⟩
  | exc c x s => cases h
  | bad => cases h
def ofO {α : Type} (o : Option α) (st : Store) : Res α := match o with
  | some a => .ok a st
  | none => .bad
@[simp] theorem ofO_some {α : Type} (a : α) (st : Store) : ofO (some a) st = .ok a st := rfl
@[simp] theorem ofO_none {α : Type} (st : Store) : ofO (none : Option α) st = .bad := rfl
/-! ### what may be read -/
def asL (st : Store) : D → Option (List D)
  | .lst l => some l
  | .ref r => match st[r]? with
    | some (.lst l) => some l
    | _ => none
  | _ => none
/-- a list or the script -/
def asR (st : Store) : D → Option (List D)
  | .scr l => some (l.map .int)
  | d => asL st d
def asK (st : Store) : D → Option (Bool × List (D × D))
  | .dct t l => some (t, l)
  | .ref r => match st[r]? with
    | some (.dct t l) => some (t, l)
    | _ => none
  | _ => none
mutual
def toP (dr : Nat → Option PyData) : D → Option PyData
  | .non => some .none
  | .bl b => some (.bool b)
  | .int i => some (.int i)
  | .str s => some (.str s)
  | .tup l => (toPs dr l).map .tuple
  | .lst l => (toPs dr l).map .list
  | .scr l => some (.list (l.map .int))
  | .dct _ l => (toPk dr l).map .dict
  | .ref l => dr l
def toPs (dr : Nat → Option PyData) : List D → Option (List PyData)
  | [] => some []
  | x :: r => match toP dr x, toPs dr r with
    | some p, some q => some (p :: q)
    | _, _ => none
def toPk (dr : Nat → Option PyData) : List (D × D) → Option (List (PyData × PyData))
  | [] => some []
  | (k, v) :: r => match toP dr k, toP dr v, toPk dr r with
    | some p, some q, some z => some ((p, q) :: z)
    | _, _, _ => none
end
def no0 : Nat → Option PyData := fun _ => none
def dr1 (st : Store) (l : Nat) : Option PyData := match st[l]? with
  | some (.lst ds) => (toPs no0 ds).map .list
  | some (.dct _ ds) => (toPk no0 ds).map .dict
  | some (.ins _ _) => none
  | none => none
abbrev toPy (st : Store) : D → Option PyData := toP (dr1 st)
/-! ### operators -/
inductive BO where
  | add | sub | mul | fdiv | mod | pow
  deriving DecidableEq
inductive CO where
  | eq | ne | lt | le | gt | ge | is | isnot | isin | notin
  deriving DecidableEq
def mulOk (i j : Int) : Bool := decide (i.natAbs.log2 + j.natAbs.log2 < 1000000) || (decide (i.natAbs < 18446744073709551616) || decide (j.natAbs < 18446744073709551616))
def powOk (i j : Int) : Bool := decide (0 ≤ j) && decide ((Builtin.Int.intBits i : Int) * j ≤ 134217728)
def strL (s : Str) : List D := s.cps.toList.map fun c => .str ⟨#[c]⟩
def binop (o : BO) (x y : D) (st : Store) : Res D := match o, x, y with
  | .add, .int a, .int b => .ok (.int (a + b)) st
  | .add, .str a, .str b => if a.length + b.length ≤ sizeLine then .ok (.str (a ++ b)) st else .bad
  | .add, a, b => match asL st a, asL st b with
    | some xs, some ys => if xs.length + ys.length ≤ sizeLine then .ok (.lst (xs ++ ys)) st else .bad
    | _, _ => .bad
  | .sub, .int a, .int b => .ok (.int (a - b)) st
  | .mul, .int a, .int b => if mulOk a b = true then .ok (.int (a * b)) st else .bad
  | .mul, .str a, .int k => if 0 ≤ k ∧ k ≤ 1000 ∧ a.length ≤ 1000 then .ok (.str (if k < 1 then Str.empty else if (k == 1 || a.length == 0) = true then a else ⟨(List.replicate k.toNat a.cps).foldl (· ++ ·) #[]⟩)) st else .bad
  | .mul, a, .int k => match asL st a with
    | some xs => if -(2 ^ 63) ≤ k ∧ k < 2 ^ 63 ∧ xs.length * k.toNat ≤ sizeLine then .ok (.lst (List.replicate k.toNat xs).flatten) st else .bad
    | none => .bad
  | .fdiv, .int a, .int b => if 0 < b ∧ b.natAbs.log2 < 9000 then .ok (.int (a / b)) st else .bad
  | .mod, .int a, .int b => if 0 < b then .ok (.int (a % b)) st else .bad
  | .pow, .int a, .int b => if powOk a b = true then .ok (.int (a ^ b.toNat)) st else .bad
  | _, _, _ => .bad
/-- lists told apart by their lengths alone -/
def eqL (st : Store) (x y : D) : Option Bool := match asL st x, asL st y with
  | some l, some m => if l.length = m.length then (if l.length = 0 then some true else none) else some false
  | _, _ => none
def eqD (st : Store) (x y : D) : Option Bool := match x, y with
  | .int a, .int b => some (decide (a = b))
  | .str a, .str b => some (decide (a = b))
  | .bl a, .bl b => some (decide (a = b))
  | x, y => match toPy st x, toPy st y with
    | some p, some q => if SeqAt.shaped p = true ∧ SeqAt.shaped q = true then some (PyData.eqv p q) else eqL st x y
    | _, _ => eqL st x y
def flatD : D → Bool
  | .non => true
  | .bl _ => true
  | .int _ => true
  | .str _ => true
  | _ => false
def eqF : D → D → Bool
  | .non, .non => true
  | .bl a, .bl b => a == b
  | .bl a, .int b => (if a then 1 else 0) == b
  | .int a, .bl b => a == (if b then 1 else 0)
  | .int a, .int b => a == b
  | .str a, .str b => a == b
  | _, _ => false
def inF (x : D) (xs : List D) : Bool := xs.any fun y => eqF y x
def lookK (l : List (D × D)) (k : D) : Option D := match l with
  | [] => none
  | (j, v) :: r => if j = k then some v else lookK r k
/-- a key of a dict: an int, a text | a tuple of these -/
def key1 : D → Option Key
  | .int i => some (.inl i)
  | .str s => some (.inr s)
  | _ => none
def keys1 : List D → Option (List Key)
  | [] => some []
  | x :: r => match key1 x, keys1 r with
    | some k, some q => some (k :: q)
    | _, _ => none
def keyOk (t : Bool) (d : D) : Bool := match t, d with
  | false, d => (key1 d).isSome
  | true, .tup l => (keys1 l).isSome
  | true, _ => false
def inS (st : Store) (x y : D) : Option Bool := match x, y with
  | .str a, .str z => if a.length = 1 then some (decide (a.cps.toList.headD 0 ∈ z.cps.toList)) else none
  | x, .tup l => if flatD x = true ∧ l.all flatD = true then some (inF x l) else none
  | x, y => match asR st y with
    | some l => if flatD x = true ∧ l.all flatD = true then some (inF x l) else none
    | none => none
def inD (st : Store) (x y : D) : Option Bool := match asK st y with
  | some (t, l) => if keyOk t x = true then some (lookK l x).isSome else none
  | none => inS st x y
def cmpop (o : CO) (x y : D) (st : Store) : Option Bool := match o, x, y with
  | .lt, .int a, .int b => some (decide (a < b))
  | .le, .int a, .int b => some (decide (a ≤ b))
  | .gt, .int a, .int b => some (decide (b < a))
  | .ge, .int a, .int b => some (decide (b ≤ a))
  | .is, x, .non => some (decide (x = .non))
  | .isnot, x, .non => some (!decide (x = .non))
  | .is, .bl a, .bl b => some (decide (a = b))
  | .isnot, .bl a, .bl b => some (!decide (a = b))
  | .eq, x, y => eqD st x y
  | .ne, x, y => (eqD st x y).map fun b => !b
  | .isin, x, y => inD st x y
  | .notin, x, y => (inD st x y).map fun b => !b
  | _, _, _ => none
def truthD (x : D) : Option Bool := match x with
  | .bl b => some b
  | _ => none
def idxop (x i : D) (st : Store) : Option D := match x, i with
  | .tup l, .int k => atI l k
  | .str z, .int k => if z.length ≤ sizeLine then (atI z.cps.toList k).map fun c => .str ⟨#[c]⟩ else none
  | x, i => match asR st x with
    | some l => match i with
      | .int k => atI l k
      | _ => none
    | none => match asK st x with
      | some (t, l) => if keyOk t i = true then lookK l i else none
      | none => none
def slcop (x : D) (lo hi : Option Int) (st : Store) : Option D := match x with
  | .str z => if z.length ≤ sizeLine then some (.str (cutS z lo hi)) else none
  | .tup l => some (.tup ((l.drop (HT.sIx l.length 0 lo)).take (HT.sIx l.length l.length hi - HT.sIx l.length 0 lo)))
  | x => match asR st x with
    | some l => some (.lst ((l.drop (HT.sIx l.length 0 lo)).take (HT.sIx l.length l.length hi - HT.sIx l.length 0 lo)))
    | none => none
def lenD (st : Store) (x : D) : Option Nat := match x with
  | .str z => if z.length ≤ sizeLine then some z.length else none
  | .tup l => some l.length
  | x => match asR st x with
    | some l => some l.length
    | none => match asK st x with
      | some (false, l) => some l.length
      | _ => none
def allB : List D → Option Bool
  | [] => some true
  | .bl b :: r => (allB r).map fun c => b && c
  | _ :: _ => none
def anyB : List D → Option Bool
  | [] => some false
  | .bl b :: r => (anyB r).map fun c => b || c
  | _ :: _ => none
def allI : List D → Option (List Int)
  | [] => some []
  | .int i :: r => (allI r).map fun c => i :: c
  | _ :: _ => none
def allS : List D → Option (List Str)
  | [] => some []
  | .str i :: r => (allS r).map fun c => i :: c
  | _ :: _ => none
/-- how many different texts or ints -/
def nsetD (l : List D) : Option Nat := if l.length + 1 < 4096 then (match allS l with
  | some ks => some (ks.foldl PyProof.Rows.step_dedup []).length
  | none => (allI l).map fun ks => (ks.foldl PyProof.Rows.step_dedup []).length) else none
def sortI (ns : List Int) : List Int := ns.mergeSort fun a b => decide (a ≤ b)
/-- texts in order -/
def leS (a b : Str) : Bool := !PySem.Spec.ltCps b.cps.toList a.cps.toList
def sortS (ks : List Str) : List Str := ks.mergeSort leS
/-- the least of them, None of none -/
def minO (ns : List Int) : D := match ns.min? with
  | some m => .int m
  | none => .non
def callB (f : String) (args : List D) (st : Store) : Res D := match f, args with
  | "len", [x] => (ofO (lenD st x) st).bind fun n st => .ok (.int n) st
  | "abs", [.int i] => .ok (.int (if i < 0 then -i else i)) st
  | "max", [.int i, .int j] => .ok (.int (if j > i then j else i)) st
  | "min", [.int i, .int j] => .ok (.int (if j < i then j else i)) st
  | "int", [.int i] => .ok (.int i) st
  | "int", [.bl b] => .ok (.int (if b then 1 else 0)) st
  | "str", [.int i] => if i.natAbs.log2 < 1920 then .ok (.str (toString i)) st else .bad
  | "all", [x] => match asL st x with
    | some l => (ofO (allB l) st).bind fun b st => .ok (.bl b) st
    | none => .bad
  | "any", [x] => match asL st x with
    | some l => (ofO (anyB l) st).bind fun b st => .ok (.bl b) st
    | none => .bad
  | "sum", [x] => match asL st x with
    | some l => (ofO (allI l) st).bind fun b st => .ok (.int b.sum) st
    | none => .bad
  | "list", [x] => match x with
    | .tup l => .ok (.lst l) st
    | .str s => if s.length ≤ sizeLine then .ok (.lst (strL s)) st else .bad
    | x => match asR st x with
      | some l => .ok (.lst l) st
      | none => .bad
  | "tuple", [x] => match x with
    | .tup l => .ok (.tup l) st
    | x => match asR st x with
      | some l => .ok (.tup l) st
      | none => .bad
  | "repr", [x] => match toPy st x with
    | some p => if p.showable = true ∧ p.shown.length ≤ sizeLine ∧ p.depth ≤ 60 then .ok (.str p.shown) st else .bad
    | none => .bad
  | "bool", [.int i] => .ok (.bl (i != 0)) st
  | "bool", [.bl b] => .ok (.bl b) st
  | "sorted", [x] => match asR st x with
    | some l => match allI l with
      | some ns => .ok (.lst ((sortI ns).map .int)) st
      | none => match allS l with
        | some ks => if ks.length < 64 then .ok (.lst ((sortS ks).map .str)) st else .bad
        | none => .bad
    | none => match asK st x with
      | some (false, l) => match allS (l.map (·.1)) with
        | some ks => if ks.length < 64 then .ok (.lst ((sortS ks).map .str)) st else .bad
        | none => .bad
      | _ => .bad
  | "max", [x] => match asR st x with
    | some l => (ofO (allI l) st).bind fun ns st => (ofO ns.max? st).bind fun m st => .ok (.int m) st
    | none => .bad
  | "min", [x] => match asR st x with
    | some l => (ofO (allI l) st).bind fun ns st => (ofO ns.min? st).bind fun m st => .ok (.int m) st
    | none => .bad
  | _, _ => .bad
mutual
/-- no list, no dict in it -/
def noL : D → Bool
  | .non => true
  | .bl _ => true
  | .int _ => true
  | .str _ => true
  | .scr _ => true
  | .ref _ => true
  | .tup l => noLs l
  | .lst _ => false
  | .dct _ _ => false
def noLs : List D → Bool
  | [] => true
  | x :: r => noL x && noLs r
end
def noLk : List (D × D) → Bool
  | [] => true
  | (k, v) :: r => noL k && (noL v && noLk r)
def noLO : O → Bool
  | .lst l => noLs l
  | .dct _ l => noLk l
  | .ins _ fs => fs.all fun p => noL p.2
/-- what may come back from a def that was shown the frame's own things -/
def okX (fr : Bool) (d : D) (st : Store) : Bool := (noL d || (fr && (match d with
  | .lst l => noLs l
  | .dct _ l => noLk l
  | _ => false))) && st.all noLO
/-- a type's name -/
def tyN (st : Store) (x : D) : Option String := match x with
  | .non => some "NoneType"
  | .bl _ => some "bool"
  | .int _ => some "int"
  | .str _ => some "str"
  | .tup _ => some "tuple"
  | .lst _ => some "list"
  | .scr _ => some "list"
  | .dct _ _ => some "dict"
  | .ref r => match st[r]? with
    | some (.lst _) => some "list"
    | some (.dct _ _) => some "dict"
    | some (.ins _ _) => none
    | none => none
def isT (a b : String) : Bool := (a == b) || (a == "bool" && b == "int")
def isTy (st : Store) (x : D) (ty : String) : Option Bool := (tyN st x).map fun a => isT a ty
/-- what a method wants of its thing ahead of the arguments -/
def mthP (m : String) (x : D) (st : Store) : Bool := match m with
  | "get" => (asK st x).isSome
  | "index" => (asL st x).isSome
  | "count" => (asL st x).isSome
  | _ => false
/-- methods that change nothing -/
def mthR (m : String) (x : D) (args : List D) (st : Store) : Option D := match m, args with
  | "get", [k] => match asK st x with
    | some (t, l) => if keyOk t k = true then some ((lookK l k).getD .non) else none
    | none => none
  | "get", [k, y] => match asK st x with
    | some (t, l) => if keyOk t k = true then some ((lookK l k).getD y) else none
    | none => none
  | "index", [y] => match asL st x with
    | some l => if flatD y = true ∧ l.all flatD = true then (l.findIdx? fun z => eqF z y).map fun j => .int (j : Nat) else none
    | none => none
  | "count", [y] => match asL st x with
    | some l => if flatD y = true ∧ l.all flatD = true then some (.int (l.countP fun z => eqF z y : Nat)) else none
    | none => none
  | _, _ => none
def putD (l : List (D × D)) (k v : D) : List (D × D) :=
  if (l.any fun p => decide (p.1 = k)) = true then l.map fun p => if p.1 = k then (p.1, v) else p else l ++ [(k, v)]
/-- methods that change a list: the answer and the list behind it -/
def mthW (m : String) (l : List D) (args : List D) (st : Store) : Option (D × List D) := match m, args with
  | "append", [x] => if l.length < sizeLine then some (.non, l ++ [x]) else none
  | "extend", [x] => match asL st x with
    | some q => if l.length + q.length ≤ sizeLine then some (.non, l ++ q) else none
    | none => none
  | "pop", [] => match l[l.length - 1]? with
    | some y => some (y, l.dropLast)
    | none => none
  | "pop", [.int i] => match ixN l.length i with
    | some k => match l[k]? with
      | some y => if -(2 ^ 63) ≤ i ∧ i < 2 ^ 63 then some (y, l.eraseIdx k) else none
      | none => none
    | none => none
  | "reverse", [] => some (.non, l.reverse)
  | "insert", [.int i, x] => if l.length < sizeLine ∧ 0 ≤ i ∧ i < 2 ^ 63 then some (.non, l.take i.toNat ++ [x] ++ l.drop i.toNat) else none
  | "clear", [] => some (.non, [])
  | _, _ => none
/-- o[k] = v -/
def setW (o : O) (k v : D) : Option O := match o with
  | .lst l => match k with
    | .int i => (ixN l.length i).map fun j => .lst (l.set j v)
    | _ => none
  | .dct t l => if keyOk t k = true ∧ l.length < sizeLine then some (.dct t (putD l k v)) else none
  | .ins _ _ => none
/-- pairs for a dict -/
def pairD : D → Option (D × D)
  | .tup [k, v] => if (key1 k).isSome = true then some (k, v) else none
  | _ => none
def pairsD : List D → Option (List (D × D))
  | [] => some []
  | d :: r => match pairD d, pairsD r with
    | some p, some q => some (p :: q)
    | _, _ => none
def mergeD (l more : List (D × D)) : List (D × D) := more.foldl (fun a p => putD a p.1 p.2) l
/-! ### the text -/
inductive EV where
  | un | v (d : D) | own (o : O)
abbrev Env := List EV
/-- a target: a name, a tuple of names -/
inductive CG where
  | nm (i : Nat) | tup (is : List Nat)
mutual
inductive CE where
  | bad
  | cst (d : D)
  | var (i : Nat)
  | glo (x : String)
  | bin (o : BO) (a b : CE)
  | neg (a : CE)
  | not (a : CE)
  | and (a b : CE)
  | or (a b : CE)
  | cmp (o : CO) (a b : CE)
  | cmp2 (o o' : CO) (a b c : CE)
  | ife (c a b : CE)
  | idx (a i : CE)
  | slc (a : CE) (lo hi : CO2)
  | tup (es : CEs)
  | lst (es : CEs)
  | dnew (t : Bool)
  | lc (vs : List Nat) (g : CG) (it : CI) (c : CO2) (e : CE)
  | call (f : String) (es : CEs)
  | blt (f : String) (es : CEs)
  | isi (a : CE) (ty : String)
  | mth (m : String) (a : CE) (es : CEs)
  | mut (m : String) (i : Nat) (es : CEs)
  | lset (a : CE)
  | callF (f : String) (es : CEs)
  | callO (fr : Bool) (f : String) (es : CEs)
  | rev (a : CE)
  | mutX (m : String) (a : CE) (es : CEs)
  | minD (a : CE)
  | dc (vs : List Nat) (g : CG) (it : CI) (c : CO2) (k v : CE)
  | fld (a : CE) (f : String)
  | meth (cs : List String) (m : String) (a : CE) (es : CEs)
  | mkI (c : String) (es : CEs)
  | setd (a k : CE)
  | dcp (a : CE)
inductive CO2 where
  | no | so (e : CE)
inductive CEs where
  | nil | cons (e : CE) (r : CEs)
inductive CI where
  | bad
  | own (i : Nat)
  | seq (e : CE)
  | rng1 (a : CE)
  | rng2 (a b : CE)
  | rngD (a b : CE)
  | enum (e : CE)
  | zip (a b : CE)
end
mutual
inductive CS where
  | bad
  | asg (g : CG) (e : CE)
  | asgO (i : Nat) (e : CE)
  | asgR (i : Nat) (e : CE)
  | setX (a k e : CE)
  | setF (fr : Bool) (c : String) (a : CE) (f : String) (e : CE)
  | par (gs : List (Nat × Nat)) (es : CEs)
  | aug (i : Nat) (o : BO) (e : CE)
  | ex (e : CE)
  | mcall (i : Nat) (m : String) (es : CEs)
  | mcallTo (j i : Nat) (m : String) (es : CEs)
  | setI (i : Nat) (k e : CE)
  | setIs (ts : CTs) (es : CEs)
  | ret (e : CE)
  | retN
  | retR (e : CE)
  | giveO (i : Nat)
  | retO (i : Nat)
  | ite (c : CE) (a b : CSs)
  | for_ (g : CG) (it : CI) (b : CSs)
  | while_ (c : CE) (b : CSs)
  | brk | cont | pass
inductive CSs where
  | nil | cons (s : CS) (r : CSs) | frz (i : Nat) (r : CSs)
inductive CTs where
  | nil | cons (i : Nat) (k : CE) (r : CTs)
end
structure CDef where
  nps : Nat
  nsl : Nat
  dfl : List D
  body : CSs
structure Prog where
  defs : List (String × CDef)
  glob : List (String × D)
def assoc {α : Type} (l : List (String × α)) (x : String) : Option α := match l with
  | [] => none
  | (y, a) :: r => if y = x then some a else assoc r x
inductive Out where
  | nx (env : Env) | ret (d : D) | brk (env : Env) | cont (env : Env)
/-! ### running -/
inductive Chk where
  | no | rf (l : Nat) (ds : List D) | ow
def Chk.ok (c : Chk) (st : Store) : Bool := match c with
  | .no => true
  | .rf l ds => match st[l]? with
    | some (.lst q) => D.sames q ds
    | _ => false
  | .ow => true
def Chk.isOw (c : Chk) : Bool := match c with
  | .ow => true
  | _ => false
def setAll : List Nat → List D → Env → Option Env
  | [], [], env => some env
  | i :: r, d :: q, env => setAll r q (env.set i (.v d))
  | _, _, _ => none
def assignG (g : CG) (d : D) (env : Env) : Option Env := match g with
  | .nm i => some (env.set i (.v d))
  | .tup is => match d with
    | .tup ds => setAll is ds env
    | _ => none
def wipeE (env : Env) : List Nat → Env
  | [] => env
  | v :: vs => (wipeE env vs).set v .un
def lcGo (body : D → Store → Res (Option D)) (ck : Store → Bool) : List D → Store → Res (List D)
  | [], st => if ck st = true then .ok [] st else .bad
  | x :: xs, st => if ck st = true then (body x st).bind fun y st => (lcGo body ck xs st).bind fun ys st => .ok (match y with
      | some d => d :: ys
      | none => ys) st else .bad
/-- the turns of a dict comprehension: what stands in the dict so far -/
def dcGo (body : D → Store → Res (Option (D × D))) (ck : Store → Bool) : List D → List (D × D) → Store → Res (List (D × D))
  | [], acc, st => if ck st = true then .ok acc st else .bad
  | x :: xs, acc, st => if ck st = true then (body x st).bind fun y st => match y with
      | some p => if keyOk false p.1 = true ∧ acc.length < sizeLine then dcGo body ck xs (putD acc p.1 p.2) st else .bad
      | none => dcGo body ck xs acc st
    else .bad
def forGo (asg : D → Env → Option Env) (body : Env → Store → Res Out) (ck : Store → Bool) : List D → Env → Store → Res Out
  | [], env, st => if ck st = true then .ok (.nx env) st else .bad
  | x :: xs, env, st => if ck st = true then match asg x env with
    | none => .bad
    | some env1 => (body env1 st).bind fun o st => match o with
      | .nx e => forGo asg body ck xs e st
      | .cont e => forGo asg body ck xs e st
      | .brk e => .ok (.nx e) st
      | .ret d => .ok (.ret d) st
    else .bad
def whileGo (c : Env → Store → Res Bool) (body : Env → Store → Res Out) : Nat → Env → Store → Res Out
  | 0, _, _ => .bad
  | n + 1, env, st => (c env st).bind fun b st => match b with
    | false => .ok (.nx env) st
    | true => (body env st).bind fun o st => match o with
      | .nx e => whileGo c body n e st
      | .cont e => whileGo c body n e st
      | .brk e => .ok (.nx e) st
      | .ret d => .ok (.ret d) st
def rngL (lo : Int) (n : Nat) : List D := (List.range n).map fun i => .int (lo + (i : Nat))
def rngDn (lo : Int) (n : Nat) : List D := (List.range n).map fun i => .int (lo - (i : Nat))
def enumL (i : Nat) : List D → List D
  | [] => []
  | x :: r => .tup [.int (i : Nat), x] :: enumL (i + 1) r
def zipL : List D → List D → List D
  | x :: r, y :: q => .tup [x, y] :: zipL r q
  | _, _ => []
def tst (r : Res D) : Res Bool := r.bind fun x st => ofO (truthD x) st
def seqI (x : D) (st : Store) : Option (List D × Chk) := match x with
  | .lst l => some (l, .no)
  | .tup l => some (l, .no)
  | .scr l => some (l.map .int, .no)
  | .str s => some (strL s, .no)
  | .ref r => match st[r]? with
    | some (.lst l) => some (l, .rf r l)
    | _ => none
  | _ => none
def viewI (i : Nat) (env : Env) (st : Store) : Option (List D × Chk) := match env[i]? with
  | some (.own (.lst l)) => some (l, .ow)
  | some (.v d) => seqI d st
  | _ => none
def in62 (i : Int) : Bool := decide (-(2 ^ 62) ≤ i) && decide (i < 2 ^ 62)
def varE (w : Bool) (i : Nat) (env : Env) : Option D := match env[i]? with
  | some (.v d) => some d
  | some (.own o) => if w = true then some o.d else none
  | _ => none
section
variable (cl : String → List D → Store → Res D) (gl : String → Option D)
mutual
/-- an expression; w: an own thing may be looked at -/
def ev (w : Bool) : CE → Env → Store → Res D
  | .bad, _, _ => .bad
  | .cst d, _, st => .ok d st
  | .var i, env, st => ofO (varE w i env) st
  | .glo x, _, st => ofO (gl x) st
  | .bin o a b, env, st => (ev true a env st).bind fun x st => (ev true b env st).bind fun y st => binop o x y st
  | .neg a, env, st => (ev false a env st).bind fun x st => match x with
    | .int i => .ok (.int (-i)) st
    | _ => .bad
  | .not a, env, st => (tst (ev false a env st)).bind fun b st => .ok (.bl (!b)) st
  | .and a b, env, st => (tst (ev false a env st)).bind fun x st => match x with
    | true => (tst (ev false b env st)).bind fun y st => .ok (.bl y) st
    | false => .ok (.bl false) st
  | .or a b, env, st => (tst (ev false a env st)).bind fun x st => match x with
    | true => .ok (.bl true) st
    | false => (tst (ev false b env st)).bind fun y st => .ok (.bl y) st
  | .cmp o a b, env, st => (ev true a env st).bind fun x st => (ev true b env st).bind fun y st => (ofO (cmpop o x y st) st).bind fun r st => .ok (.bl r) st
  | .cmp2 o o' a b c, env, st => (ev true a env st).bind fun x st => (ev true b env st).bind fun y st => (ofO (cmpop o x y st) st).bind fun r st => match r with
    | false => .ok (.bl false) st
    | true => (ev true c env st).bind fun z st => (ofO (cmpop o' y z st) st).bind fun r st => .ok (.bl r) st
  | .ife c a b, env, st => (tst (ev false c env st)).bind fun r st => match r with
    | true => ev false a env st
    | false => ev false b env st
  | .idx a i, env, st => (ev true a env st).bind fun x st => (ev false i env st).bind fun y st => ofO (idxop x y st) st
  | .slc a lo hi, env, st => (ev true a env st).bind fun x st => (evO lo env st).bind fun l st => (evO hi env st).bind fun h st => ofO (slcop x l h st) st
  | .tup es, env, st => (evEs false es env st).bind fun ds st => if ds.length ≤ sizeLine then .ok (.tup ds) st else .bad
  | .lst es, env, st => (evEs false es env st).bind fun ds st => if ds.length ≤ sizeLine then .ok (.lst ds) st else .bad
  | .dnew t, _, st => .ok (.dct t []) st
  | .lc vs g it c e, env, st => (evI it env st).bind fun p st => if p.1.length ≤ sizeLine then (lcGo (fun x st => match assignG g x (wipeE env vs) with
      | none => .bad
      | some env1 => (evC c env1 st).bind fun b st => match b with
        | true => (ev false e env1 st).bind fun d st => .ok (some d) st
        | false => .ok none st) p.2.ok p.1 st).bind fun ds st => .ok (.lst ds) st else .bad
  | .dc vs g it c k v, env, st => (evI it env st).bind fun p st => (dcGo (fun x st => match assignG g x (wipeE env vs) with
      | none => .bad
      | some env1 => (evC c env1 st).bind fun b st => match b with
        | true => (ev false k env1 st).bind fun d st => (ev false v env1 st).bind fun y st => .ok (some (d, y)) st
        | false => .ok none st) p.2.ok p.1 [] st).bind fun l st => .ok (.dct false l) st
  | .call f es, env, st => (evEs false es env st).bind fun ds st => cl f ds st
  | .callF f es, env, st => (evEs false es env st).bind fun ds st => cl f ds st
  | .callO fr f es, env, st => (evEs true es env st).bind fun ds st => (cl f ds st).bind fun d st => if okX fr d st = true then .ok d st else .bad
  | .blt f es, env, st => (evEs true es env st).bind fun ds st => callB f ds st
  | .isi a ty, env, st => (ev true a env st).bind fun x st => (ofO (isTy st x ty) st).bind fun b st => .ok (.bl b) st
  | .mth m a es, env, st => (ev true a env st).bind fun x st => if mthP m x st = true then (evEs false es env st).bind fun ds st => ofO (mthR m x ds st) st else .bad
  | .lset a, env, st => (ev true a env st).bind fun x st => match asL st x with
    | some l => (ofO (nsetD l) st).bind fun n st => .ok (.int n) st
    | none => .bad
  | .rev a, env, st => (ev true a env st).bind fun x st => match asR st x with
    | some l => .ok (.lst l.reverse) st
    | none => .bad
  | .mut m i es, env, st => match env[i]? with
    | some (.v (.ref l)) => match st[l]? with
      | some (.lst _) => (evEs false es env st).bind fun ds st => match st[l]? with
        | some (.lst o) => (ofO (mthW m o ds st) st).bind fun p st => .ok p.1 (st.set l (.lst p.2))
        | _ => .bad
      | _ => .bad
    | _ => .bad
  | .fld a f, env, st => (ev false a env st).bind fun x st => match x with
    | .ref l => match st[l]? with
      | some (.ins _ fs) => ofO (assoc fs f) st
      | _ => .bad
    | _ => .bad
  | .meth cs m a es, env, st => (ev false a env st).bind fun x st => match x with
    | .ref l => match st[l]? with
      | some (.ins c fs) => if cs.contains c = true ∧ assoc fs m = none then (evEs false es env st).bind fun ds st => cl (c ++ "." ++ m) (.ref l :: ds) st else .bad
      | _ => .bad
    | _ => .bad
  | .mkI c es, env, st => (evEs false es env st).bind fun ds st => (cl (c ++ ".__init__") (.ref st.length :: ds) (st ++ [.ins c []])).bind fun d s => match d with
    | .non => .ok (.ref st.length) s
    | _ => .bad
  | .dcp a, env, st => (ev true a env st).bind fun x st => match asL st x with
    | some l => (ofO (pairsD l) st).bind fun ps st => .ok (.dct false (mergeD [] ps)) st
    | none => .bad
  | .setd a k, env, st => (ev false a env st).bind fun x st => match x with
    | .ref l => match st[l]? with
      | some (.dct _ _) => (ev false k env st).bind fun y st => match st[l]? with
        | some (.dct t kvs) => if t = false ∧ keyOk false y = true ∧ kvs.length < sizeLine then (match lookK kvs y with
          | some d => .ok d st
          | none => .ok (.ref st.length) ((st ++ [O.lst []]).set l (.dct false (putD kvs y (.ref st.length))))) else .bad
        | _ => .bad
      | _ => .bad
    | _ => .bad
  | .minD a, env, st => (ev true a env st).bind fun x st => match asL st x with
    | some l => (ofO (allI l) st).bind fun ns st => .ok (minO ns) st
    | none => .bad
  | .mutX m a es, env, st => (ev false a env st).bind fun x st => match x with
    | .ref l => match st[l]? with
      | some (.lst _) => (evEs false es env st).bind fun ds st => match st[l]? with
        | some (.lst o) => (ofO (mthW m o ds st) st).bind fun p st => .ok p.1 (st.set l (.lst p.2))
        | _ => .bad
      | _ => .bad
    | _ => .bad
def evO : CO2 → Env → Store → Res (Option Int)
  | .no, _, st => .ok none st
  | .so e, env, st => (ev false e env st).bind fun x st => match x with
    | .int i => .ok (some i) st
    | _ => .bad
def evC : CO2 → Env → Store → Res Bool
  | .no, _, st => .ok true st
  | .so e, env, st => tst (ev false e env st)
def evEs (w : Bool) : CEs → Env → Store → Res (List D)
  | .nil, _, st => .ok [] st
  | .cons e r, env, st => (ev w e env st).bind fun d st => (evEs w r env st).bind fun ds st => .ok (d :: ds) st
def evI : CI → Env → Store → Res (List D × Chk)
  | .bad, _, _ => .bad
  | .own i, env, st => ofO (viewI i env st) st
  | .seq e, env, st => (ev false e env st).bind fun x st => ofO (seqI x st) st
  | .rng1 a, env, st => (ev false a env st).bind fun x st => match x with
    | .int n => if in62 n = true then .ok (rngL 0 n.toNat, .no) st else .bad
    | _ => .bad
  | .rng2 a b, env, st => (ev false a env st).bind fun x st => (ev false b env st).bind fun y st => match x, y with
    | .int m, .int n => if in62 m = true ∧ in62 n = true then .ok (rngL m (n - m).toNat, .no) st else .bad
    | _, _ => .bad
  | .rngD a b, env, st => (ev false a env st).bind fun x st => (ev false b env st).bind fun y st => match x, y with
    | .int m, .int n => if in62 m = true ∧ in62 n = true then .ok (rngDn m (m - n).toNat, .no) st else .bad
    | _, _ => .bad
  | .enum e, env, st => (ev false e env st).bind fun x st => (ofO (seqI x st) st).bind fun p st => match x with
    | .str _ => .bad
    | .tup _ => .bad
    | _ => .ok (enumL 0 p.1, p.2) st
  | .zip a b, env, st => (ev false a env st).bind fun x st => (ev false b env st).bind fun y st => match x, y with
    | .lst p, .lst q => .ok (zipL p q, .no) st
    | _, _ => .bad
end
/-- a thing for the frame, of what an expression made -/
def own1 (d : D) : Option EV := (oOf d).map .own
def ownV (d : D) : EV := match oOf d with
  | some o => .own o
  | none => .v d
def putK (k : Nat) (d : D) (st : Store) : Option (EV × Store) := match k with
  | 0 => some (.v d, st)
  | 1 => (own1 d).map fun e => (e, st)
  | _ => (oOf d).map fun o => (.v (.ref st.length), st ++ [o])
def parGo : List (Nat × Nat) → List D → Env → Store → Res Out
  | [], [], env, st => .ok (.nx env) st
  | (k, i) :: r, d :: q, env, st => (ofO (putK k d st) st).bind fun p _ => parGo r q (env.set i p.1) p.2
  | _, _, _, _ => .bad
/-- the attributes behind o.f = d -/
def putA (fs : List (String × D)) (f : String) (d : D) : List (String × D) := match fs with
  | [] => [(f, d)]
  | (g, x) :: r => if g = f then (g, d) :: r else (g, x) :: putA r f d
/-- a value for an attribute: a new thing goes to the store -/
def stoV (fr : Bool) (d : D) (st : Store) : D × Store := match fr, oOf d with
  | true, some o => (.ref st.length, st ++ [o])
  | _, _ => (d, st)
variable (wf : Nat)
mutual
def evS : CS → Env → Store → Res Out
  | .bad, _, _ => .bad
  | .asg g e, env, st => (ev cl gl false e env st).bind fun d st => (ofO (assignG g d env) st).bind fun env st => .ok (.nx env) st
  | .asgO i e, env, st => (ev cl gl false e env st).bind fun d st => .ok (.nx (env.set i (ownV d))) st
  | .asgR i e, env, st => (ev cl gl false e env st).bind fun d st => (ofO (oOf d) st).bind fun o st => .ok (.nx (env.set i (.v (.ref st.length)))) (st ++ [o])
  | .setX a k e, env, st => (ev cl gl false e env st).bind fun d st => (ev cl gl false a env st).bind fun x st => (ev cl gl false k env st).bind fun y st => match x with
    | .ref l => match st[l]? with
      | some o => (ofO (setW o y d) st).bind fun p st => .ok (.nx env) (st.set l p)
      | none => .bad
    | _ => .bad
  | .setF fr c a f e, env, st => (ev cl gl false e env st).bind fun d st => (ev cl gl false a env (stoV fr d st).2).bind fun x s => match x with
    | .ref l => match s[l]? with
      | some (.ins c' fs) => if c' = c ∧ fs.length < 900 then .ok (.nx env) (s.set l (.ins c' (putA fs f (stoV fr d st).1))) else .bad
      | _ => .bad
    | _ => .bad
  | .par gs es, env, st => (evEs cl gl false es env st).bind fun ds st => parGo gs ds env st
  | .aug i o e, env, st => (ofO (varE true i env) st).bind fun x st => (ev cl gl true e env st).bind fun y st => (binop o x y st).bind fun z st => match z with
    | .int _ => .ok (.nx (env.set i (.v z))) st
    | _ => .bad
  | .ex e, env, st => (ev cl gl false e env st).bind fun _ st => .ok (.nx env) st
  | .mcall i m es, env, st => match env[i]? with
    | some (.own (.lst o)) => (evEs cl gl false es env st).bind fun ds st => (ofO (mthW m o ds st) st).bind fun p st => .ok (.nx (env.set i (.own (.lst p.2)))) st
    | some (.v (.ref l)) => match st[l]? with
      | some (.lst _) => (evEs cl gl false es env st).bind fun ds st => match st[l]? with
        | some (.lst o) => (ofO (mthW m o ds st) st).bind fun p st => .ok (.nx env) (st.set l (.lst p.2))
        | _ => .bad
      | _ => .bad
    | _ => .bad
  | .mcallTo j i m es, env, st => match env[i]? with
    | some (.own (.lst o)) => (evEs cl gl false es env st).bind fun ds st => (ofO (mthW m o ds st) st).bind fun p st => .ok (.nx ((env.set i (.own (.lst p.2))).set j (.v p.1))) st
    | _ => .bad
  | .setI i k e, env, st => (ev cl gl false e env st).bind fun d st => match env[i]? with
    | some (.own o) => (ev cl gl false k env st).bind fun x st => (ofO (setW o x d) st).bind fun p st => .ok (.nx (env.set i (.own p))) st
    | some (.v (.ref l)) => (ev cl gl false k env st).bind fun x st => match st[l]? with
      | some o => (ofO (setW o x d) st).bind fun p st => .ok (.nx env) (st.set l p)
      | none => .bad
    | _ => .bad
  | .setIs ts es, env, st => (evEs cl gl false es env st).bind fun ds st => evTs ts ds env st
  | .ret e, env, st => (ev cl gl false e env st).bind fun d st => .ok (.ret d) st
  | .retN, _, st => .ok (.ret .non) st
  | .retR e, env, st => (ev cl gl false e env st).bind fun d st => (ofO (oOf d) st).bind fun o st => .ok (.ret (.ref st.length)) (st ++ [o])
  | .retO i, env, st => match env[i]? with
    | some (.own o) => .ok (.ret o.d) st
    | _ => .bad
  | .giveO i, env, st => match env[i]? with
    | some (.own o) => .ok (.ret (.ref st.length)) (st ++ [o])
    | _ => .bad
  | .ite c a b, env, st => (tst (ev cl gl false c env st)).bind fun r st => match r with
    | true => evSs a env st
    | false => evSs b env st
  | .for_ g it b, env, st => (evI cl gl it env st).bind fun p st => if p.2.isOw = true then .bad else forGo (assignG g) (fun e s => evSs b e s) p.2.ok p.1 env st
  | .while_ c b, env, st => whileGo (fun e s => tst (ev cl gl false c e s)) (fun e s => evSs b e s) wf env st
  | .brk, env, st => .ok (.brk env) st
  | .cont, env, st => .ok (.cont env) st
  | .pass, env, st => .ok (.nx env) st
def evSs : CSs → Env → Store → Res Out
  | .nil, env, st => .ok (.nx env) st
  | .cons s r, env, st => (evS s env st).bind fun o st => match o with
    | .nx e => evSs r e st
    | o => .ok o st
  | .frz i r, env, st => match env[i]? with
    | some (.own o) => evSs r (env.set i (.v o.d)) st
    | some (.v _) => evSs r env st
    | _ => .bad
def evTs : CTs → List D → Env → Store → Res Out
  | .nil, ds, env, st => match ds with
    | [] => .ok (.nx env) st
    | _ => .bad
  | .cons i k r, ds, env, st => match ds with
    | [] => .bad
    | d :: q => match env[i]? with
      | some (.own o) => (ev cl gl false k env st).bind fun x st => (ofO (setW o x d) st).bind fun p st => evTs r q (env.set i (.own p)) st
      | some (.v (.ref l)) => (ev cl gl false k env st).bind fun x st => match st[l]? with
        | some o => (ofO (setW o x d) st).bind fun p st => evTs r q env (st.set l p)
        | none => .bad
      | _ => .bad
end
end
def CDef.start (cd : CDef) (args : List D) : Option Env :=
  if args.length ≤ cd.nps ∧ cd.nps ≤ args.length + cd.dfl.length then
    some ((args ++ cd.dfl.drop (args.length + cd.dfl.length - cd.nps)).map .v ++ List.replicate (cd.nsl - cd.nps) .un)
  else none
def endD (o : Out) (st : Store) : Res D := match o with
  | .nx _ => .ok .non st
  | .ret d => .ok d st
  | _ => .bad
def callF (P : Prog) (wf : Nat) : Nat → String → List D → Store → Res D
  | 0, _, _, _ => .bad
  | n + 1, f, args, st => match assoc P.defs f with
    | none => .bad
    | some cd => match cd.start args with
      | none => .bad
      | some env => (evSs (callF P wf n) (assoc P.glob) wf cd.body env st).bind endD
end Ev
/-! Ev2: how the interpreter's values lie in the abstract heap -/
namespace Ev
open PySem L2 PySem.Spec PyProof.Rows
/-- the addresses that may change, those of the store -/
structure G where
  B : Addr → Prop
  ρ : List Addr
section
variable (K : PySem.W.Frag)
def SqK (a : Addr) (xs : List V) : Prop :=
  ∃ (o : Obj) (its : Array Value) (n : Nat), K.lookup a = some o ∧ o.cls = .type "list" ∧ o.dict = none ∧ o.data = .seq its n ∧ its.size ≤ sizeLine ∧ Vals xs its.toList
mutual
def RD (g : G) (H : Hp) : D → V → Prop
  | .non, v => v = .non
  | .bl b, v => v = .bl b
  | .int i, v => v = .int i
  | .str s, v => v = .str s
  | .tup ds, v => ∃ p vs, v = .ref p ∧ ¬ g.B p ∧ H p = some (.tup vs) ∧ RDs g H ds vs
  | .lst ds, v => ∃ p vs, v = .ref p ∧ ¬ g.B p ∧ H p = some (.lst vs) ∧ RDs g H ds vs
  | .dct t kvs, v => ∃ p, v = .ref p ∧ ¬ g.B p ∧ ((t = false ∧ ∃ ks, H p = some (.dK ks) ∧ RKf g H kvs ks) ∨ (t = true ∧ ∃ ks, H p = some (.dT ks) ∧ RKt g H kvs ks))
  | .scr l, v => ∃ p, v = .ref p ∧ ((¬ g.B p ∧ ∃ o, H p = some (.frz o (.lst (l.map V.int)))) ∨ SqK K p (l.map V.int))
  | .ref l, v => ∃ p, v = .ref p ∧ g.ρ[l]? = some p
def RDs (g : G) (H : Hp) : List D → List V → Prop
  | [], vs => vs = []
  | d :: ds, vs => ∃ v r, vs = v :: r ∧ RD g H d v ∧ RDs g H ds r
def RKf (g : G) (H : Hp) : List (D × D) → List (Key × V) → Prop
  | [], ks => ks = []
  | (k, d) :: r, ks => ∃ k' v q, ks = (k', v) :: q ∧ key1 k = some k' ∧ RD g H d v ∧ RKf g H r q
def RKt (g : G) (H : Hp) : List (D × D) → List (List Key × V) → Prop
  | [], ks => ks = []
  | (k, d) :: r, ks => ∃ l k' v q, ks = (k', v) :: q ∧ k = .tup l ∧ keys1 l = some k' ∧ RD g H d v ∧ RKt g H r q
end
def RO (g : G) (H : Hp) : O → Addr → Prop
  | .lst ds, p => ∃ vs, H p = some (.lst vs) ∧ RDs K g H ds vs
  | .dct t kvs, p => (t = false ∧ ∃ ks, H p = some (.dK ks) ∧ RKf K g H kvs ks) ∨ (t = true ∧ ∃ ks, H p = some (.dT ks) ∧ RKt K g H kvs ks)
  | .ins _ _, _ => False
/-- the attributes of an instance -/
def RFs (C : Addr) (g : G) (H : Hp) : List (String × D) → List (Str × V) → Prop
  | [], vs => vs = []
  | (f, d) :: r, vs => ∃ v q, vs = (Str.ofString f, v) :: q ∧ NoAttr K C (Str.ofString f) ∧ RD K g H d v ∧ RFs C g H r q
/-- a class, by its name -/
def clsA (c : String) : Addr := He.ga K (Str.ofString c)
/-- a thing of the store: a list, a dict, an instance -/
def RS (g : G) (H : Hp) (o : O) (p : Addr) : Prop := match o with
  | .lst ds => RO K g H (.lst ds) p
  | .dct t kvs => RO K g H (.dct t kvs) p
  | .ins c fs => ∃ dx vs, H p = some (.ins (clsA K c) dx vs) ∧ Cls K (clsA K c) ∧ RFs K (clsA K c) g H fs vs
structure Rel (g : G) (H : Hp) (st : Store) : Prop where
  len : g.ρ.length = st.length
  obj : ∀ (l : Nat) (p : Addr) (o : O), g.ρ[l]? = some p → st[l]? = some o → RS K g H o p
  nd : g.ρ.Nodup
  mt : ∀ p : Addr, p ∈ g.ρ → g.B p
  trk : ∀ b : Addr, g.B b → ∃ o, H b = some o
structure RE (g : G) (H : Hp) (env : Env) (σ : L2.St) : Prop where
  len : env.length = σ.length
  val : ∀ (i : Nat) (d : D), env[i]? = some (.v d) → ∃ v, σ[i]? = some (some v) ∧ RD K g H d v
  own : ∀ (i : Nat) (o : O), env[i]? = some (.own o) → ∃ p : Addr, σ[i]? = some (some (.ref p)) ∧ RO K g H o p ∧ g.B p ∧ p ∉ g.ρ
  one : ∀ (i j : Nat) (o u : O) (p : Addr), env[i]? = some (.own o) → env[j]? = some (.own u) → σ[i]? = some (some (.ref p)) → σ[j]? = some (some (.ref p)) → i = j
end
/-- what stands still stands -/
structure LeN (g : G) (H : Hp) (g' : G) (H' : Hp) : Prop where
  keep : ∀ b o, H b = some o → ¬ g.B b → H' b = some o ∧ ¬ g'.B b
  trk : ∀ b o, H b = some o → ∃ o', H' b = some o'
  pre : ∃ more, g'.ρ = g.ρ ++ more ∧ ∀ p, p ∈ more → H p = none
/-- values stay values -/
structure LeC (g : G) (H : Hp) (g' : G) (H' : Hp) : Prop where
  keep : ∀ b o, H b = some o → ¬ g.B b → H' b = some o ∧ ¬ g'.B b
  pre : ∃ more, g'.ρ = g.ρ ++ more
theorem LeN.c {g g' : G} {H H' : Hp} (a : LeN g H g' H') : LeC g H g' H' := ⟨a.keep, a.pre.elim fun m e => ⟨m, e.1⟩⟩
theorem LeC.get {g g' : G} {H H' : Hp} (a : LeC g H g' H') {l : Nat} {p : Addr} (h : g.ρ[l]? = some p) : g'.ρ[l]? = some p := by
  obtain ⟨m, e⟩ := a.pre
  rw [e, List.getElem?_append_left (List.getElem?_eq_some_iff.mp h).1]
  exact h
structure Le (g : G) (H : Hp) (g' : G) (H' : Hp) : Prop extends LeN g H g' H' where
  own : ∀ b o, H b = some o → b ∉ g.ρ → H' b = some o ∧ (g'.B b ↔ g.B b)
theorem LeN.refl (g : G) (H : Hp) : LeN g H g H := ⟨fun _ _ h n => ⟨h, n⟩, fun _ o h => ⟨o, h⟩, [], by simp, fun _ h => by simp at h⟩
theorem Le.refl (g : G) (H : Hp) : Le g H g H := ⟨.refl g H, fun _ _ h _ => ⟨h, Iff.rfl⟩⟩
theorem LeN.trans {g1 g2 g3 : G} {H1 H2 H3 : Hp} (a : LeN g1 H1 g2 H2) (b : LeN g2 H2 g3 H3) : LeN g1 H1 g3 H3 := by
  obtain ⟨m, e, f⟩ := a.pre
  obtain ⟨m', e', f'⟩ := b.pre
  refine ⟨fun x o h n => ?_, fun x o h => ?_, m ++ m', by rw [e', e, List.append_assoc], fun p hp => ?_⟩
  · obtain ⟨h2, n2⟩ := a.keep x o h n
    exact b.keep x o h2 n2
  · obtain ⟨o2, h2⟩ := a.trk x o h
    exact b.trk x o2 h2
  · rcases List.mem_append.mp hp with q | q
    · exact f p q
    · cases z : H1 p with
      | none => rfl
      | some o =>
        obtain ⟨o2, h2⟩ := a.trk p o z
        rw [f' p q] at h2
        cases h2
theorem Le.trans {g1 g2 g3 : G} {H1 H2 H3 : Hp} (a : Le g1 H1 g2 H2) (b : Le g2 H2 g3 H3) : Le g1 H1 g3 H3 := by
  refine ⟨a.toLeN.trans b.toLeN, fun x o h n => ?_⟩
  obtain ⟨h2, i2⟩ := a.own x o h n
  obtain ⟨m, e, f⟩ := a.pre
  have n2 : x ∉ g2.ρ := fun z => by
    rw [e] at z
    rcases List.mem_append.mp z with q | q
    · exact n q
    · rw [f x q] at h
      cases h
  obtain ⟨h3, i3⟩ := b.own x o h2 n2
  exact ⟨h3, i3.trans i2⟩
theorem LeN.get {g g' : G} {H H' : Hp} (a : LeN g H g' H') {l : Nat} {p : Addr} (h : g.ρ[l]? = some p) : g'.ρ[l]? = some p := by
  obtain ⟨m, e, _⟩ := a.pre
  rw [e, List.getElem?_append_left (List.getElem?_eq_some_iff.mp h).1]
  exact h
section
variable {K : PySem.W.Frag} {g g' : G} {H H' : Hp}
mutual
theorem RD.monoC (a : LeC g H g' H') : ∀ (d : D) (v : V), RD K g H d v → RD K g' H' d v
  | .non, _, h => by simpa [RD] using h
  | .bl _, _, h => by simpa [RD] using h
  | .int _, _, h => by simpa [RD] using h
  | .str _, _, h => by simpa [RD] using h
  | .tup ds, v, h => by
    unfold RD at h ⊢
    obtain ⟨p, vs, e, n, h1, h2⟩ := h
    obtain ⟨k1, k2⟩ := a.keep p _ h1 n
    exact ⟨p, vs, e, k2, k1, RDs.monoC a ds vs h2⟩
  | .lst ds, v, h => by
    unfold RD at h ⊢
    obtain ⟨p, vs, e, n, h1, h2⟩ := h
    obtain ⟨k1, k2⟩ := a.keep p _ h1 n
    exact ⟨p, vs, e, k2, k1, RDs.monoC a ds vs h2⟩
  | .dct t kvs, v, h => by
    unfold RD at h ⊢
    obtain ⟨p, e, n, h⟩ := h
    rcases h with ⟨et, ks, h1, h2⟩ | ⟨et, ks, h1, h2⟩
    · obtain ⟨k1, k2⟩ := a.keep p _ h1 n
      exact ⟨p, e, k2, .inl ⟨et, ks, k1, RKf.monoC a kvs ks h2⟩⟩
    · obtain ⟨k1, k2⟩ := a.keep p _ h1 n
      exact ⟨p, e, k2, .inr ⟨et, ks, k1, RKt.monoC a kvs ks h2⟩⟩
  | .scr l, v, h => by
    unfold RD at h ⊢
    obtain ⟨p, e, h⟩ := h
    rcases h with ⟨n, o, h1⟩ | h1
    · obtain ⟨k1, k2⟩ := a.keep p _ h1 n
      exact ⟨p, e, .inl ⟨k2, o, k1⟩⟩
    · exact ⟨p, e, .inr h1⟩
  | .ref l, v, h => by
    unfold RD at h ⊢
    obtain ⟨p, e, h⟩ := h
    exact ⟨p, e, a.get h⟩
theorem RDs.monoC (a : LeC g H g' H') : ∀ (ds : List D) (vs : List V), RDs K g H ds vs → RDs K g' H' ds vs
  | [], _, h => by simpa [RDs] using h
  | d :: ds, vs, h => by
    unfold RDs at h ⊢
    obtain ⟨v, r, e, h1, h2⟩ := h
    exact ⟨v, r, e, RD.monoC a d v h1, RDs.monoC a ds r h2⟩
theorem RKf.monoC (a : LeC g H g' H') : ∀ (ds : List (D × D)) (ks : List (Key × V)), RKf K g H ds ks → RKf K g' H' ds ks
  | [], _, h => by simpa [RKf] using h
  | (k, d) :: ds, ks, h => by
    unfold RKf at h ⊢
    obtain ⟨k', v, q, e, h0, h1, h2⟩ := h
    exact ⟨k', v, q, e, h0, RD.monoC a d v h1, RKf.monoC a ds q h2⟩
theorem RKt.monoC (a : LeC g H g' H') : ∀ (ds : List (D × D)) (ks : List (List Key × V)), RKt K g H ds ks → RKt K g' H' ds ks
  | [], _, h => by simpa [RKt] using h
  | (k, d) :: ds, ks, h => by
    unfold RKt at h ⊢
    obtain ⟨l, k', v, q, e, h0, h0', h1, h2⟩ := h
    exact ⟨l, k', v, q, e, h0, h0', RD.monoC a d v h1, RKt.monoC a ds q h2⟩
end
theorem RD.mono (a : LeN g H g' H') (d : D) (v : V) (h : RD K g H d v) : RD K g' H' d v := RD.monoC a.c d v h
theorem RDs.mono (a : LeN g H g' H') (d : List D) (v : List V) (h : RDs K g H d v) : RDs K g' H' d v := RDs.monoC a.c d v h
theorem RKf.mono (a : LeN g H g' H') (d : List (D × D)) (v : List (Key × V)) (h : RKf K g H d v) : RKf K g' H' d v := RKf.monoC a.c d v h
theorem RKt.mono (a : LeN g H g' H') (d : List (D × D)) (v : List (List Key × V)) (h : RKt K g H d v) : RKt K g' H' d v := RKt.monoC a.c d v h
theorem RO.monoC (a : LeC g H g' H') {o : O} {p : Addr} (hp : H' p = H p) (h : RO K g H o p) : RO K g' H' o p := by
  cases o with
  | lst ds =>
    obtain ⟨vs, h1, h2⟩ := h
    exact ⟨vs, hp.trans h1, RDs.monoC a ds vs h2⟩
  | dct t kvs =>
    rcases h with ⟨et, ks, h1, h2⟩ | ⟨et, ks, h1, h2⟩
    · exact .inl ⟨et, ks, hp.trans h1, RKf.monoC a kvs ks h2⟩
    · exact .inr ⟨et, ks, hp.trans h1, RKt.monoC a kvs ks h2⟩
  | ins c fs => exact h.elim
theorem RFs.monoC (a : LeC g H g' H') {C : Addr} : ∀ (fs : List (String × D)) (vs : List (Str × V)), RFs K C g H fs vs → RFs K C g' H' fs vs
  | [], _, h => h
  | (f, d) :: r, vs, h => by
    obtain ⟨v, q, e, n, h1, h2⟩ := h
    exact ⟨v, q, e, n, RD.monoC a d v h1, RFs.monoC a r q h2⟩
theorem RS.monoC (a : LeC g H g' H') {o : O} {p : Addr} (hp : H' p = H p) (h : RS K g H o p) : RS K g' H' o p := by
  cases o with
  | lst ds => exact RO.monoC a hp (o := .lst ds) h
  | dct t kvs => exact RO.monoC a hp (o := .dct t kvs) h
  | ins c fs =>
    obtain ⟨dx, vs, h1, h2, h3⟩ := h
    exact ⟨dx, vs, hp.trans h1, h2, RFs.monoC a fs vs h3⟩
theorem RS.mono (a : LeN g H g' H') {o : O} {p : Addr} (hp : H' p = H p) (h : RS K g H o p) : RS K g' H' o p := h.monoC a.c hp
theorem RO.rs {o : O} {p : Addr} (h : RO K g H o p) : RS K g H o p := by
  cases o with
  | lst ds => exact h
  | dct t kvs => exact h
  | ins c fs => exact h.elim
theorem RS.some {o : O} {p : Addr} (h : RS K g H o p) : ∃ u, H p = some u ∧ Mut (some u) := by
  cases o with
  | lst ds =>
    obtain ⟨vs, h1, _⟩ := h
    exact ⟨_, h1, trivial⟩
  | dct t kvs =>
    rcases h with ⟨_, ks, h1, _⟩ | ⟨_, ks, h1, _⟩
    · exact ⟨_, h1, trivial⟩
    · exact ⟨_, h1, trivial⟩
  | ins c fs =>
    obtain ⟨dx, vs, h1, _⟩ := h
    exact ⟨_, h1, trivial⟩
theorem RO.mono (a : LeN g H g' H') {o : O} {p : Addr} (hp : H' p = H p) (h : RO K g H o p) : RO K g' H' o p := h.monoC a.c hp
theorem RO.some {o : O} {p : Addr} (h : RO K g H o p) : ∃ u, H p = some u ∧ Mut (some u) := by
  cases o with
  | lst ds =>
    obtain ⟨vs, h1, _⟩ := h
    exact ⟨_, h1, trivial⟩
  | dct t kvs =>
    rcases h with ⟨_, ks, h1, _⟩ | ⟨_, ks, h1, _⟩
    · exact ⟨_, h1, trivial⟩
    · exact ⟨_, h1, trivial⟩
  | ins c fs => exact h.elim
/-- behind an expression the frame's things are as they were -/
theorem RE.mono (a : Le g H g' H') {env : Env} {σ : L2.St} (h : RE K g H env σ) : RE K g' H' env σ := by
  refine ⟨h.len, fun i d e => ?_, fun i o e => ?_, h.one⟩
  · obtain ⟨v, e1, r⟩ := h.val i d e
    exact ⟨v, e1, RD.mono a.toLeN d v r⟩
  · obtain ⟨p, e1, r, b, n⟩ := h.own i o e
    obtain ⟨u, hu, _⟩ := r.some
    obtain ⟨k1, k2⟩ := a.own p u hu n
    refine ⟨p, e1, r.mono a.toLeN (k1.trans hu.symm), k2.mpr b, fun z => ?_⟩
    obtain ⟨m, em, fm⟩ := a.pre
    rw [em] at z
    rcases List.mem_append.mp z with q | q
    · exact n q
    · rw [fm p q] at hu
      cases hu
theorem RDs.length : ∀ {ds : List D} {vs : List V}, RDs K g H ds vs → vs.length = ds.length
  | [], vs, h => by
    unfold RDs at h
    rw [h]
    rfl
  | d :: ds, vs, h => by
    unfold RDs at h
    obtain ⟨v, r, e, _, h2⟩ := h
    rw [e, List.length_cons, List.length_cons, RDs.length h2]
theorem RDs.get : ∀ {ds : List D} {vs : List V} {i : Nat} {d : D}, RDs K g H ds vs → ds[i]? = some d → ∃ v, vs[i]? = some v ∧ RD K g H d v
  | [], _, i, d, _, e => by simp at e
  | x :: ds, vs, 0, d, h, e => by
    unfold RDs at h
    obtain ⟨v, r, e1, h1, _⟩ := h
    simp at e
    subst e
    exact ⟨v, by rw [e1]; rfl, h1⟩
  | x :: ds, vs, i + 1, d, h, e => by
    unfold RDs at h
    obtain ⟨v, r, e1, _, h2⟩ := h
    obtain ⟨w, e2, h3⟩ := RDs.get (i := i) h2 (by simpa using e)
    exact ⟨w, by rw [e1]; simpa using e2, h3⟩
theorem RDs.append : ∀ {ds es : List D} {vs ws : List V}, RDs K g H ds vs → RDs K g H es ws → RDs K g H (ds ++ es) (vs ++ ws)
  | [], es, vs, ws, h, h2 => by
    unfold RDs at h
    rw [h]
    exact h2
  | d :: ds, es, vs, ws, h, h2 => by
    unfold RDs at h
    obtain ⟨v, r, e, h1, h3⟩ := h
    rw [e]
    show RDs K g H (d :: (ds ++ es)) (v :: (r ++ ws))
    unfold RDs
    exact ⟨v, _, rfl, h1, RDs.append h3 h2⟩
theorem RDs.take : ∀ {ds : List D} {vs : List V} (n : Nat), RDs K g H ds vs → RDs K g H (ds.take n) (vs.take n)
  | _, _, 0, _ => by
    show RDs K g H [] []
    unfold RDs
    rfl
  | [], vs, n + 1, h => by
    unfold RDs at h
    rw [h]
    show RDs K g H [] []
    unfold RDs
    rfl
  | d :: ds, vs, n + 1, h => by
    unfold RDs at h
    obtain ⟨v, r, e, h1, h3⟩ := h
    rw [e]
    show RDs K g H (d :: ds.take n) (v :: r.take n)
    unfold RDs
    exact ⟨v, _, rfl, h1, RDs.take n h3⟩
theorem RDs.drop : ∀ {ds : List D} {vs : List V} (n : Nat), RDs K g H ds vs → RDs K g H (ds.drop n) (vs.drop n)
  | _, _, 0, h => h
  | [], vs, n + 1, h => by
    unfold RDs at h
    rw [h]
    show RDs K g H [] []
    unfold RDs
    rfl
  | d :: ds, vs, n + 1, h => by
    unfold RDs at h
    obtain ⟨v, r, e, h1, h3⟩ := h
    rw [e]
    exact RDs.drop n h3
theorem RDs.set : ∀ {ds : List D} {vs : List V} (i : Nat) {d : D} {v : V}, RDs K g H ds vs → RD K g H d v → RDs K g H (ds.set i d) (vs.set i v)
  | [], vs, _, _, _, h, _ => by
    unfold RDs at h
    rw [h]
    show RDs K g H [] []
    unfold RDs
    rfl
  | x :: ds, vs, 0, d, v, h, hd => by
    unfold RDs at h
    obtain ⟨w, r, e, h1, h3⟩ := h
    rw [e]
    show RDs K g H (d :: ds) (v :: r)
    unfold RDs
    exact ⟨v, _, rfl, hd, h3⟩
  | x :: ds, vs, i + 1, d, v, h, hd => by
    unfold RDs at h
    obtain ⟨w, r, e, h1, h3⟩ := h
    rw [e]
    show RDs K g H (x :: ds.set i d) (w :: r.set i v)
    unfold RDs
    exact ⟨w, _, rfl, h1, RDs.set i h3 hd⟩
theorem RDs.nil : RDs K g H [] [] := by
  unfold RDs
  rfl
theorem RDs.cons {d : D} {v : V} {ds : List D} {vs : List V} (h : RD K g H d v) (t : RDs K g H ds vs) : RDs K g H (d :: ds) (v :: vs) := by
  unfold RDs
  exact ⟨v, vs, rfl, h, t⟩
theorem RDs.one {d : D} {v : V} (h : RD K g H d v) : RDs K g H [d] [v] := .cons h .nil
theorem RDs.reverse : ∀ {ds : List D} {vs : List V}, RDs K g H ds vs → RDs K g H ds.reverse vs.reverse
  | [], vs, h => by
    unfold RDs at h
    rw [h]
    exact RDs.nil
  | d :: ds, vs, h => by
    unfold RDs at h
    obtain ⟨v, r, e, h1, h3⟩ := h
    rw [e, List.reverse_cons, List.reverse_cons]
    exact (RDs.reverse h3).append (.one h1)
theorem RDs.eraseIdx : ∀ {ds : List D} {vs : List V} (i : Nat), RDs K g H ds vs → RDs K g H (ds.eraseIdx i) (vs.eraseIdx i)
  | [], vs, _, h => by
    unfold RDs at h
    rw [h]
    exact RDs.nil
  | x :: ds, vs, 0, h => by
    unfold RDs at h
    obtain ⟨w, r, e, h1, h3⟩ := h
    rw [e]
    exact h3
  | x :: ds, vs, i + 1, h => by
    unfold RDs at h
    obtain ⟨w, r, e, h1, h3⟩ := h
    rw [e]
    exact .cons h1 (RDs.eraseIdx i h3)
theorem RDs.dropLast {ds : List D} {vs : List V} (h : RDs K g H ds vs) : RDs K g H ds.dropLast vs.dropLast := by
  rw [List.dropLast_eq_take, List.dropLast_eq_take, h.length]
  exact h.take _
theorem RDs.rep {ds : List D} {vs : List V} (h : RDs K g H ds vs) : ∀ n : Nat, RDs K g H (List.replicate n ds).flatten (List.replicate n vs).flatten
  | 0 => RDs.nil
  | n + 1 => by
    rw [List.replicate_succ, List.replicate_succ, List.flatten_cons, List.flatten_cons]
    exact h.append (RDs.rep h n)
theorem RDs.ints : ∀ l : List Int, RDs K g H (l.map .int) (l.map V.int)
  | [] => RDs.nil
  | i :: r => .cons (by unfold RD; rfl) (RDs.ints r)
/-! ### new things -/
/-- a new value, not to be changed -/
theorem le_new {p : Addr} {o : HO} (h : H p = none) (r : ∀ b, g.B b → ∃ o, H b = some o) : Le g H g (upd H p o) := by
  refine ⟨⟨fun b u e n => ⟨by rw [upd_ne (ne_of_none e h)]; exact e, n⟩, fun b u e => ⟨u, by rw [upd_ne (ne_of_none e h)]; exact e⟩, [], by simp, fun _ z => by simp at z⟩, fun b u e n => ⟨by rw [upd_ne (ne_of_none e h)]; exact e, Iff.rfl⟩⟩
theorem Rel.nb {st : Store} (r : Rel K g H st) {p : Addr} (h : H p = none) : ¬ g.B p := fun z => by
  obtain ⟨o, e⟩ := r.trk p z
  rw [h] at e
  cases e
theorem Rel.nr {st : Store} (r : Rel K g H st) {p : Addr} (h : H p = none) : p ∉ g.ρ := fun z => r.nb h (r.mt p z)
/-- the store stands where its addresses do -/
theorem Rel.mono {st : Store} (r : Rel K g H st) (a : LeN g H g H') (k : ∀ p, p ∈ g.ρ → H' p = H p) : Rel K g H' st := by
  refine ⟨r.len, fun l p o e1 e2 => ?_, r.nd, r.mt, fun b hb => ?_⟩
  · exact (r.obj l p o e1 e2).mono a (k p (List.mem_of_getElem? e1))
  · obtain ⟨o, e⟩ := r.trk b hb
    exact a.trk b o e
theorem Rel.new {st : Store} (r : Rel K g H st) {p : Addr} {o : HO} (h : H p = none) : Rel K g (upd H p o) st :=
  r.mono (le_new h r.trk).toLeN fun q hq => upd_ne fun z => r.nr h (z ▸ hq)
end
end Ev
/-! Ev3: the operators -/
namespace Ev
open PySem L2 PySem.Spec PyProof.Rows
def G.add (g : G) (p : Addr) : G := ⟨fun b => g.B b ∨ b = p, g.ρ⟩
section
variable (K : PySem.W.Frag)
def RDw (w : Bool) (g : G) (H : Hp) (d : D) (v : V) : Prop :=
  RD K g H d v ∨ (w = true ∧ ∃ (p : Addr) (o : O), v = .ref p ∧ d = o.d ∧ RO K g H o p ∧ g.B p ∧ p ∉ g.ρ)
def FrV (H : Hp) (g' : G) (H' : Hp) (st' : Store) (d : D) (v : V) : Prop :=
  ∀ o, oOf d = some o → ∃ p, v = .ref p ∧ H p = none ∧ ¬ g'.B p ∧ RO K (g'.add p) H' o p ∧ Rel K (g'.add p) H' st'
/-- what is wanted behind an expression -/
def Post (w fr : Bool) (g : G) (H : Hp) (d : D) (st' : Store) (Q : VK) : Prop :=
  ∀ g' H' v, Le g H g' H' → Rel K g' H' st' → RDw K w g' H' d v → (fr = true → FrV K H g' H' st' d v) → Q v H'
end
section
variable {K : PySem.W.Frag} {g g' g0 : G} {H H' H0 : Hp} {st st' : Store} {d x y : D} {v vx vy : V} {Q : VK} {w fr : Bool}
theorem RDw.mono (a : Le g H g' H') (h : RDw K w g H d v) : RDw K w g' H' d v := by
  rcases h with h | ⟨hw, p, o, e, e2, r, b, n⟩
  · exact .inl (RD.mono a.toLeN _ _ h)
  · obtain ⟨u, hu, _⟩ := r.some
    obtain ⟨k1, k2⟩ := a.own p u hu n
    refine .inr ⟨hw, p, o, e, e2, r.mono a.toLeN (k1.trans hu.symm), k2.mpr b, fun z => ?_⟩
    obtain ⟨m, em, fm⟩ := a.pre
    rw [em] at z
    rcases List.mem_append.mp z with q | q
    · exact n q
    · rw [fm p q] at hu
      cases hu
theorem RDw.of (h : RD K g H d v) : RDw K w g H d v := .inl h
theorem RDw.ff (h : RDw K false g H d v) : RD K g H d v := by
  rcases h with h | ⟨hw, _⟩
  · exact h
  · cases hw
theorem free_back (a : LeN g H g' H') {p : Addr} (h : H' p = none) : H p = none := by
  cases z : H p with
  | none => rfl
  | some o =>
    obtain ⟨o2, h2⟩ := a.trk p o z
    rw [h] at h2
    cases h2
theorem Post.shift (a : Le g0 H0 g H) (h : Post K w fr g0 H0 d st' Q) : Post K w fr g H d st' Q := fun g' H' v b r rd f =>
  h g' H' v (a.trans b) r rd fun hf o ho => by
    obtain ⟨p, e, n, q⟩ := f hf o ho
    exact ⟨p, e, free_back a.toLeN n, q⟩
theorem Post.noFr (h : Post K w false g H d st' Q) : Post K w fr g H d st' Q := fun g' H' v b r rd _ => h g' H' v b r rd fun z => by cases z
theorem Post.toW (h : Post K true fr g H d st' Q) : Post K w fr g H d st' Q := fun g' H' v b r rd f => h g' H' v b r (by
    rcases rd with rd | ⟨_, z⟩
    · exact .inl rd
    · exact .inr ⟨rfl, z⟩) f
/-- a value that is no list, no dict -/
theorem Post.val (h : Post K w fr g H d st' Q) (r : Rel K g H st') (rd : RD K g H d v) (hn : oOf d = none) : Q v H :=
  h g H v (.refl g H) r (.inl rd) fun _ o ho => by
    rw [hn] at ho
    cases ho
theorem le_add {p : Addr} (a : Le g H g' H') (h : H p = none) : Le g H (g'.add p) H' := by
  refine ⟨⟨fun b o e n => ?_, a.trk, a.pre⟩, fun b o e n => ?_⟩
  · obtain ⟨k1, k2⟩ := a.keep b o e n
    exact ⟨k1, fun z => z.elim k2 (ne_of_none e h)⟩
  · obtain ⟨k1, k2⟩ := a.own b o e n
    exact ⟨k1, ⟨fun z => z.elim k2.mp fun q => absurd q (ne_of_none e h), fun z => .inl (k2.mpr z)⟩⟩
theorem Rel.addNew {p : Addr} {o : HO} (r : Rel K g H st) (h : H p = none) : Rel K (g.add p) (upd H p o) st := by
  have a : LeN g H (g.add p) (upd H p o) := (le_add (le_new h r.trk) h).toLeN
  refine ⟨r.len, fun l q u e1 e2 => ?_, r.nd, fun q hq => .inl (r.mt q hq), fun b hb => ?_⟩
  · exact (r.obj l q u e1 e2).mono a (upd_ne fun z => r.nr h (z ▸ List.mem_of_getElem? e1))
  · rcases hb with hb | hb
    · obtain ⟨u, e⟩ := r.trk b hb
      exact a.trk b u e
    · exact ⟨o, by rw [hb]; exact upd_same⟩
/-- a new list -/
theorem Post.newL {ds : List D} {vs : List V} {p : Addr} (h : Post K w fr g H (.lst ds) st' Q) (r : Rel K g H st') (rd : RDs K g H ds vs) (hp : H p = none) : Q (.ref p) (upd H p (.lst vs)) := by
  have a := le_new (o := .lst vs) hp r.trk
  refine h g _ _ a (r.new hp) (.inl ?_) fun _ o ho => ?_
  · unfold RD
    exact ⟨p, vs, rfl, r.nb hp, upd_same, RDs.mono a.toLeN _ _ rd⟩
  · cases ho
    exact ⟨p, rfl, hp, r.nb hp, ⟨vs, upd_same, RDs.mono (le_add a hp).toLeN _ _ rd⟩, r.addNew hp⟩
theorem Post.newT {ds : List D} {vs : List V} {p : Addr} (h : Post K w fr g H (.tup ds) st' Q) (r : Rel K g H st') (rd : RDs K g H ds vs) (hp : H p = none) : Q (.ref p) (upd H p (.tup vs)) := by
  have a := le_new (o := .tup vs) hp r.trk
  refine h g _ _ a (r.new hp) (.inl ?_) fun _ o ho => by cases ho
  unfold RD
  exact ⟨p, vs, rfl, r.nb hp, upd_same, RDs.mono a.toLeN _ _ rd⟩
theorem Post.newD {p : Addr} {t : Bool} (h : Post K w fr g H (.dct t []) st' Q) (r : Rel K g H st') (hp : H p = none) : Q (.ref p) (upd H p (if t = true then .dT [] else .dK [])) := by
  have a := le_new (o := if t = true then .dT [] else .dK []) hp r.trk
  refine h g _ _ a (r.new hp) (.inl ?_) fun _ o ho => ?_
  · unfold RD
    refine ⟨p, rfl, r.nb hp, ?_⟩
    cases t with
    | false => exact .inl ⟨rfl, [], upd_same, by unfold RKf; rfl⟩
    | true => exact .inr ⟨rfl, [], upd_same, by unfold RKt; rfl⟩
  · cases ho
    refine ⟨p, rfl, hp, r.nb hp, ?_, r.addNew hp⟩
    cases t with
    | false => exact .inl ⟨rfl, [], upd_same, by unfold RKf; rfl⟩
    | true => exact .inr ⟨rfl, [], upd_same, by unfold RKt; rfl⟩
/-! ### reading -/
theorem asL_ok {xs : List D} (r : Rel K g H st) (h : RDw K true g H x vx) (e : asL st x = some xs) : ∃ p vs, vx = .ref p ∧ H p = some (.lst vs) ∧ RDs K g H xs vs := by
  rcases h with h | ⟨_, p, o, e1, e2, ro, _, _⟩
  · cases x with
    | lst l =>
      simp [asL] at e
      subst e
      unfold RD at h
      obtain ⟨p, vs, e1, _, h1, h2⟩ := h
      exact ⟨p, vs, e1, h1, h2⟩
    | ref l =>
      unfold RD at h
      obtain ⟨p, e1, h1⟩ := h
      simp only [asL] at e
      split at e
      · rename_i ds hs
        cases e
        obtain ⟨vs, h2, h3⟩ := r.obj l p _ h1 hs
        exact ⟨p, vs, e1, h2, h3⟩
      · cases e
    | _ => simp [asL] at e
  · cases o with
    | lst l =>
      rw [e2] at e
      simp [O.d, asL] at e
      subst e
      obtain ⟨vs, h1, h2⟩ := ro
      exact ⟨p, vs, e1, h1, h2⟩
    | dct t l =>
      rw [e2] at e
      simp [O.d, asL] at e
    | ins c fs => exact False.elim ro
theorem asR_ok {xs : List D} (r : Rel K g H st) (h : RDw K true g H x vx) (e : asR st x = some xs) : ∃ p vs, vx = .ref p ∧ SqL K H p vs ∧ RDs K g H xs vs := by
  by_cases hx : ∃ l, x = .scr l
  · obtain ⟨l, rfl⟩ := hx
    simp [asR] at e
    subst e
    rcases h with h | ⟨_, p, o, e1, e2, _⟩
    · unfold RD at h
      obtain ⟨p, e1, h⟩ := h
      refine ⟨p, l.map V.int, e1, ?_, RDs.ints l⟩
      rcases h with ⟨_, o, h1⟩ | h1
      · exact .inl (.inr ⟨o, h1⟩)
      · exact .inr h1
    · cases o <;> cases e2
  · have e' : asL st x = some xs := by
      cases x with
      | scr l => exact absurd ⟨l, rfl⟩ hx
      | _ => exact e
    obtain ⟨p, vs, e1, h1, h2⟩ := asL_ok r h e'
    exact ⟨p, vs, e1, SqL.of h1, h2⟩
theorem asK_ok {t : Bool} {l : List (D × D)} (r : Rel K g H st) (h : RDw K true g H x vx) (e : asK st x = some (t, l)) : ∃ p, vx = .ref p ∧ RO K g H (.dct t l) p := by
  rcases h with h | ⟨_, p, o, e1, e2, ro, _, _⟩
  · cases x with
    | dct t' l' =>
      simp [asK] at e
      obtain ⟨rfl, rfl⟩ := e
      unfold RD at h
      obtain ⟨p, e1, _, h1⟩ := h
      exact ⟨p, e1, h1⟩
    | ref l' =>
      unfold RD at h
      obtain ⟨p, e1, h1⟩ := h
      simp only [asK] at e
      split at e
      · rename_i t2 ds hs
        simp at e
        obtain ⟨rfl, rfl⟩ := e
        exact ⟨p, e1, r.obj l' p _ h1 hs⟩
      · cases e
    | _ => simp [asK] at e
  · cases o with
    | lst l =>
      rw [e2] at e
      simp [O.d, asK] at e
    | dct t' l' =>
      rw [e2] at e
      simp [O.d, asK] at e
      obtain ⟨rfl, rfl⟩ := e
      exact ⟨p, e1, ro⟩
    | ins c fs => exact False.elim ro
theorem rdw_flat (hx : oOf x = none) (h : RDw K w g H x vx) : RD K g H x vx := by
  rcases h with h | ⟨_, p, o, e1, e2, ro, _⟩
  · exact h
  · cases o <;> first | exact False.elim ro | (rw [e2] at hx; cases hx)
theorem rdw_int {i : Int} (h : RDw K w g H (.int i) vx) : vx = .int i := by
  have h1 := rdw_flat rfl h
  unfold RD at h1
  exact h1
theorem rdw_str {i : Str} (h : RDw K w g H (.str i) vx) : vx = .str i := by
  have h1 := rdw_flat rfl h
  unfold RD at h1
  exact h1
theorem rdw_bl {i : Bool} (h : RDw K w g H (.bl i) vx) : vx = .bl i := by
  have h1 := rdw_flat rfl h
  unfold RD at h1
  exact h1
theorem rdw_non (h : RDw K w g H .non vx) : vx = .non := by
  have h1 := rdw_flat rfl h
  unfold RD at h1
  exact h1
theorem rdw_tup {l : List D} (h : RDw K w g H (.tup l) vx) : ∃ p vs, vx = .ref p ∧ H p = some (.tup vs) ∧ RDs K g H l vs := by
  have h1 := rdw_flat rfl h
  unfold RD at h1
  obtain ⟨p, vs, e, _, h1, h2⟩ := h1
  exact ⟨p, vs, e, h1, h2⟩
theorem rd_int {i : Int} : RD K g H (.int i) (.int i) := by
  unfold RD
  rfl
theorem rd_str {i : Str} : RD K g H (.str i) (.str i) := by
  unfold RD
  rfl
theorem rd_bl {i : Bool} : RD K g H (.bl i) (.bl i) := by
  unfold RD
  rfl
theorem rd_non : RD K g H .non .non := by
  unfold RD
  rfl
theorem Post.int {i : Int} (h : Post K w fr g H (.int i) st' Q) (r : Rel K g H st') : Q (.int i) H := h.val r rd_int rfl
theorem Post.str {i : Str} (h : Post K w fr g H (.str i) st' Q) (r : Rel K g H st') : Q (.str i) H := h.val r rd_str rfl
theorem Post.bl {i : Bool} (h : Post K w fr g H (.bl i) st' Q) (r : Rel K g H st') : Q (.bl i) H := h.val r rd_bl rfl
theorem Post.non (h : Post K w fr g H .non st' Q) (r : Rel K g H st') : Q .non H := h.val r rd_non rfl
end
/-! ### arithmetic -/
def boOp : BO → Operator
  | .add => .Add
  | .sub => .Sub
  | .mul => .Mult
  | .fdiv => .FloorDiv
  | .mod => .Mod
  | .pow => .Pow
def rBin (K : PySem.W.Frag) (o : BO) : R2 := fun vx vy H Q => ∃ g st x y d st', Rel K g H st ∧ RDw K true g H x vx ∧ RDw K true g H y vy ∧ binop o x y st = .ok d st' ∧ Post K false true g H d st' Q
section
variable {X : Cx}
theorem op_strmul : OpR X (binaryOp .Mult) (fun x y H Q => ∃ a k, x = .str a ∧ y = .int k ∧ 0 ≤ k ∧ k ≤ 1000 ∧ a.length ≤ 1000 ∧
    Q (.str (if k < 1 then Str.empty else if (k == 1 || a.length == 0) = true then a else ⟨(List.replicate k.toNat a.cps).foldl (· ++ ·) #[]⟩)) H) := by
  intro pins s σ H x y v u Q I rx ry h
  obtain ⟨a, k, rfl, rfl, h0, h1, h2, q⟩ := h
  obtain ⟨t, rfl⟩ := rx
  obtain ⟨t', rfl⟩ := ry
  have tl : Builtin.Str.tooLong (a.length * k.toNat) = false := by
    unfold Builtin.Str.tooLong
    have h3 : a.length * k.toNat ≤ 1000 * 1000 := Nat.mul_le_mul h2 (by omega)
    have h4 : sizeLine = 16777216 := sizeLine_eq
    simp only [decide_eq_false_iff_not]
    omega
  refine PySem.P.mul_str ?_ (fun hk _ => ?_) (fun hk _ => ?_) ?_
  · rw [decide_eq_false (by omega), decide_eq_false (by omega)]
    rfl
  · have : (1000 : Int) ≤ (2 ^ 63 - 1) / k := by
      rw [Int.le_ediv_iff_mul_le (by omega)]
      have : (1000 : Int) * k ≤ 1000 * 1000 := by omega
      have : (1000 : Int) * 1000 ≤ 2 ^ 63 - 1 := by decide
      omega
    omega
  · exact tl
  · split at q
    · rename_i hk
      rw [if_pos hk]
      exact ⟨by decide, .str _, H, I.tok _, ⟨_, rfl⟩, q⟩
    · rename_i hk
      rw [if_neg hk]
      split at q
      · rename_i hk2
        rw [if_pos hk2]
        exact ⟨.str _, H, I, ⟨_, rfl⟩, q⟩
      · rename_i hk2
        rw [if_neg hk2]
        exact ⟨fits_reps tl, .str _, H, I.tok _, ⟨_, rfl⟩, q⟩
theorem op_bin (o : BO) : OpR X (binaryOp (boOp o)) (rBin X.K o) := by
  intro pins s σ H vx vy v u Q I rx ry h
  obtain ⟨g, st, x, y, d, st', r, hx, hy, e, q⟩ := h
  unfold binop at e
  split at e
  · cases e
    rw [rdw_int hx] at rx
    rw [rdw_int hy] at ry
    exact op_add pins s σ H _ _ v u Q I rx ry ⟨_, _, rfl, rfl, q.int r⟩
  · split at e
    · cases e
      rename_i hz
      rw [rdw_str hx] at rx
      rw [rdw_str hy] at ry
      exact op_add_str pins s σ H _ _ v u Q I rx ry ⟨_, _, rfl, rfl, hz, q.str r⟩
    · cases e
  · split at e
    · rename_i xs ys hxs hys
      split at e
      · cases e
        rename_i hz
        obtain ⟨p, vs, rfl, h1, h2⟩ := asL_ok r hx hxs
        obtain ⟨p', vs', rfl, h1', h2'⟩ := asL_ok r hy hys
        refine op_cat pins s σ H _ _ v u Q I rx ry ⟨p, p', vs, vs', rfl, rfl, h1, h1', ?_, fun z hz => q.newL r (h2.append h2') hz⟩
        rw [h2.length, h2'.length]
        exact hz
      · cases e
    · cases e
  · cases e
    rw [rdw_int hx] at rx
    rw [rdw_int hy] at ry
    exact op_sub pins s σ H _ _ v u Q I rx ry ⟨_, _, rfl, rfl, q.int r⟩
  · split at e
    · cases e
      rename_i a b hm
      rw [rdw_int hx] at rx
      rw [rdw_int hy] at ry
      unfold mulOk at hm
      rw [Bool.or_eq_true, Bool.or_eq_true] at hm
      rcases hm with hm | hm | hm
      · exact op_mulW pins s σ H _ _ v u Q I rx ry ⟨_, _, rfl, rfl, (of_decide_eq_true hm : a.natAbs.log2 + b.natAbs.log2 < 1000000), q.int r⟩
      · have := of_decide_eq_true hm
        exact op_mul pins s σ H _ _ v u Q I rx ry ⟨_, _, rfl, rfl, .inl (by omega), q.int r⟩
      · have := of_decide_eq_true hm
        exact op_mul pins s σ H _ _ v u Q I rx ry ⟨_, _, rfl, rfl, .inr (by omega), q.int r⟩
    · cases e
  · split at e
    · cases e
      rename_i hz
      rw [rdw_str hx] at rx
      rw [rdw_int hy] at ry
      exact op_strmul pins s σ H _ _ v u Q I rx ry ⟨_, _, rfl, rfl, hz.1, hz.2.1, hz.2.2, q.str r⟩
    · cases e
  · split at e
    · rename_i xs hxs
      split at e
      · cases e
        rename_i hz
        obtain ⟨p, vs, rfl, h1, h2⟩ := asL_ok r hx hxs
        rw [rdw_int hy] at ry
        refine op_rep pins s σ H _ _ v u Q I rx ry ⟨p, _, vs, rfl, rfl, h1, hz.1, hz.2.1, ?_, fun z hz => q.newL r (h2.rep _) hz⟩
        rw [h2.length]
        exact hz.2.2
      · cases e
    · cases e
  · split at e
    · cases e
      rename_i hz
      rw [rdw_int hx] at rx
      rw [rdw_int hy] at ry
      exact op_fdivW pins s σ H _ _ v u Q I rx ry ⟨_, _, rfl, rfl, hz, q.int r⟩
    · cases e
  · split at e
    · cases e
      rename_i a b hz
      rw [rdw_int hx] at rx
      rw [rdw_int hy] at ry
      refine op_modN pins s σ H _ _ v u Q I rx ry ⟨a, b, rfl, rfl, by omega, ?_⟩
      show Q (V.int (a.fmod b)) H
      rw [Int.fmod_eq_emod_of_nonneg a (show 0 ≤ b by omega)]
      exact q.int r
    · cases e
  · split at e
    · cases e
      rename_i a b hz
      rw [rdw_int hx] at rx
      rw [rdw_int hy] at ry
      obtain ⟨t, rfl⟩ := rx
      obtain ⟨t', rfl⟩ := ry
      unfold powOk at hz
      rw [Bool.and_eq_true] at hz
      refine pow_int (of_decide_eq_true hz.1) ?_ ⟨.int _, H, I.tok _, ⟨_, rfl⟩, q.int r⟩
      have := of_decide_eq_true hz.2
      have e2 : (2 : Int) ^ 27 = 134217728 := by decide
      rw [e2]
      exact this
    · cases e
  · cases e
end
end Ev
/-! Ev4: data that is read whole (repr, ==), comparisons, built-in functions -/
namespace Ev
open PySem L2 PySem.Spec PyProof.Rows
/-- the address of the modules' dict is a dict's -/
def SmOk (h : Heap) : Prop := ∃ o, h.get? sysModules = some o ∧ o.cls = .type "dict"
section
variable {X : Cx} {pins : List (Addr × Obj)} {σ : L2.St} {H : Hp} {s : Shared} {g : G} {st : Store}
theorem keyIs_reads {h : Heap} {k : Key} {d : D} {u : Value} {p : PyData} {dr : Nat → Option PyData} (e : key1 d = some k) (r : keyIs k u = true) (hp : toP dr d = some p) : ∃ as, Reads h u p as ∧ sysModules ∉ as := by
  cases d with
  | int i =>
    cases e
    simp [toP] at hp
    subst hp
    rcases keyIs_shape r with ⟨i', t, e1, rfl⟩ | ⟨x, t, e1, _⟩
    · cases e1
      exact ⟨[], .int _ _, by simp⟩
    · cases e1
  | str i =>
    cases e
    simp [toP] at hp
    subst hp
    rcases keyIs_shape r with ⟨i', t, e1, _⟩ | ⟨x, t, e1, rfl⟩
    · cases e1
    · cases e1
      exact ⟨[], .str _ _, by simp⟩
  | _ => cases e
theorem keyV_reads {h : Heap} {k : Key} {d : D} {u : Value} {p : PyData} {dr : Nat → Option PyData} (e : key1 d = some k) (r : RelV (kV k) u) (hp : toP dr d = some p) : ∃ as, Reads h u p as ∧ sysModules ∉ as := by
  cases d with
  | int i =>
    cases e
    simp [toP] at hp
    subst hp
    obtain ⟨t, rfl⟩ := r
    exact ⟨[], .int _ _, by simp⟩
  | str i =>
    cases e
    simp [toP] at hp
    subst hp
    obtain ⟨t, rfl⟩ := r
    exact ⟨[], .str _ _, by simp⟩
  | _ => cases e
theorem keysV_reads {h : Heap} {dr : Nat → Option PyData} : ∀ (ds : List D) (ks : List Key) (us : List Value) (ps : List PyData), keys1 ds = some ks → Vals (ks.map kV) us → toPs dr ds = some ps → ∃ as, ReadsAll h us ps as ∧ sysModules ∉ as
  | [], ks, us, ps, e, r, hp => by
    cases e
    cases r
    simp [toPs] at hp
    subst hp
    exact ⟨[], .nil, by simp⟩
  | d :: ds, ks, us, ps, e, r, hp => by
    simp only [keys1] at e
    split at e
    · rename_i k q e1 e2
      cases e
      cases r with
      | cons r1 r2 =>
        simp only [toPs] at hp
        split at hp
        · rename_i p1 p2 h1 h2
          cases hp
          obtain ⟨as, q1, n1⟩ := keyV_reads (h := h) e1 r1 h1
          obtain ⟨bs, q2, n2⟩ := keysV_reads ds q _ _ e2 r2 h2
          exact ⟨as ++ bs, .cons q1 q2, by simp [n1, n2]⟩
        · cases hp
    · cases e
mutual
theorem rd_reads (I : Inv X pins σ H s) (sm : SmOk s.heap) {dr : Nat → Option PyData} (hdr : ∀ l a q, g.ρ[l]? = some a → dr l = some q → ∃ as, Reads s.heap (.ref a) q as ∧ sysModules ∉ as) :
    ∀ (d : D) (v : V) (u : Value) (p : PyData), RD X.K g H d v → RelV v u → toP dr d = some p → ∃ as, Reads s.heap u p as ∧ sysModules ∉ as
  | .non, v, u, p, h, r, e => by
    unfold RD at h
    subst h
    simp [toP] at e
    subst e
    cases r
    exact ⟨[], .none, by simp⟩
  | .bl b, v, u, p, h, r, e => by
    unfold RD at h
    subst h
    simp [toP] at e
    subst e
    cases r
    exact ⟨[], .bool _, by simp⟩
  | .int i, v, u, p, h, r, e => by
    unfold RD at h
    subst h
    simp [toP] at e
    subst e
    obtain ⟨t, rfl⟩ := r
    exact ⟨[], .int _ _, by simp⟩
  | .str i, v, u, p, h, r, e => by
    unfold RD at h
    subst h
    simp [toP] at e
    subst e
    obtain ⟨t, rfl⟩ := r
    exact ⟨[], .str _ _, by simp⟩
  | .tup ds, v, u, p, h, r, e => by
    unfold RD at h
    obtain ⟨a, vs, rfl, _, h1, h2⟩ := h
    cases r
    simp only [toP, Option.map_eq_some_iff] at e
    obtain ⟨ps, e1, rfl⟩ := e
    obtain ⟨_, its, rv, o, ho, hc, n, hd⟩ := (show ObjOk X.prog X.w H s.heap a (.tup vs) from I.hok a _ h1)
    obtain ⟨as, q, n1⟩ := rds_reads I sm hdr ds vs its ps h2 rv e1
    exact ⟨as, .tuple ho hc hd (by simpa using q), n1⟩
  | .lst ds, v, u, p, h, r, e => by
    unfold RD at h
    obtain ⟨a, vs, rfl, _, h1, h2⟩ := h
    cases r
    simp only [toP, Option.map_eq_some_iff] at e
    obtain ⟨ps, e1, rfl⟩ := e
    exact lst_reads I sm hdr ds vs ps a h1 h2 e1
  | .scr l, v, u, p, h, r, e => by
    unfold RD at h
    obtain ⟨a, rfl, h⟩ := h
    cases r
    simp [toP] at e
    subst e
    have hS : SqL X.K H a (l.map V.int) := by
      rcases h with ⟨_, o, h1⟩ | h1
      · exact .inl (.inr ⟨o, h1⟩)
      · exact .inr h1
    obtain ⟨its, rv, ⟨o, n, ho, hc, _, hd⟩, _⟩ := I.list hS
    obtain ⟨as, q, n1⟩ := ints_reads (h := s.heap) l its rv
    refine ⟨a :: as, .list ho hc hd q, fun z => ?_⟩
    rcases List.mem_cons.mp z with z | z
    · obtain ⟨o2, h2, h3⟩ := sm
      rw [z, ho] at h2
      cases h2
      rw [hc] at h3
      exact absurd (Value.type.inj h3) (by decide)
    · exact n1 z
  | .dct t kvs, v, u, p, h, r, e => by
    unfold RD at h
    obtain ⟨a, rfl, _, h⟩ := h
    cases r
    simp only [toP, Option.map_eq_some_iff] at e
    obtain ⟨ps, e1, rfl⟩ := e
    rcases h with ⟨_, ks, h1, h2⟩ | ⟨_, ks, h1, h2⟩
    · exact dk_reads I sm hdr kvs ks ps a h1 h2 e1
    · exact dt_reads I sm hdr kvs ks ps a h1 h2 e1
  | .ref l, v, u, p, h, r, e => by
    unfold RD at h
    obtain ⟨a, rfl, h1⟩ := h
    cases r
    simp only [toP] at e
    exact hdr l a p h1 e
theorem rds_reads (I : Inv X pins σ H s) (sm : SmOk s.heap) {dr : Nat → Option PyData} (hdr : ∀ l a q, g.ρ[l]? = some a → dr l = some q → ∃ as, Reads s.heap (.ref a) q as ∧ sysModules ∉ as) :
    ∀ (ds : List D) (vs : List V) (us : List Value) (ps : List PyData), RDs X.K g H ds vs → Vals vs us → toPs dr ds = some ps → ∃ as, ReadsAll s.heap us ps as ∧ sysModules ∉ as
  | [], vs, us, ps, h, r, e => by
    unfold RDs at h
    subst h
    cases r
    simp [toPs] at e
    subst e
    exact ⟨[], .nil, by simp⟩
  | d :: ds, vs, us, ps, h, r, e => by
    unfold RDs at h
    obtain ⟨v, q, rfl, h1, h2⟩ := h
    cases r with
    | cons r1 r2 =>
      simp only [toPs] at e
      split at e
      · rename_i p1 p2 e1 e2
        cases e
        obtain ⟨as, q1, n1⟩ := rd_reads I sm hdr d v _ p1 h1 r1 e1
        obtain ⟨bs, q2, n2⟩ := rds_reads I sm hdr ds q _ p2 h2 r2 e2
        exact ⟨as ++ bs, .cons q1 q2, by simp [n1, n2]⟩
      · cases e
theorem rkf_reads (I : Inv X pins σ H s) (sm : SmOk s.heap) {dr : Nat → Option PyData} (hdr : ∀ l a q, g.ρ[l]? = some a → dr l = some q → ∃ as, Reads s.heap (.ref a) q as ∧ sysModules ∉ as) :
    ∀ (ds : List (D × D)) (ks : List (Key × V)) (us : List (Key × Value)) (es : List DictEntry) (ps : List (PyData × PyData)), RKf X.K g H ds ks → KV ks us → Pairs (mixKind X.prog X.w) es us → toPk dr ds = some ps →
      ∃ as bs, ReadsAll s.heap (es.map (·.key)) (ps.map (·.1)) as ∧ ReadsAll s.heap (es.map (·.val)) (ps.map (·.2)) bs ∧ sysModules ∉ as ∧ sysModules ∉ bs
  | [], ks, us, es, ps, h, r, q, e => by
    unfold RKf at h
    subst h
    cases r
    cases q
    simp [toPk] at e
    subst e
    exact ⟨[], [], .nil, .nil, by simp, by simp⟩
  | (k, d) :: ds, ks, us, es, ps, h, r, q, e => by
    unfold RKf at h
    obtain ⟨k', v, q', rfl, h0, h1, h2⟩ := h
    cases r with
    | cons r1 r2 =>
      cases q with
      | @cons en kv es' kvs' a1 a2 a3 =>
        have r3 : RelV v en.val := by
          rw [a2]
          exact r1.2
        simp only [toPk] at e
        split at e
        · rename_i p1 p2 p3 e1 e2 e3
          cases e
          obtain ⟨as, x1, n1⟩ := keyIs_reads (h := s.heap) h0 (by rw [show k' = _ from r1.1]; exact a1) e1
          obtain ⟨bs, x2, n2⟩ := rd_reads I sm hdr d v _ p2 h1 r3 e2
          obtain ⟨as', bs', y1, y2, m1, m2⟩ := rkf_reads I sm hdr ds q' _ _ p3 h2 r2 a3 e3
          exact ⟨as ++ as', bs ++ bs', .cons x1 y1, .cons x2 y2, by simp [n1, m1], by simp [n2, m2]⟩
        · cases e
theorem rkt_reads (I : Inv X pins σ H s) (sm : SmOk s.heap) {dr : Nat → Option PyData} (hdr : ∀ l a q, g.ρ[l]? = some a → dr l = some q → ∃ as, Reads s.heap (.ref a) q as ∧ sysModules ∉ as) :
    ∀ (ds : List (D × D)) (ks : List (List Key × V)) (us : List (List Key × Addr × Value)) (ps : List (PyData × PyData)), RKt X.K g H ds ks →
      Paired (fun (p : List Key × V) (q : List Key × Addr × Value) => p.1 = q.1 ∧ H q.2.1 = some (.tup (p.1.map kV)) ∧ RelV p.2 q.2.2) ks us → toPk dr ds = some ps →
      ∃ as bs, ReadsAll s.heap ((us.map (entryOfKey (tupleKind (mixKind X.prog X.w)))).map (·.key)) (ps.map (·.1)) as ∧ ReadsAll s.heap ((us.map (entryOfKey (tupleKind (mixKind X.prog X.w)))).map (·.val)) (ps.map (·.2)) bs ∧ sysModules ∉ as ∧ sysModules ∉ bs
  | [], ks, us, ps, h, r, e => by
    unfold RKt at h
    subst h
    cases r
    simp [toPk] at e
    subst e
    exact ⟨[], [], .nil, .nil, by simp, by simp⟩
  | (k, d) :: ds, ks, us, ps, h, r, e => by
    unfold RKt at h
    obtain ⟨l, k', v, q', rfl, rfl, h0, h1, h2⟩ := h
    cases r with
    | @cons x y r1 r2 z w =>
      simp only [toPk] at e
      split at e
      · rename_i p1 p2 p3 e1 e2 e3
        cases e
        simp only [toP, Option.map_eq_some_iff] at e1
        obtain ⟨pk, e1, rfl⟩ := e1
        obtain ⟨z1, z2, z3⟩ := z
        obtain ⟨_, its, rv, o, ho, hc, n, hd⟩ := (show ObjOk X.prog X.w H s.heap _ (.tup _) from I.hok _ _ z2)
        obtain ⟨as, x1, n1⟩ := keysV_reads (h := s.heap) l k' its pk h0 rv e1
        obtain ⟨bs, x2, n2⟩ := rd_reads I sm hdr d v _ p2 h1 z3 e2
        obtain ⟨as', bs', y1, y2, m1, m2⟩ := rkt_reads I sm hdr ds q' _ p3 h2 w e3
        exact ⟨as ++ as', bs ++ bs', .cons (.tuple ho hc hd (by simpa using x1)) y1, .cons x2 y2, by simp [n1, m1], by simp [n2, m2]⟩
      · cases e
theorem ints_reads {h : Heap} : ∀ (l : List Int) (us : List Value), Vals (l.map V.int) us → ∃ as, ReadsAll h us (l.map .int) as ∧ sysModules ∉ as
  | [], us, r => by
    cases r
    exact ⟨[], .nil, by simp⟩
  | i :: q, us, r => by
    cases r with
    | cons r1 r2 =>
      obtain ⟨t, rfl⟩ := r1
      obtain ⟨as, q1, n1⟩ := ints_reads q _ r2
      exact ⟨[] ++ as, .cons (.int _ _) q1, by simpa using n1⟩
theorem lst_reads (I : Inv X pins σ H s) (sm : SmOk s.heap) {dr : Nat → Option PyData} (hdr : ∀ l a q, g.ρ[l]? = some a → dr l = some q → ∃ as, Reads s.heap (.ref a) q as ∧ sysModules ∉ as) :
    ∀ (ds : List D) (vs : List V) (ps : List PyData) (a : Addr), H a = some (.lst vs) → RDs X.K g H ds vs → toPs dr ds = some ps → ∃ as, Reads s.heap (.ref a) (.list ps) as ∧ sysModules ∉ as := by
  intro ds vs ps a h1 h2 e1
  obtain ⟨_, its, n, rv, ho⟩ := (show ObjOk X.prog X.w H s.heap a (.lst vs) from I.hok a _ h1)
  obtain ⟨as, q, n1⟩ := rds_reads I sm hdr ds vs its ps h2 rv e1
  refine ⟨a :: as, .list ho rfl rfl (by simpa using q), fun z => ?_⟩
  rcases List.mem_cons.mp z with z | z
  · obtain ⟨o2, h2, h3⟩ := sm
    rw [z, ho] at h2
    cases h2
    exact absurd (Value.type.inj h3) (by decide)
  · exact n1 z
theorem dk_reads (I : Inv X pins σ H s) (sm : SmOk s.heap) {dr : Nat → Option PyData} (hdr : ∀ l a q, g.ρ[l]? = some a → dr l = some q → ∃ as, Reads s.heap (.ref a) q as ∧ sysModules ∉ as) :
    ∀ (ds : List (D × D)) (ks : List (Key × V)) (ps : List (PyData × PyData)) (a : Addr), H a = some (.dK ks) → RKf X.K g H ds ks → toPk dr ds = some ps → ∃ as, Reads s.heap (.ref a) (.dict ps) as ∧ sysModules ∉ as := by
  intro ds ks ps a h1 h2 e1
  obtain ⟨_, ha, us, r, o, es, ep, ho, hx, hd, _, hp, _⟩ := (show ObjOk X.prog X.w H s.heap a (.dK ks) from I.hok a _ h1)
  obtain ⟨as, bs, q1, q2, n1, n2⟩ := rkf_reads I sm hdr ds ks us es.toList ps h2 r hp e1
  refine ⟨a :: as ++ bs, .dict ho hx.1 hd q1 q2, fun z => ?_⟩
  rcases List.mem_append.mp z with z | z
  · rcases List.mem_cons.mp z with z | z
    · rw [← z] at ha
      simp at ha
    · exact n1 z
  · exact n2 z
theorem dt_reads (I : Inv X pins σ H s) (sm : SmOk s.heap) {dr : Nat → Option PyData} (hdr : ∀ l a q, g.ρ[l]? = some a → dr l = some q → ∃ as, Reads s.heap (.ref a) q as ∧ sysModules ∉ as) :
    ∀ (ds : List (D × D)) (ks : List (List Key × V)) (ps : List (PyData × PyData)) (a : Addr), H a = some (.dT ks) → RKt X.K g H ds ks → toPk dr ds = some ps → ∃ as, Reads s.heap (.ref a) (.dict ps) as ∧ sysModules ∉ as := by
  intro ds ks ps a h1 h2 e1
  obtain ⟨_, ha, us, r, o, es, ep, ho, hx, hd, he, _⟩ := (show ObjOk X.prog X.w H s.heap a (.dT ks) from I.hok a _ h1)
  obtain ⟨as, bs, q1, q2, n1, n2⟩ := rkt_reads I sm hdr ds ks us ps h2 r e1
  rw [← he] at q1 q2
  refine ⟨a :: as ++ bs, .dict ho hx.1 hd q1 q2, fun z => ?_⟩
  rcases List.mem_append.mp z with z | z
  · rcases List.mem_cons.mp z with z | z
    · rw [← z] at ha
      simp at ha
    · exact n1 z
  · exact n2 z
end
end
end Ev
/-! Mn: min(xs, default=d), xs a list of ints -/
namespace PySem
open AutoSeq1 MeetsSeq
section
variable {prog : Program} {w : World} {A : Around} {R : Result → Shared → Prop} {J : Addr} {fp wr : List Addr} {m : Nat} {P : Nat → Value → Prop} {St : Nat → Heap → Prop}
theorem mn_name : (toString "min" ++ toString ".loop" : String) = "min.loop" := by decide
/-- the turns behind the first one; kw stays as it is -/
theorem mn_turns (kw : List (Str × Value)) (G : Walks prog w A.in1 J fp wr m P St) (lt : Nat → Nat → Bool) (hlt : CmpOf prog w A.in1 .Lt P lt) (B : Addr) (hB : B ∉ fp) :
    ∀ (k j : Nat) (s : Shared) (best : Value) (c : Nat), m = j + 1 + k → St (j + 1) s.heap → P (argBest lt j) best →
    s.heap.get? B = some { cls := .type "list", dict := none, data := .seq #[best, best] c, slots := #[] } →
    (∀ v g tk, P (argBest lt (m - 1)) v → (∀ b o, b ∉ wr → b ≠ B → s.heap.get? b = some o → g.get? b = some o) → R (.ok (.ret v)) { s with heap := g, toks := tk }) →
    codeAny (model prog w) A (.builtin "min.loop" ⟨[.ref J, .none, .ref B], kw⟩) R s := by
  have nB : B ∉ wr := fun z => hB (G.sub _ z)
  intro k
  induction k with
  | zero =>
    intro j s best c hm hst hb hs hR
    refine codeAny_builtin F.entry_min_loop ?_
    rw [Around.under_plainId F.plain_min_loop _]
    show wpAny _ A.in1 (seqItems? (.ref B) >>= _) _ _ s
    refine wpAny_bind (wpAny_seqItems hs rfl ?_)
    show wpAny _ A.in1 (tryCatch (pyNext (.ref J)) _ >>= _) _ _ s
    refine wpAny_bind (wpAny_tryCatch (G.done s _ _ (by rw [hm]; exact hst) fun g tk hg => ?_))
    show wpAny _ A.in1 (updateSeq B (fun _ => #[]) >>= _) _ _ _
    refine wpAny_bind (wpAny_updateSeq (hg B _ nB hs) rfl (wpAny_bind (wpAny_letGo (wpAny_pure (hR best _ tk (by rw [hm]; exact hb) fun b o h1 h2 e => ?_)))))
    exact (Heap.get?_update_other _ _ (Ne.symm h2)).trans (hg b o h1 e)
  | succ k ih =>
    intro j s best c hm hst hb hs hR
    refine codeAny_builtin F.entry_min_loop ?_
    rw [Around.under_plainId F.plain_min_loop _]
    show wpAny _ A.in1 (seqItems? (.ref B) >>= _) _ _ s
    refine wpAny_bind (wpAny_seqItems hs rfl ?_)
    show wpAny _ A.in1 (tryCatch (pyNext (.ref J)) _ >>= _) _ _ s
    refine wpAny_bind (wpAny_tryCatch (G.item (j + 1) s _ _ (by omega) hst fun v g tk hv hst2 hg => ?_))
    have hs2 := hg B _ nB hs
    show wpAny _ A.in1 (tryCatch (holding [v, v] (richCompare .Lt v best >>= _)) _ >>= _) _ _ _
    refine wpAny_bind (wpAny_tryCatch (wpAny_holding (wpAny_bind (hlt (j + 1) (argBest lt j) v best _ _ _ hv hb (wpAny_bind (wpAny_holding (wpAny_truthy_bool (wpAny_bind (wpAny_letGo (wpAny_pure ?_))))))))))
    cases hc : lt (j + 1) (argBest lt j) with
    | true =>
      simp only [if_true]
      refine wpAny_bind (wpAny_updateSeq hs2 rfl (wpAny_bind (wpAny_letGo ?_)))
      rw [mn_name]
      have st3 : St (j + 1 + 1) (g.update B (Obj.mapSeq fun _ => #[v, v])) := G.frame _ _ _ hst2 fun b hbf o e => (Heap.get?_update_other _ _ (fun z : B = b => hB (by rw [z]; exact hbf))).trans e
      refine wpAny_pure ⟨plainId_quiet F.plain_min_loop _, ih (j + 1) _ v _ (by omega) st3 (by simp only [argBest, hc, if_true]; exact hv) (Heap.get?_update_self _ hs2 rfl) fun v2 g2 tk2 hv2 hg2 => ?_⟩
      exact hR v2 g2 tk2 hv2 fun b o h1 h2 e => hg2 b o h1 h2 ((Heap.get?_update_other _ _ (Ne.symm h2)).trans (hg b o h1 e))
    | false =>
      simp only [Bool.false_eq_true, if_false]
      refine wpAny_bind (wpAny_letGo ?_)
      rw [mn_name]
      refine wpAny_pure ⟨plainId_quiet F.plain_min_loop _, ih (j + 1) _ best c (by omega) hst2 (by simp only [argBest, hc, Bool.false_eq_true, if_false]; exact hb) hs2 fun v2 g2 tk2 hv2 hg2 => ?_⟩
      exact hR v2 g2 tk2 hv2 fun b o h1 h2 e => hg2 b o h1 h2 (hg b o h1 e)
/-- the first turn: nothing there, or the first item -/
theorem mn_first (d : Value) (G : Walks prog w A.in1 J fp wr m P St) (lt : Nat → Nat → Bool) (hlt : CmpOf prog w A.in1 .Lt P lt) (B : Addr) (hB : B ∉ fp) {s : Shared} {c : Nat} (hst : St 0 s.heap)
    (hs : s.heap.get? B = some { cls := .type "list", dict := none, data := .seq #[] c, slots := #[] })
    (h0 : m = 0 → ∀ g tk, (∀ b o, b ∉ wr → b ≠ B → s.heap.get? b = some o → g.get? b = some o) → R (.ok (.ret d)) { s with heap := g, toks := tk })
    (hR : 0 < m → ∀ v g tk, P (argBest lt (m - 1)) v → (∀ b o, b ∉ wr → b ≠ B → s.heap.get? b = some o → g.get? b = some o) → R (.ok (.ret v)) { s with heap := g, toks := tk }) :
    codeAny (model prog w) A (.builtin "min.loop" ⟨[.ref J, .none, .ref B], [("default", d)]⟩) R s := by
  have nB : B ∉ wr := fun z => hB (G.sub _ z)
  refine codeAny_builtin F.entry_min_loop ?_
  rw [Around.under_plainId F.plain_min_loop _]
  show wpAny _ A.in1 (seqItems? (.ref B) >>= _) _ _ s
  refine wpAny_bind (wpAny_seqItems hs rfl ?_)
  show wpAny _ A.in1 (tryCatch (pyNext (.ref J)) _ >>= _) _ _ s
  rcases Nat.eq_zero_or_pos m with hm | hm
  · refine wpAny_bind (wpAny_tryCatch (G.done s _ _ (by rw [hm]; exact hst) fun g tk hg => ?_))
    refine wpAny_bind (wpAny_rule ?_)
    exact wpAny_pure (h0 hm g tk fun b o h1 _ e => hg b o h1 e)
  · refine wpAny_bind (wpAny_tryCatch (G.item 0 s _ _ hm hst fun v g tk hv hst2 hg => ?_))
    have hs2 := hg B _ nB hs
    show wpAny _ A.in1 (updateSeq B (fun _ => #[v, v]) >>= _) _ _ _
    refine wpAny_bind (wpAny_updateSeq hs2 rfl ?_)
    rw [mn_name]
    have st3 : St (0 + 1) (g.update B (Obj.mapSeq fun _ => #[v, v])) := G.frame _ _ _ hst2 fun b hbf o e => (Heap.get?_update_other _ _ (fun z : B = b => hB (by rw [z]; exact hbf))).trans e
    refine wpAny_pure ⟨plainId_quiet F.plain_min_loop _, mn_turns [("default", d)] G lt hlt B hB (m - 1) 0 _ v _ (by omega) st3 hv (Heap.get?_update_self _ hs2 rfl) fun v2 g2 tk2 hv2 hg2 => ?_⟩
    exact hR hm v2 g2 tk2 hv2 fun b o h1 h2 e => hg2 b o h1 h2 ((Heap.get?_update_other _ _ (Ne.symm h2)).trans (hg b o h1 e))
end
section
variable {prog : Program} {w : World} {A : Around} {E : Value → Shared → Prop} {s : Shared} {l : Addr} {xs : Array (Int × Tok)}
theorem mn_args (a d : Value) : argsOk "min" ⟨[a], [(Str.ofString "default", d)]⟩ := by unfold argsOk; kernel_rfl
theorem mn_call (d : Value) {Q : Value → Shared → Prop} (hh : A.handled = none) (hl : s.heap.IsList l (intItems xs))
    (h0 : xs.size = 0 → ∀ g tk, (∀ b o, s.heap.get? b = some o → g.get? b = some o) → Q d { s with heap := g, toks := tk })
    (h1 : 0 < xs.size → ∀ v g tk, (intItems xs)[argBest (fun i j => decide (numAt xs i < numAt xs j)) (xs.size - 1)]? = some v → (∀ b o, s.heap.get? b = some o → g.get? b = some o) → Q v { s with heap := g, toks := tk }) :
    wpAny (model prog w) A (call (.builtin "min") [.ref l] [(Str.ofString "default", d)]) Q E s := by
  refine PyProof.Rows.kmk_tree F.kind_min F.plain_min F.entry_min (mn_args _ _) ?_
  show wpAny _ A.in1 (Builtin.Builtins.bindParams "min" ["key", "default"] 0 ⟨[], [(Str.ofString "default", d)]⟩ >>= _) _ _ s
  refine wpAny_bind (wpAny_of_eq (show Builtin.Builtins.bindParams "min" ["key", "default"] 0 ⟨[], [(Str.ofString "default", d)]⟩ = pure [none, some d] from rfl) ?_)
  refine wpAny_bind (wpAny_pure ?_)
  refine wpAny_bind (iter_intList hl fun s₂ e st hfp hlI => ?_)
  subst e
  have G := Walks.list (prog := prog) (w := w) (A := A.in1) hh _ l hlI (intItems xs)
  refine wpAny_bind (wpAny_newObj_type ?_)
  have hB : ∀ b, b ∈ [s.heap.objs.size, l] → b < (s.heap.push { cls := .type "list_iterator", data := .fields #[.ref l, .int 0 0] }).objs.size := hfp
  rw [mn_name]
  have hsz : (intItems xs).size = xs.size := by simp [intItems]
  refine wpAny_pure ⟨plainId_quiet F.plain_min_loop _, mn_first d G _ (CmpOf.ints_lt (numAt xs) (fun _ _ => intItems_at)) _ (fun hm => Nat.lt_irrefl _ (hB _ hm)) (G.frame _ _ _ st fun b _ o e => Heap.get?_push_of_some _ e) (Heap.get?_push_size _ rfl) (fun hm g tk hk => ?_) fun hm v g tk hP hk => ?_⟩
  · rw [hsz] at hm
    exact h0 hm g tk (old_kept fun b o hbw e => hk b o hbw (Nat.ne_of_lt (Heap.lt_size e)) (Heap.get?_push_of_some _ e))
  · rw [hsz] at hm hP
    exact h1 hm v g tk hP (old_kept fun b o hbw e => hk b o hbw (Nat.ne_of_lt (Heap.lt_size e)) (Heap.get?_push_of_some _ e))
end
end PySem
namespace L2
open PySem PySem.Spec PyProof.Rows
/-- min(xs, default=None) of a list of ints -/
def rMinD (K : PySem.W.Frag) : List V → List V → Hp → VK → Prop := fun vs zs H Q => ∃ (a : Addr) (ns : List Int), vs = [V.ref a] ∧ zs = [V.non] ∧ SqL K H a (ns.map V.int) ∧ (ns = [] → Q .non H) ∧ ∀ m, m ∈ ns → (∀ y, y ∈ ns → m ≤ y) → Q (.int m) H
section
variable {X : Cx}
theorem cr_minD (hc : X.calm = true) : CallRK X (.builtin "min") [Str.ofString "default"] (rMinD X.K) := by
  intro pins s σ H vs zs us ws Q I r rz h
  obtain ⟨a, ns, rfl, rfl, hs, q0, q⟩ := h
  obtain rfl := Vals.ref1 r
  obtain ⟨w1, rfl, e1⟩ := vals1 rz
  obtain rfl : w1 = Value.none := e1
  obtain ⟨its, rv, hl, _⟩ := I.list hs
  have hi := rv.ints
  obtain ⟨xs, e⟩ := hi.allInts.items
  have hn : numsOf (intItems xs).toList = ns := by
    rw [← e]
    exact hi.numsOf
  rw [nums_intItems] at hn
  subst hn
  have hl := hl.isList
  rw [e] at hl
  refine mn_call .none (I.ok.hd hc) hl (fun hz g tk hk => ?_) fun hz v g tk hv hk => ?_
  · have hx : xs = #[] := Array.eq_empty_of_size_eq_zero hz
    subst hx
    exact ⟨.non, H, I.kept hk, rfl, q0 rfl⟩
  · obtain ⟨t, rfl⟩ := intItems_at hv
    obtain ⟨g1, g2⟩ := argBest_lt (numAt xs) (xs.size - 1)
    refine ⟨.int _, H, I.kept hk, ⟨_, rfl⟩, q _ ?_ fun y hy => ?_⟩
    · rw [numAt_eq]
      exact PySem.getD_mem (by rw [List.length_map, Array.length_toList]; omega)
    · obtain ⟨j, hj, rfl⟩ := mem_getD hy
      rw [List.length_map, Array.length_toList] at hj
      rw [← numAt_eq]
      exact g2 j (by omega)
end
end L2
/-! Ev5: comparisons, built-in functions -/
namespace Ev
open PySem L2 PySem.Spec PyProof.Rows
section
variable {X : Cx} {pins : List (Addr × Obj)} {σ : L2.St} {H : Hp} {s : Shared} {g : G} {st : Store}
theorem no0_reads {l : Nat} {a : Addr} {q : PyData} (_ : g.ρ[l]? = some a) (e : no0 l = some q) : ∃ as, Reads s.heap (.ref a) q as ∧ sysModules ∉ as := by cases e
theorem dr1_reads (I : Inv X pins σ H s) (sm : SmOk s.heap) (r : Rel X.K g H st) : ∀ (l : Nat) (a : Addr) (q : PyData), g.ρ[l]? = some a → dr1 st l = some q → ∃ as, Reads s.heap (.ref a) q as ∧ sysModules ∉ as := by
  intro l a q h e
  unfold dr1 at e
  split at e
  · rename_i ds hs
    simp only [Option.map_eq_some_iff] at e
    obtain ⟨ps, e1, rfl⟩ := e
    obtain ⟨vs, h1, h2⟩ := r.obj l a _ h hs
    exact lst_reads I sm (dr := no0) (fun l a q => no0_reads) ds vs ps a h1 h2 e1
  · rename_i t ds hs
    simp only [Option.map_eq_some_iff] at e
    obtain ⟨ps, e1, rfl⟩ := e
    rcases r.obj l a _ h hs with ⟨_, ks, h1, h2⟩ | ⟨_, ks, h1, h2⟩
    · exact dk_reads I sm (dr := no0) (fun l a q => no0_reads) ds ks ps a h1 h2 e1
    · exact dt_reads I sm (dr := no0) (fun l a q => no0_reads) ds ks ps a h1 h2 e1
  · cases e
  · cases e
theorem toPy_reads (I : Inv X pins σ H s) (sm : SmOk s.heap) (r : Rel X.K g H st) {x : D} {vx : V} {u : Value} {p : PyData} {w : Bool} (h : RDw X.K w g H x vx) (rv : RelV vx u) (e : toPy st x = some p) : ∃ as, Reads s.heap u p as ∧ sysModules ∉ as := by
  rcases h with h | ⟨_, a, o, rfl, rfl, ro, _, _⟩
  · exact rd_reads I sm (dr1_reads I sm r) x vx u p h rv e
  · cases rv
    cases o with
    | lst ds =>
      obtain ⟨vs, h1, h2⟩ := ro
      simp only [toPy, O.d, toP, Option.map_eq_some_iff] at e
      obtain ⟨ps, e1, rfl⟩ := e
      exact lst_reads I sm (dr1_reads I sm r) ds vs ps a h1 h2 e1
    | dct t ds =>
      simp only [toPy, O.d, toP, Option.map_eq_some_iff] at e
      obtain ⟨ps, e1, rfl⟩ := e
      rcases ro with ⟨_, ks, h1, h2⟩ | ⟨_, ks, h1, h2⟩
      · exact dk_reads I sm (dr1_reads I sm r) ds ks ps a h1 h2 e1
      · exact dt_reads I sm (dr1_reads I sm r) ds ks ps a h1 h2 e1
    | ins c fs => exact False.elim ro
/-! ### flat things -/
theorem flat_v {K : PySem.W.Frag} {d : D} {v : V} (h : RD K g H d v) (f : flatD d = true) : flatV v = true := by
  cases d <;> simp [flatD] at f <;> (unfold RD at h; subst h; rfl)
theorem flats_v {K : PySem.W.Frag} : ∀ {ds : List D} {vs : List V}, RDs K g H ds vs → ds.all flatD = true → vs.all flatV = true
  | [], vs, h, _ => by
    unfold RDs at h
    rw [h]
    rfl
  | d :: ds, vs, h, f => by
    unfold RDs at h
    obtain ⟨v, r, rfl, h1, h2⟩ := h
    rw [List.all_cons, Bool.and_eq_true] at f ⊢
    exact ⟨flat_v h1 f.1, flats_v h2 f.2⟩
theorem eq_v {K : PySem.W.Frag} {d e : D} {v u : V} (h : RD K g H d v) (h2 : RD K g H e u) (f : flatD d = true) (f2 : flatD e = true) : eqV v u = eqF d e := by
  cases d <;> simp [flatD] at f <;> cases e <;> simp [flatD] at f2 <;> (unfold RD at h h2; subst h; subst h2; rfl)
theorem in_v {K : PySem.W.Frag} {x : D} {vx : V} (hx : RD K g H x vx) (fx : flatD x = true) : ∀ {ds : List D} {vs : List V}, RDs K g H ds vs → ds.all flatD = true → inV vx vs = inF x ds
  | [], vs, h, _ => by
    unfold RDs at h
    rw [h]
    rfl
  | d :: ds, vs, h, f => by
    unfold RDs at h
    obtain ⟨v, r, rfl, h1, h2⟩ := h
    rw [List.all_cons, Bool.and_eq_true] at f
    unfold inV inF
    rw [List.any_cons, List.any_cons, eq_v h1 hx f.1 fx]
    congr 1
    exact in_v hx fx h2 f.2
theorem rdw_flatD {K : PySem.W.Frag} {w : Bool} {x : D} {vx : V} (h : RDw K w g H x vx) (f : flatD x = true) : RD K g H x vx := rdw_flat (by cases x <;> first | rfl | simp [flatD] at f) h
theorem one_sign {a : Str} (h : a.length = 1) : a = ⟨#[a.cps.toList.headD 0]⟩ := by
  obtain ⟨l⟩ := a
  obtain ⟨l⟩ := l
  have h1 : l.length = 1 := h
  match l, h1 with
  | [c], _ => rfl
end
def coOp : CO → CmpOp
  | .eq => .Eq
  | .ne => .NotEq
  | .lt => .Lt
  | .le => .LtE
  | .gt => .Gt
  | .ge => .GtE
  | .is => .Is
  | .isnot => .IsNot
  | .isin => .In
  | .notin => .NotIn
def isIn (o : CO) : Bool := match o with
  | .isin => true
  | .notin => true
  | _ => false
def rCmp (K : PySem.W.Frag) (o : CO) : R2 := fun vx vy H Q => ∃ g st x y b, Rel K g H st ∧ RDw K true g H x vx ∧ RDw K true g H y vy ∧ cmpop o x y st = some b ∧ (isIn o = true → asK st y = none) ∧ Q (.bl b) H
section
variable {X : Cx}
theorem eqL_run (hu : X.A.units + 64 < cLine) {pins : List (Addr × Obj)} {s : Shared} {σ : L2.St} {H : Hp} {vx vy : V} {v u : Value} {Q : VK} {g : G} {st : Store} {x y : D} {b : Bool} (I : Inv X pins σ H s) (rx : RelV vx v) (ry : RelV vy u) (r : Rel X.K g H st)
    (hx : RDw X.K true g H x vx) (hy : RDw X.K true g H y vy) (e : eqL st x y = some b) :
    (Q (.bl b) H → wpAny (model X.prog X.w) X.A (compareOp .Eq v u) (EP X pins σ Q) X.xe s) ∧ (Q (.bl (!b)) H → wpAny (model X.prog X.w) X.A (compareOp .NotEq v u) (EP X pins σ Q) X.xe s) := by
  unfold eqL at e
  split at e
  · rename_i l m h1 h2
    obtain ⟨p1, v1, rfl, k1, d1⟩ := asL_ok r hx h1
    obtain ⟨p2, v2, rfl, k2, d2⟩ := asL_ok r hy h2
    cases rx
    cases ry
    obtain ⟨i1, rv1, hl1, _⟩ := I.list (SqL.of k1)
    obtain ⟨i2, rv2, hl2, _⟩ := I.list (SqL.of k2)
    have n1 : i1.toArray.size = l.length := by
      rw [List.size_toArray, ← rv1.length, d1.length]
    have n2 : i2.toArray.size = m.length := by
      rw [List.size_toArray, ← rv2.length, d2.length]
    have hu1 : X.A.units < cLine := by omega
    split at e
    · rename_i hlm
      split at e
      · rename_i h0
        cases e
        have z1 : i1.toArray.size = 0 := by omega
        have hz : i1.toArray.size = i2.toArray.size := by omega
        have er : ((List.range i1.toArray.size).all fun _ => true) = true := by
          rw [z1]
          rfl
        have g1 := SeqAt.RcAt.lists (A := X.A) (e := fun _ => true) hl1.isList hl2.isList hz hu1 (fun j j1 _ => by omega)
        have g2 := SeqAt.RcNeAt.lists (A := X.A) (e := fun _ => true) hl1.isList hl2.isList hz hu1 (fun j j1 _ => by omega)
        rw [er] at g1 g2
        exact ⟨fun q => g1 X.prog X.w _ _ ⟨.bl _, H, I, rfl, q⟩, fun q => g2 X.prog X.w _ _ ⟨.bl _, H, I, rfl, q⟩⟩
      · cases e
    · rename_i hlm
      cases e
      have hz : (i1.toArray.size != i2.toArray.size) = true := by
        rw [n1, n2]
        exact bne_iff_ne.mpr hlm
      exact ⟨fun q => SeqAt.RcAt.lists_lengths (A := X.A) hl1.isList hl2.isList hz hu1 X.prog X.w _ _ ⟨.bl _, H, I, rfl, q⟩, fun q => SeqAt.RcNeAt.lists_lengths (A := X.A) hl1.isList hl2.isList hz hu1 X.prog X.w _ _ ⟨.bl _, H, I, rfl, q⟩⟩
  · cases e
theorem op_eq1 (hu : X.A.units + 64 < cLine) (sm : SmOk X.base) {pins : List (Addr × Obj)} {s : Shared} {σ : L2.St} {H : Hp} {vx vy : V} {v u : Value} {Q : VK} {g : G} {st : Store} {x y : D} {b : Bool} (I : Inv X pins σ H s) (rx : RelV vx v) (ry : RelV vy u) (r : Rel X.K g H st)
    (hx : RDw X.K true g H x vx) (hy : RDw X.K true g H y vy) (e : eqD st x y = some b) :
    (Q (.bl b) H → wpAny (model X.prog X.w) X.A (compareOp .Eq v u) (EP X pins σ Q) X.xe s) ∧ (Q (.bl (!b)) H → wpAny (model X.prog X.w) X.A (compareOp .NotEq v u) (EP X pins σ Q) X.xe s) := by
  have sm2 : SmOk s.heap := by
    obtain ⟨o, h1, h2⟩ := sm
    exact ⟨o, I.bk _ _ h1, h2⟩
  unfold eqD at e
  split at e
  · cases e
    rw [rdw_int hx] at rx
    rw [rdw_int hy] at ry
    constructor
    · intro q
      refine op_eq pins s σ H _ _ v u Q I rx ry ⟨rfl, ?_⟩
      have e1 : ∀ a b : Int, decide (V.int a = V.int b) = decide (a = b) := fun a b => by simp
      rw [e1]
      exact q
    · intro q
      refine op_ne pins s σ H _ _ v u Q I rx ry ⟨rfl, ?_⟩
      have e1 : ∀ a b : Int, decide (V.int a = V.int b) = decide (a = b) := fun a b => by simp
      rw [e1]
      exact q
  · cases e
    rw [rdw_str hx] at rx
    rw [rdw_str hy] at ry
    constructor
    · intro q
      refine op_eq pins s σ H _ _ v u Q I rx ry ⟨rfl, ?_⟩
      have e1 : ∀ a b : Str, decide (V.str a = V.str b) = decide (a = b) := fun a b => by simp
      rw [e1]
      exact q
    · intro q
      refine op_ne pins s σ H _ _ v u Q I rx ry ⟨rfl, ?_⟩
      have e1 : ∀ a b : Str, decide (V.str a = V.str b) = decide (a = b) := fun a b => by simp
      rw [e1]
      exact q
  · cases e
    rw [rdw_bl hx] at rx
    rw [rdw_bl hy] at ry
    constructor
    · intro q
      refine op_eq pins s σ H _ _ v u Q I rx ry ⟨rfl, ?_⟩
      have e1 : ∀ a b : Bool, decide (V.bl a = V.bl b) = decide (a = b) := fun a b => by simp
      rw [e1]
      exact q
    · intro q
      refine op_ne pins s σ H _ _ v u Q I rx ry ⟨rfl, ?_⟩
      have e1 : ∀ a b : Bool, decide (V.bl a = V.bl b) = decide (a = b) := fun a b => by simp
      rw [e1]
      exact q
  · split at e
    · rename_i p q e1 e2
      split at e
      · cases e
        rename_i sh
        obtain ⟨as, r1, _⟩ := toPy_reads I sm2 r hx rx e1
        obtain ⟨bs, r2, _⟩ := toPy_reads I sm2 r hy ry e2
        exact ⟨fun q => SeqAt.compareEq_shaped r1 r2 sh.1 sh.2 hu ⟨.bl _, H, I, rfl, q⟩, fun q => SeqAt.compareNe_shaped r1 r2 sh.1 sh.2 hu ⟨.bl _, H, I, rfl, q⟩⟩
      · exact eqL_run hu I rx ry r hx hy e
    · exact eqL_run hu I rx ry r hx hy e
theorem op_in1 {pins : List (Addr × Obj)} {s : Shared} {σ : L2.St} {H : Hp} {vx vy : V} {v u : Value} {Q : VK} {g : G} {st : Store} {x y : D} {b : Bool} (I : Inv X pins σ H s) (rx : RelV vx v) (ry : RelV vy u) (r : Rel X.K g H st)
    (hx : RDw X.K true g H x vx) (hy : RDw X.K true g H y vy) (e : inD st x y = some b) (hk : asK st y = none) :
    (Q (.bl b) H → wpAny (model X.prog X.w) X.A (compareOp .In v u) (EP X pins σ Q) X.xe s) ∧ (Q (.bl (!b)) H → wpAny (model X.prog X.w) X.A (compareOp .NotIn v u) (EP X pins σ Q) X.xe s) := by
  unfold inD at e
  rw [hk] at e
  simp only at e
  unfold inS at e
  split at e
  · split at e
    · rename_i a z hl
      cases e
      rw [rdw_str hx, one_sign hl] at rx
      rw [rdw_str hy] at ry
      exact ⟨fun q => op_in_sign pins s σ H _ _ v u Q I rx ry ⟨_, _, rfl, rfl, q⟩, fun q => op_notIn_sign pins s σ H _ _ v u Q I rx ry ⟨_, _, rfl, rfl, q⟩⟩
    · cases e
  · split at e
    · rename_i l _ f
      cases e
      obtain ⟨p, vs, rfl, h1, h2⟩ := rdw_tup hy
      have hx2 := rdw_flatD hx f.1
      constructor
      · intro q
        refine op_in_seq pins s σ H _ _ v u Q I rx ry ⟨p, vs, rfl, .inr (SqT.of h1), flat_v hx2 f.1, flats_v h2 f.2, ?_⟩
        rw [in_v hx2 f.1 h2 f.2]
        exact q
      · intro q
        refine op_notIn_seq pins s σ H _ _ v u Q I rx ry ⟨p, vs, rfl, .inr (SqT.of h1), flat_v hx2 f.1, flats_v h2 f.2, ?_⟩
        rw [in_v hx2 f.1 h2 f.2]
        exact q
    · cases e
  · split at e
    · rename_i l hl
      split at e
      · rename_i f
        cases e
        obtain ⟨p, vs, rfl, h1, h2⟩ := asR_ok r hy hl
        have hx2 := rdw_flatD hx f.1
        constructor
        · intro q
          refine op_in_seq pins s σ H _ _ v u Q I rx ry ⟨p, vs, rfl, .inl h1, flat_v hx2 f.1, flats_v h2 f.2, ?_⟩
          rw [in_v hx2 f.1 h2 f.2]
          exact q
        · intro q
          refine op_notIn_seq pins s σ H _ _ v u Q I rx ry ⟨p, vs, rfl, .inl h1, flat_v hx2 f.1, flats_v h2 f.2, ?_⟩
          rw [in_v hx2 f.1 h2 f.2]
          exact q
      · cases e
    · cases e
theorem op_cmp (o : CO) (hu : X.A.units + 64 < cLine) (sm : SmOk X.base) : OpR X (compareOp (coOp o)) (rCmp X.K o) := by
  intro pins s σ H vx vy v u Q I rx ry h
  obtain ⟨g, st, x, y, b, r, hx, hy, e, hk, q⟩ := h
  unfold cmpop at e
  split at e
  · cases e
    rw [rdw_int hx] at rx
    rw [rdw_int hy] at ry
    exact op_lt pins s σ H _ _ v u Q I rx ry ⟨_, _, rfl, rfl, q⟩
  · cases e
    rw [rdw_int hx] at rx
    rw [rdw_int hy] at ry
    exact op_le pins s σ H _ _ v u Q I rx ry ⟨_, _, rfl, rfl, q⟩
  · cases e
    rw [rdw_int hx] at rx
    rw [rdw_int hy] at ry
    exact op_gt pins s σ H _ _ v u Q I rx ry ⟨_, _, rfl, rfl, q⟩
  · cases e
    rw [rdw_int hx] at rx
    rw [rdw_int hy] at ry
    exact op_ge pins s σ H _ _ v u Q I rx ry ⟨_, _, rfl, rfl, q⟩
  · cases e
    have e2 : decide (vx = .non) = decide (x = .non) := by
      rcases hx with hx | ⟨_, p, o, rfl, rfl, ro, _⟩
      · cases x <;> (unfold RD at hx; first | (subst hx; simp) | (obtain ⟨p, rfl, _⟩ := hx; simp) | (obtain ⟨p, vs, rfl, _⟩ := hx; simp))
      · cases o <;> first | exact False.elim ro | simp [O.d]
    refine op_isN pins s σ H _ _ v u Q I rx ry ⟨rdw_non hy, ?_⟩
    rw [e2]
    exact q
  · cases e
    have e2 : decide (vx = .non) = decide (x = .non) := by
      rcases hx with hx | ⟨_, p, o, rfl, rfl, ro, _⟩
      · cases x <;> (unfold RD at hx; first | (subst hx; simp) | (obtain ⟨p, rfl, _⟩ := hx; simp) | (obtain ⟨p, vs, rfl, _⟩ := hx; simp))
      · cases o <;> first | exact False.elim ro | simp [O.d]
    refine op_notN pins s σ H _ _ v u Q I rx ry ⟨rdw_non hy, ?_⟩
    rw [e2]
    exact q
  · cases e
    rw [rdw_bl hx] at rx
    rw [rdw_bl hy] at ry
    exact op_isBl pins s σ H _ _ v u Q I rx ry ⟨_, _, rfl, rfl, q⟩
  · cases e
    rw [rdw_bl hx] at rx
    rw [rdw_bl hy] at ry
    exact op_notBl pins s σ H _ _ v u Q I rx ry ⟨_, _, rfl, rfl, q⟩
  · exact (op_eq1 hu sm I rx ry r hx hy e).1 q
  · simp only [Option.map_eq_some_iff] at e
    obtain ⟨b', e, rfl⟩ := e
    exact (op_eq1 hu sm I rx ry r hx hy e).2 q
  · exact (op_in1 I rx ry r hx hy e (hk rfl)).1 q
  · simp only [Option.map_eq_some_iff] at e
    obtain ⟨b', e, rfl⟩ := e
    exact (op_in1 I rx ry r hx hy e (hk rfl)).2 q
  · cases e
/-! ### calls -/
abbrev RAs (K : PySem.W.Frag) (w : Bool) (g : G) (H : Hp) (ds : List D) (vs : List V) : Prop := Paired (fun d v => RDw K w g H d v) ds vs
def rCall (K : PySem.W.Frag) (f : String) : List V → Hp → VK → Prop := fun vs H Q => ∃ g st ds d st', Rel K g H st ∧ RAs K true g H ds vs ∧ callB f ds st = .ok d st' ∧ Post K false true g H d st' Q
theorem ra1 {K : PySem.W.Frag} {w : Bool} {g : G} {H : Hp} {d : D} {vs : List V} (h : RAs K w g H [d] vs) : ∃ v, vs = [v] ∧ RDw K w g H d v := by
  cases h with
  | cons a b =>
    cases b
    exact ⟨_, rfl, a⟩
theorem ra2 {K : PySem.W.Frag} {w : Bool} {g : G} {H : Hp} {d e : D} {vs : List V} (h : RAs K w g H [d, e] vs) : ∃ v u, vs = [v, u] ∧ RDw K w g H d v ∧ RDw K w g H e u := by
  cases h with
  | cons a b =>
    obtain ⟨u, rfl, c⟩ := ra1 b
    exact ⟨_, u, rfl, a, c⟩
theorem len_v {K : PySem.W.Frag} {g : G} {H : Hp} {st : Store} {x : D} {vx : V} {n : Nat} (r : Rel K g H st) (h : RDw K true g H x vx) (e : lenD st x = some n) : LenV K vx H n ∨ ∃ p l, vx = .ref p ∧ RO K g H (.dct false l) p ∧ n = l.length := by
  unfold lenD at e
  split at e
  · split at e
    · rename_i hz
      cases e
      rw [rdw_str h]
      exact .inl ⟨hz, rfl⟩
    · cases e
  · cases e
    obtain ⟨p, vs, rfl, h1, h2⟩ := rdw_tup h
    exact .inl (.inr ⟨vs, SqT.of h1, h2.length.symm⟩)
  · split at e
    · rename_i l hl
      cases e
      obtain ⟨p, vs, rfl, h1, h2⟩ := asR_ok r h hl
      exact .inl (.inl ⟨vs, h1, h2.length.symm⟩)
    · split at e
      · rename_i l e1
        cases e
        obtain ⟨p, rfl, h1⟩ := asK_ok r h e1
        exact .inr ⟨p, l, rfl, h1, rfl⟩
      · cases e
theorem bools_v {K : PySem.W.Frag} {g : G} {H : Hp} : ∀ {ds : List D} {vs : List V} {b : Bool}, RDs K g H ds vs → allB ds = some b → ∃ bs : List Bool, vs = bs.map V.bl ∧ bs.all id = b
  | [], vs, b, h, e => by
    unfold RDs at h
    cases e
    exact ⟨[], h, rfl⟩
  | d :: ds, vs, b, h, e => by
    cases d <;> simp only [allB, Option.map_eq_some_iff] at e <;> try cases e
    rename_i b1 c e
    obtain ⟨e, rfl⟩ := e
    unfold RDs at h
    obtain ⟨v, r, rfl, h1, h2⟩ := h
    obtain ⟨bs, rfl, e2⟩ := bools_v h2 e
    unfold RD at h1
    subst h1
    exact ⟨b1 :: bs, rfl, by rw [List.all_cons, e2]; rfl⟩
theorem anys_v {K : PySem.W.Frag} {g : G} {H : Hp} : ∀ {ds : List D} {vs : List V} {b : Bool}, RDs K g H ds vs → anyB ds = some b → ∃ bs : List Bool, vs = bs.map V.bl ∧ bs.any id = b
  | [], vs, b, h, e => by
    unfold RDs at h
    cases e
    exact ⟨[], h, rfl⟩
  | d :: ds, vs, b, h, e => by
    cases d <;> simp only [anyB, Option.map_eq_some_iff] at e <;> try cases e
    rename_i b1 c e
    obtain ⟨e, rfl⟩ := e
    unfold RDs at h
    obtain ⟨v, r, rfl, h1, h2⟩ := h
    obtain ⟨bs, rfl, e2⟩ := anys_v h2 e
    unfold RD at h1
    subst h1
    exact ⟨b1 :: bs, rfl, by rw [List.any_cons, e2]; rfl⟩
theorem ints_v {K : PySem.W.Frag} {g : G} {H : Hp} : ∀ {ds : List D} {vs : List V} {b : List Int}, RDs K g H ds vs → allI ds = some b → vs = b.map V.int
  | [], vs, b, h, e => by
    unfold RDs at h
    cases e
    exact h
  | d :: ds, vs, b, h, e => by
    cases d <;> simp only [allI, Option.map_eq_some_iff] at e <;> try cases e
    rename_i b1 c e
    obtain ⟨e, rfl⟩ := e
    unfold RDs at h
    obtain ⟨v, r, rfl, h1, h2⟩ := h
    unfold RD at h1
    subst h1
    rw [ints_v h2 e]
    rfl
theorem rkf_len {K : PySem.W.Frag} {g : G} {H : Hp} : ∀ {l : List (D × D)} {ks : List (Key × V)}, RKf K g H l ks → ks.length = l.length
  | [], ks, h => by
    unfold RKf at h
    rw [h]
    rfl
  | (k, d) :: l, ks, h => by
    unfold RKf at h
    obtain ⟨k', v, q, rfl, _, _, h2⟩ := h
    rw [List.length_cons, List.length_cons, rkf_len h2]
theorem ofO_eq {α : Type} {o : Option α} {a : α} {s s' : Store} (h : ofO o s = .ok a s') : o = some a ∧ s' = s := by
  cases o with
  | none => cases h
  | some b =>
    cases h
    exact ⟨rfl, rfl⟩
theorem sortI_uniq {a b : List Int} (h : a.Perm b) (h2 : a.Pairwise (· ≤ ·)) : a = sortI b := by
  refine List.Perm.eq_of_pairwise (le := (· ≤ ·)) (fun _ _ _ _ h1 h2 => Int.le_antisymm h1 h2) h2 ?_ (h.trans (List.mergeSort_perm b _).symm)
  refine (List.pairwise_mergeSort (le := fun (a b : Int) => decide (a ≤ b)) ?_ ?_ b).imp fun h => of_decide_eq_true h
  · intro a b c h1 h2
    exact decide_eq_true (Int.le_trans (of_decide_eq_true h1) (of_decide_eq_true h2))
  · intro a b
    rw [Bool.or_eq_true, decide_eq_true_eq, decide_eq_true_eq]
    exact Int.le_total a b
/-! ### texts in order -/
theorem leS_iff {a b : Str} : leS a b = true ↔ a.cps.toList ≤ b.cps.toList := by
  unfold leS
  rw [PyProof.Rows.ltCps_eq]
  simp [List.not_lt]
theorem str_ext {a b : Str} (h : a.cps.toList = b.cps.toList) : a = b := by
  obtain ⟨a⟩ := a
  obtain ⟨b⟩ := b
  congr 1
  exact Array.toList_inj.mp h
theorem sortedS_pw : ∀ {ks : List Str}, PyProof.Rows.sortedS ks = true → ks.Pairwise (fun a b => leS a b = true) := by
  have rise : ∀ (ks : List Str) (p : Str), PyProof.Rows.risingS p ks = true → (p :: ks).Pairwise (fun a b => leS a b = true) := by
    intro ks
    induction ks with
    | nil => intro p _; exact List.pairwise_singleton _ _
    | cons x r ih =>
      intro p h
      rw [PyProof.Rows.risingS, Bool.and_eq_true] at h
      have h2 := ih x h.2
      refine List.pairwise_cons.mpr ⟨fun y hy => ?_, h2⟩
      rcases List.mem_cons.mp hy with rfl | hy
      · exact h.1
      · exact leS_iff.mpr (List.le_trans (leS_iff.mp h.1) (leS_iff.mp ((List.pairwise_cons.mp h2).1 y hy)))
  intro ks h
  cases ks with
  | nil => exact List.Pairwise.nil
  | cons x r => exact rise r x h
theorem sortS_uniq {a b : List Str} (h : a.Perm b) (h2 : PyProof.Rows.sortedS a = true) : a = sortS b := by
  refine List.Perm.eq_of_pairwise (le := fun a b => leS a b = true) (fun _ _ _ _ h1 h2 => str_ext (List.le_antisymm (leS_iff.mp h1) (leS_iff.mp h2))) (sortedS_pw h2) ?_ (h.trans (List.mergeSort_perm b _).symm)
  refine List.pairwise_mergeSort (le := leS) ?_ ?_ b
  · intro a b c h1 h2
    exact leS_iff.mpr (List.le_trans (leS_iff.mp h1) (leS_iff.mp h2))
  · intro a b
    rw [Bool.or_eq_true, leS_iff, leS_iff]
    exact List.le_total _ _
theorem strs_v {K : PySem.W.Frag} {g : G} {H : Hp} : ∀ {ds : List D} {vs : List V} {b : List Str}, RDs K g H ds vs → allS ds = some b → vs = b.map V.str
  | [], vs, b, h, e => by
    unfold RDs at h
    cases e
    exact h
  | d :: ds, vs, b, h, e => by
    cases d <;> simp only [allS, Option.map_eq_some_iff] at e <;> try cases e
    rename_i b1 c e
    obtain ⟨e, rfl⟩ := e
    unfold RDs at h
    obtain ⟨v, r, rfl, h1, h2⟩ := h
    unfold RD at h1
    subst h1
    rw [strs_v h2 e]
    rfl
theorem keys_f {K : PySem.W.Frag} {g : G} {H : Hp} : ∀ {l : List (D × D)} {ks : List (Key × V)} {b : List Str}, RKf K g H l ks → allS (l.map (·.1)) = some b → ks.map (·.1) = b.map Sum.inr
  | [], ks, b, h, e => by
    unfold RKf at h
    cases e
    rw [h]
    rfl
  | (k, d) :: l, ks, b, h, e => by
    unfold RKf at h
    obtain ⟨kk, v, q, rfl, h0, h1, h2⟩ := h
    rw [List.map_cons] at e
    cases k <;> simp only [allS, Option.map_eq_some_iff] at e <;> try cases e
    rename_i b1 c e
    obtain ⟨e, rfl⟩ := e
    simp only [key1, Option.some.injEq] at h0
    subst h0
    rw [List.map_cons, List.map_cons, keys_f h2 e]
theorem RDs.strs {K : PySem.W.Frag} {g : G} {H : Hp} : ∀ (l : List Str), RDs K g H (l.map .str) (l.map V.str)
  | [] => by simp [RDs]
  | i :: r => by
    rw [List.map_cons, List.map_cons]
    unfold RDs
    exact ⟨_, _, rfl, by unfold RD; rfl, RDs.strs r⟩
def bltV (f : String) : Option Value := match f with
  | "len" => some (.builtin "len")
  | "abs" => some (.builtin "abs")
  | "max" => some (.builtin "max")
  | "min" => some (.builtin "min")
  | "all" => some (.builtin "all")
  | "any" => some (.builtin "any")
  | "sum" => some (.builtin "sum")
  | "repr" => some (.builtin "repr")
  | "int" => some (.type "int")
  | "str" => some (.type "str")
  | "list" => some (.type "list")
  | "tuple" => some (.type "tuple")
  | "bool" => some (.type "bool")
  | "sorted" => some (.builtin "sorted")
  | _ => none
theorem call_blt (f : String) (fv : Value) (hf : bltV f = some fv) (hc : X.calm = true) (hg : X.A.guards = some []) (hu : X.A.units + 64 < cLine) (sm : SmOk X.base) : CallR X fv (rCall X.K f) := by
  intro pins s σ H vs us Q I rv h
  obtain ⟨g, st, ds, d, st', r, ha, e, q⟩ := h
  unfold callB at e
  split at e
  · cases hf
    obtain ⟨v, rfl, h1⟩ := ra1 ha
    obtain ⟨n, s1, e1, e⟩ := Res.bind_eq e
    cases e
    rename_i x
    cases hl : lenD st x with
    | none =>
      rw [hl] at e1
      cases e1
    | some n' =>
      rw [hl] at e1
      cases e1
      rcases len_v r h1 hl with z | ⟨p, l, rfl, ro, rfl⟩
      · exact call_len pins s σ H _ us Q I rv ⟨v, n, rfl, z, q.int r⟩
      · obtain ⟨ks, h2, h3⟩ := (show ∃ ks, H p = some (.dK ks) ∧ RKf X.K g H l ks from ro.elim (fun z => z.2) fun z => by cases z.1)
        obtain ⟨u, rfl, r1⟩ := vals1 rv
        cases r1
        refine d_len I (.inl h2) fun t s' I' => ⟨.int l.length, H, I', ⟨t, by rw [rkf_len h3]⟩, q.int r⟩
  · cases hf
    cases e
    obtain ⟨v, rfl, h1⟩ := ra1 ha
    rw [rdw_int h1] at rv
    exact call_abs pins s σ H _ us Q I rv ⟨_, rfl, q.int r⟩
  · cases hf
    cases e
    obtain ⟨v, u, rfl, h1, h2⟩ := ra2 ha
    rw [rdw_int h1, rdw_int h2] at rv
    exact call_max2 hc pins s σ H _ us Q I rv ⟨_, _, rfl, q.int r⟩
  · cases hf
    cases e
    obtain ⟨v, u, rfl, h1, h2⟩ := ra2 ha
    rw [rdw_int h1, rdw_int h2] at rv
    exact call_min2 hc pins s σ H _ us Q I rv ⟨_, _, rfl, q.int r⟩
  · cases hf
    cases e
    obtain ⟨v, rfl, h1⟩ := ra1 ha
    rw [rdw_int h1] at rv
    exact call_int1 pins s σ H _ us Q I rv (.inl ⟨_, rfl, q.int r⟩)
  · cases hf
    cases e
    obtain ⟨v, rfl, h1⟩ := ra1 ha
    rw [rdw_bl h1] at rv
    exact call_int1 pins s σ H _ us Q I rv (.inr ⟨_, rfl, q.int r⟩)
  · cases hf
    split at e
    · cases e
      rename_i hz
      obtain ⟨v, rfl, h1⟩ := ra1 ha
      rw [rdw_int h1] at rv
      exact call_str_int pins s σ H _ us Q I rv ⟨_, rfl, hz, q.str r⟩
    · cases e
  · cases hf
    obtain ⟨v, rfl, h1⟩ := ra1 ha
    split at e
    · rename_i l hl
      obtain ⟨b, s1, e1, e⟩ := Res.bind_eq e
      cases e
      cases hb : allB l with
      | none =>
        rw [hb] at e1
        cases e1
      | some b' =>
        rw [hb] at e1
        cases e1
        obtain ⟨p, vs, rfl, h2, h3⟩ := asL_ok r h1 hl
        obtain ⟨bs, rfl, eb⟩ := bools_v h3 hb
        exact cr_all hc pins s σ H _ us Q I rv ⟨p, bs, rfl, SqL.of h2, by rw [eb]; exact q.bl r⟩
    · cases e
  · cases hf
    obtain ⟨v, rfl, h1⟩ := ra1 ha
    split at e
    · rename_i l hl
      obtain ⟨b, s1, e1, e⟩ := Res.bind_eq e
      cases e
      cases hb : anyB l with
      | none =>
        rw [hb] at e1
        cases e1
      | some b' =>
        rw [hb] at e1
        cases e1
        obtain ⟨p, vs, rfl, h2, h3⟩ := asL_ok r h1 hl
        obtain ⟨bs, rfl, eb⟩ := anys_v h3 hb
        exact cr_any hc pins s σ H _ us Q I rv ⟨p, bs, rfl, SqL.of h2, by rw [eb]; exact q.bl r⟩
    · cases e
  · cases hf
    obtain ⟨v, rfl, h1⟩ := ra1 ha
    split at e
    · rename_i l hl
      obtain ⟨b, s1, e1, e⟩ := Res.bind_eq e
      cases e
      cases hb : allI l with
      | none =>
        rw [hb] at e1
        cases e1
      | some b' =>
        rw [hb] at e1
        cases e1
        obtain ⟨p, vs, rfl, h2, h3⟩ := asL_ok r h1 hl
        rw [ints_v h3 hb] at h2
        exact cr_sum hc pins s σ H _ us Q I rv ⟨p, b, rfl, SqL.of h2, q.int r⟩
    · cases e
  · cases hf
    obtain ⟨v, rfl, h1⟩ := ra1 ha
    split at e
    · cases e
      obtain ⟨p, vs, rfl, h2, h3⟩ := rdw_tup h1
      exact call_list_of pins s σ H _ us Q I rv ⟨p, vs, rfl, .inr (SqT.of h2), fun l hl => q.newL r h3 hl⟩
    · rename_i z
      split at e
      · rename_i hz
        cases e
        obtain rfl := rdw_str h1
        obtain ⟨u, rfl, r1⟩ := vals1 rv
        obtain ⟨t, rfl⟩ := r1
        have rds : ∀ cs : List Nat, RDs X.K g H (cs.map fun c => D.str ⟨#[c]⟩) (cs.map fun c => V.str ⟨#[c]⟩) := fun cs => by
          induction cs with
          | nil => exact RDs.nil
          | cons c cs ih =>
            refine RDs.cons ?_ ih
            unfold RD
            rfl
        have hsz : (z.cps.toList.map fun c => V.str ⟨#[c]⟩).length = z.cps.size := by simp
        refine PySem.call_list_str (hn := hz) (I.ok.hd hc) z t fun h' tk acc c' hk e1 hi => ?_
        refine ⟨.ref s.heap.objs.size, upd H s.heap.objs.size (.lst (z.cps.toList.map fun c => V.str ⟨#[c]⟩)), I.laid hk (Nat.le_refl _) ⟨by rw [hsz]; exact hz, acc.toList, c', ?_, by rw [Array.toArray_toList]; exact e1⟩, rfl, q.newL r (rds _) (I.hok.fresh (Nat.le_refl _))⟩
        refine vals_of_idx _ _ (by rw [hsz, Array.length_toList]; exact hi.1) fun j u hj => ?_
        obtain ⟨c, t', hc, rfl⟩ := hi.2 j u (by rw [← Array.getElem?_toList]; exact hj)
        exact ⟨.str ⟨#[c]⟩, by rw [List.getElem?_map, Array.getElem?_toList, hc]; rfl, ⟨_, rfl⟩⟩
      · cases e
    · split at e
      · rename_i l hl
        cases e
        obtain ⟨p, vs, rfl, h2, h3⟩ := asR_ok r h1 hl
        exact call_list_of pins s σ H _ us Q I rv ⟨p, vs, rfl, .inl h2, fun l hl => q.newL r h3 hl⟩
      · cases e
  · cases hf
    obtain ⟨v, rfl, h1⟩ := ra1 ha
    split at e
    · cases e
      have h1' := rdw_flat rfl h1
      obtain ⟨p, vs, rfl, h2, h3⟩ := rdw_tup h1
      exact call_tuple_of pins s σ H _ us Q I rv ⟨p, vs, rfl, .inr ⟨SqT.of h2, q.val r h1' rfl⟩⟩
    · split at e
      · rename_i l hl
        cases e
        obtain ⟨p, vs, rfl, h2, h3⟩ := asR_ok r h1 hl
        exact call_tuple_of pins s σ H _ us Q I rv ⟨p, vs, rfl, .inl ⟨h2, fun l hl => q.newT r h3 hl⟩⟩
      · cases e
  · cases hf
    obtain ⟨v, rfl, h1⟩ := ra1 ha
    obtain ⟨u, rfl, r1⟩ := vals1 rv
    have sm2 : SmOk s.heap := by
      obtain ⟨o, h1, h2⟩ := sm
      exact ⟨o, I.bk _ _ h1, h2⟩
    split at e
    · rename_i p hp
      split at e
      · rename_i hz
        cases e
        obtain ⟨as, rd, nm⟩ := toPy_reads I sm2 r h1 r1 hp
        have fin : ∀ (u : Tok) (s' : Shared), Inv X pins σ H s' → EP X pins σ Q (.str p.shown u) s' := fun u s' I' => ⟨.str p.shown, H, I', ⟨u, rfl⟩, q.str r⟩
        obtain ⟨z1, z2, z3⟩ := hz
        cases rd with
        | none => exact PySem.P.repr_of_none (fin _ _ (I.tok _))
        | bool b => exact PySem.P.repr_of_bool (fin _ _ (I.tok _))
        | int i t =>
          simp only [PyData.showable, decide_eq_true_eq] at z1
          exact PySem.P.repr_of_int z1 (fin _ _ (I.tok _))
        | str x t => exact PySem.P.repr_of_str (fin _ _ (I.tok _)) z2
        | list a1 a2 a3 a4 => exact repr_of_reads' (.list a1 a2 a3 a4) z1 (fun _ => nm) hg (by omega) (fun _ _ e => e) (fun h' u tk hk => fin _ _ (I.kept hk)) z2
        | tuple a1 a2 a3 a4 => exact repr_of_reads' (.tuple a1 a2 a3 a4) z1 (fun _ => nm) hg (by omega) (fun _ _ e => e) (fun h' u tk hk => fin _ _ (I.kept hk)) z2
        | dict a1 a2 a3 a4 a5 => exact repr_of_reads' (.dict a1 a2 a3 a4 a5) z1 (fun _ => nm) hg (by omega) (fun _ _ e => e) (fun h' u tk hk => fin _ _ (I.kept hk)) z2
      · cases e
    · cases e
  · cases hf
    cases e
    obtain ⟨v, rfl, h1⟩ := ra1 ha
    rw [rdw_int h1] at rv
    exact call_bool1 pins s σ H _ us Q I rv (.inl ⟨_, rfl, q.bl r⟩)
  · cases hf
    cases e
    obtain ⟨v, rfl, h1⟩ := ra1 ha
    rw [rdw_bl h1] at rv
    exact call_bool1 pins s σ H _ us Q I rv (.inr ⟨_, rfl, q.bl r⟩)
  · cases hf
    obtain ⟨v, rfl, h1⟩ := ra1 ha
    split at e
    · rename_i l hl
      split at e
      · rename_i b hb
        cases e
        obtain ⟨p, vs, rfl, h2, h3⟩ := asR_ok r h1 hl
        rw [ints_v h3 hb] at h2
        refine cr_sortedI pins s σ H _ us Q I rv ⟨p, b, rfl, h2, fun ns' p' k1 k2 hp => ?_⟩
        rw [sortI_uniq k1 k2]
        exact q.newL r (RDs.ints _) hp
      · split at e
        · rename_i b hb
          split at e
          · rename_i h64
            cases e
            obtain ⟨p, vs, rfl, h2, h3⟩ := asR_ok r h1 hl
            rw [strs_v h3 hb] at h2
            refine cr_sortedS pins s σ H _ us Q I rv ⟨p, b, rfl, h2, h64, fun ys p' k1 k2 hp => ?_⟩
            rw [sortS_uniq k1 k2]
            exact q.newL r (RDs.strs _) hp
          · cases e
        · cases e
    · split at e
      · rename_i l hl
        split at e
        · rename_i b hb
          split at e
          · rename_i h64
            cases e
            obtain ⟨p, rfl, ro⟩ := asK_ok r h1 hl
            obtain ⟨ks, h2, h3⟩ := (show ∃ ks, H p = some (.dK ks) ∧ RKf X.K g H l ks from ro.elim (fun z => z.2) fun z => by cases z.1)
            refine call_sortedD hc pins s σ H _ us Q I rv ⟨p, ks, b, rfl, .inl h2, keys_f h3 hb, h64, fun ys p' k1 k2 hp => ?_⟩
            rw [sortS_uniq k1 k2]
            exact q.newL r (RDs.strs _) hp
          · cases e
        · cases e
      · cases e
  · cases hf
    obtain ⟨v, rfl, h1⟩ := ra1 ha
    split at e
    · rename_i l hl
      obtain ⟨b, s1, e1, e⟩ := Res.bind_eq e
      obtain ⟨m, s2, e2, e⟩ := Res.bind_eq e
      cases e
      obtain ⟨hb, rfl⟩ := ofO_eq e1
      obtain ⟨hm, rfl⟩ := ofO_eq e2
      obtain ⟨p, vs, rfl, h2, h3⟩ := asR_ok r h1 hl
      rw [ints_v h3 hb] at h2
      have hb0 : 0 < b.length := by
        cases b with
        | nil => cases hm
        | cons _ _ => simp
      obtain ⟨k1, k2⟩ := List.max?_eq_some_iff.mp hm
      refine cr_max hc pins s σ H _ us Q I rv ⟨p, b, rfl, h2, hb0, fun m' k3 k4 => ?_⟩
      obtain rfl : m' = m := Int.le_antisymm (k2 _ k3) (k4 _ k1)
      exact q.int r
    · cases e
  · cases hf
    obtain ⟨v, rfl, h1⟩ := ra1 ha
    split at e
    · rename_i l hl
      obtain ⟨b, s1, e1, e⟩ := Res.bind_eq e
      obtain ⟨m, s2, e2, e⟩ := Res.bind_eq e
      cases e
      obtain ⟨hb, rfl⟩ := ofO_eq e1
      obtain ⟨hm, rfl⟩ := ofO_eq e2
      obtain ⟨p, vs, rfl, h2, h3⟩ := asR_ok r h1 hl
      rw [ints_v h3 hb] at h2
      have hb0 : 0 < b.length := by
        cases b with
        | nil => cases hm
        | cons _ _ => simp
      obtain ⟨k1, k2⟩ := List.min?_eq_some_iff.mp hm
      refine cr_min hc pins s σ H _ us Q I rv ⟨p, b, rfl, h2, hb0, fun m' k3 k4 => ?_⟩
      obtain rfl : m' = m := Int.le_antisymm (k4 _ k1) (k2 _ k3)
      exact q.int r
    · cases e
  · cases e
end
end Ev
/-! Ev6: the given text, read as the interpreter's -/
namespace Ev
open PySem L2 PySem.Spec PyProof.Rows
/-! ### from the text -/
structure Tab where
  N : List Str
  fs : List String
  gs : List String
  own : List Str := []
  rfs : List Str := []
  td : List Str := []
  frz : List (Nat × Str) := []
  give : Bool := false
  frs : List String := []
  fresh : Bool := false
  cs : List String := []
  at_ : List String := []
  mts : List (String × String) := []
  me : String := ""
/-- a thing whose attribute, whose method is asked for: a name, an attribute -/
def isNA : Expr → Bool
  | .Name _ _ => true
  | .Attribute _ _ _ => true
  | _ => false
def mCls (T : Tab) (m : String) : List String := (T.mts.filter fun p => p.2 == m).map (·.1)
def lk (l : List String) (x : Str) : Option String := l.find? fun s => decide (Str.ofString s = x)
def ixOf (N : List Str) (x : Str) : Nat := N.findIdx fun y => decide (y = x)
def okN (x : Str) : Bool := !(x == ("__debug__" : Str)) && !(x == ("__classdict__" : Str)) && !(x == ("__name__" : Str))
def visB (sc : Scope) (x : Str) : Bool := match sc.names.lookup x with
  | some .local => true
  | some .cell => true
  | some .free => true
  | _ => false
def locB (sc : Scope) (x : Str) : Bool := match sc.names.lookup x with
  | some .local => true
  | some .cell => true
  | _ => false
def gloB (sc : Scope) (x : Str) : Bool := decide (sc.names.lookup x = some .globalImplicit)
def inN (N : List Str) (x : Str) : Bool := decide (N[ixOf N x]? = some x)
def notStar (e : Expr) : Bool := match e with
  | .Starred _ _ => false
  | _ => true
def notSet (e : Expr) : Bool := match e with
  | .Set _ _ _ => false
  | _ => true
def notIf (e : Expr) : Bool := match e with
  | .IfExp _ _ _ _ => false
  | _ => true
def notSl (e : Expr) : Bool := match e with
  | .Slice _ _ _ _ => false
  | _ => true
def notCall (e : Expr) : Bool := match e with
  | .Call _ _ _ _ => false
  | _ => true
def gd (b : Bool) (c : CE) : CE := match b with
  | true => c
  | false => .bad
def boOf : Operator → Option BO
  | .Add => some .add
  | .Sub => some .sub
  | .Mult => some .mul
  | .FloorDiv => some .fdiv
  | .Mod => some .mod
  | .Pow => some .pow
  | _ => none
def coOf : CmpOp → CO
  | .Eq => .eq
  | .NotEq => .ne
  | .Lt => .lt
  | .LtE => .le
  | .Gt => .gt
  | .GtE => .ge
  | .Is => .is
  | .IsNot => .isnot
  | .In => .isin
  | .NotIn => .notin
def bltNames : List String := ["len", "abs", "max", "min", "all", "any", "sum", "repr", "int", "str", "list", "tuple", "bool", "sorted"]
def othNames : List String := ["range", "enumerate", "zip", "isinstance", "bool", "dict", "set", "reversed", "sorted"]
def erC : Const → CE
  | .none => .cst .non
  | .bool b => .cst (.bl b)
  | .int i => .cst (.int i)
  | .str s => .cst (.str s)
  | _ => .bad
def erN (T : Tab) (sc : Scope) (x : Str) : CE := match okN x with
  | false => .bad
  | true => match visB sc x && inN T.N x with
    | true => .var (ixOf T.N x)
    | false => match gloB sc x with
      | false => .bad
      | true => match lk T.gs x with
        | some s => .glo s
        | none => .bad
def erEs (f : Expr → CE) : List Expr → CEs
  | [] => .nil
  | e :: r => .cons (gd (notStar e) (f e)) (erEs f r)
def erAnd (f : Expr → CE) : List Expr → CE
  | [] => .bad
  | [e] => gd (notIf e) (f e)
  | e :: r => .and (gd (notIf e) (f e)) (erAnd f r)
def erOr (f : Expr → CE) : List Expr → CE
  | [] => .bad
  | [e] => gd (notIf e) (f e)
  | e :: r => .or (gd (notIf e) (f e)) (erOr f r)
def erO (f : Expr → CE) : Option Expr → CO2
  | none => .no
  | some e => .so (f e)
/-- the names of a target that a comprehension stores -/
def tgNames : Expr → List Str
  | .Name x _ => [x]
  | .Tuple es _ _ => es.filterMap fun
    | .Name x _ => some x
    | _ => none
  | _ => []
def onlyNames : List Expr → Bool
  | [] => true
  | .Name _ _ :: r => onlyNames r
  | _ :: _ => false
/-- may x be stored: in a scope sc, cells made at the entry by fn -/
def stoB (N : List Str) (sc : Scope) (fn : Str → Bool) (x : Str) : Bool := inN N x && locB sc x && (fn x || decide (sc.names.lookup x = some .local))
def erG (N : List Str) (sc : Scope) (fn : Str → Bool) : Expr → Option CG
  | .Name x _ => if stoB N sc fn x = true then some (.nm (ixOf N x)) else none
  | .Tuple es _ _ => if onlyNames es = true ∧ ((tgNames (.Tuple es 0 ⟨0, 0, 0, 0⟩)).all fun x => stoB N sc fn x) = true then some (.tup ((tgNames (.Tuple es 0 ⟨0, 0, 0, 0⟩)).map (ixOf N))) else none
  | _ => none
def cgIx : CG → List Nat
  | .nm i => [i]
  | .tup is => is
def mutNames : List String := ["append", "extend", "pop", "reverse", "clear", "insert"]
def isTup (e : Expr) : Bool := match e with
  | .Tuple _ _ _ => true
  | _ => false
def erI (T : Tab) (sc : Scope) (f : Expr → CE) (tg : Expr) : Expr → CI
  | .Name x p => match T.own.contains x && visB sc x && inN T.N x && okN x with
    | true => .own (ixOf T.N x)
    | false => .seq (f (.Name x p))
  | .Call (.Name x p) args [] q => match gloB sc x && okN x && (lk T.fs x).isNone && args.all notStar with
    | true => match lk othNames x, args with
      | some "range", [a] => .rng1 (f a)
      | some "range", [a, b] => .rng2 (f a) (f b)
      | some "range", [a, b, .UnaryOp .USub (.Constant (.int 1) _ _) _] => .rngD (f a) (f b)
      | some "enumerate", [a] => match isTup tg with
        | true => .enum (f a)
        | false => .bad
      | some "zip", [a, b] => match isTup tg with
        | true => .zip (f a) (f b)
        | false => .bad
      | _, _ => .seq (f (.Call (.Name x p) args [] q))
    | false => .seq (f (.Call (.Name x p) args [] q))
  | e => match notSet e with
    | true => .seq (f e)
    | false => .bad
/-- is one of the frame's own things among them -/
def anyOwn (T : Tab) (es : List Expr) : Bool := es.any fun
  | .Name x _ => T.own.contains x
  | _ => false
/-- [::-1] -/
def isRev : Expr → Bool
  | .Slice none none (some (.UnaryOp .USub (.Constant (.int 1) _ _) _)) _ => true
  | _ => false
theorem isRev_eq {i : Expr} (h : isRev i = true) : ∃ k p1 p2 p3, i = .Slice none none (some (.UnaryOp .USub (.Constant (.int 1) k p1) p2)) p3 := by
  unfold isRev at h
  split at h
  · exact ⟨_, _, _, _, rfl⟩
  · cases h
/-- len(set(e)) -/
def lsArg (T : Tab) (sc : Scope) (x : Str) : List Expr → Option Expr
  | [.Call (.Name y _) [a] [] _] => match decide (x = "len") && decide (y = "set") && gloB sc y && (lk T.fs y).isNone && notStar a with
    | true => some a
    | false => none
  | _ => none
def erE (T : Tab) : Nat → Scope → Expr → CE
  | 0, _, _ => .bad
  | n + 1, sc, .Constant c _ _ => erC c
  | n + 1, sc, .Name x _ => erN T sc x
  | n + 1, sc, .BinOp a o b _ => match boOf o with
    | some o => .bin o (erE T n sc a) (erE T n sc b)
    | none => .bad
  | n + 1, sc, .UnaryOp .Not a _ => .not (gd (notIf a) (erE T n sc a))
  | n + 1, sc, .UnaryOp .USub a _ => .neg (erE T n sc a)
  | n + 1, sc, .BoolOp .And es _ => match es with
    | _ :: _ :: _ => erAnd (erE T n sc) es
    | _ => .bad
  | n + 1, sc, .BoolOp .Or es _ => match es with
    | _ :: _ :: _ => erOr (erE T n sc) es
    | _ => .bad
  | n + 1, sc, .Compare a [o] [b] _ => gd (notSet b) (.cmp (coOf o) (erE T n sc a) (erE T n sc b))
  | n + 1, sc, .Compare a [o, o'] [b, c] _ => gd (notSet c && !isIn (coOf o) && !isIn (coOf o')) (.cmp2 (coOf o) (coOf o') (erE T n sc a) (erE T n sc b) (erE T n sc c))
  | n + 1, sc, .IfExp c a b _ => .ife (gd (notIf c) (erE T n sc c)) (erE T n sc a) (erE T n sc b)
  | n + 1, sc, .Subscript a (.Slice lo hi none _) _ => .slc (erE T n sc a) (erO (erE T n sc) lo) (erO (erE T n sc) hi)
  | n + 1, sc, .Subscript a i _ => match isRev i with
    | true => .rev (erE T n sc a)
    | false => gd (notSl i) (.idx (erE T n sc a) (erE T n sc i))
  | n + 1, sc, .Tuple es _ _ => .tup (erEs (erE T n sc) es)
  | n + 1, sc, .List es _ => .lst (erEs (erE T n sc) es)
  | n + 1, sc, .Dict [] [] _ => .dnew false
  | n + 1, sc, .ListComp e [⟨tg, it, ifs, 0⟩] scope _ => match erG T.N (relS scope sc) (fun x => scope.names.lookup x == some .cell) tg with
    | none => .bad
    | some g => gd (notSet it && blkC T.N sc scope ((tgNames tg).map fun x => (x, ixOf T.N x)) && ((cgIx g).all fun i => decide (i ∈ ((tgNames tg).map fun x => (x, ixOf T.N x)).map (·.2))))
        (match ifs with
          | [] => .lc (((tgNames tg).map fun x => (x, ixOf T.N x)).map (·.2)) g (erI T sc (erE T n sc) tg it) .no (erE T n (relS scope sc) e)
          | [c] => .lc (((tgNames tg).map fun x => (x, ixOf T.N x)).map (·.2)) g (erI T sc (erE T n sc) tg it) (.so (gd (notIf c) (erE T n (relS scope sc) c))) (erE T n (relS scope sc) e)
          | _ => .bad)
  | n + 1, sc, .DictComp k v [⟨tg, it, ifs, 0⟩] scope _ => match erG T.N (relS scope sc) (fun x => scope.names.lookup x == some .cell) tg with
    | none => .bad
    | some g => gd (notSet it && blkC T.N sc scope ((tgNames tg).map fun x => (x, ixOf T.N x)) && ((cgIx g).all fun i => decide (i ∈ ((tgNames tg).map fun x => (x, ixOf T.N x)).map (·.2))))
        (match ifs with
          | [] => .dc (((tgNames tg).map fun x => (x, ixOf T.N x)).map (·.2)) g (erI T sc (erE T n sc) tg it) .no (erE T n (relS scope sc) k) (erE T n (relS scope sc) v)
          | [c] => .dc (((tgNames tg).map fun x => (x, ixOf T.N x)).map (·.2)) g (erI T sc (erE T n sc) tg it) (.so (gd (notIf c) (erE T n (relS scope sc) c))) (erE T n (relS scope sc) k) (erE T n (relS scope sc) v)
          | _ => .bad)
  | n + 1, sc, .Attribute e f _ => match lk T.at_ f with
    | some s => gd (isNA e) (.fld (erE T n sc e) s)
    | none => .bad
  | n + 1, sc, .Call (.Name x _) args [] _ => gd (gloB sc x && okN x) (match lk T.fs x with
    | some s => match args with
      | _ :: _ => match anyOwn T args, T.frs.contains s with
        | true, b => .callO b s (erEs (erE T n sc) args)
        | false, true => .callF s (erEs (erE T n sc) args)
        | false, false => .call s (erEs (erE T n sc) args)
      | [] => .bad
    | none => match lk T.cs x with
     | some c => .mkI c (erEs (erE T n sc) args)
     | none => match lsArg T sc x args with
     | some a => .lset (erE T n sc a)
     | none => match lk bltNames x with
      | some s => match args with
        | _ :: _ => .blt s (erEs (erE T n sc) args)
        | [] => .bad
      | none => match lk othNames x, args with
        | some "isinstance", [a, .Name ty _] => gd (notStar a && gloB sc ty && okN ty) (match lk ["int", "str", "list", "tuple", "bool", "dict"] ty with
          | some t => .isi (erE T n sc a) t
          | none => .bad)
        | some "dict", [a] => gd (notStar a) (.dcp (erE T n sc a))
        | _, _ => .bad)
  | n + 1, sc, .Call (.Name x _) [a] [⟨some k, .Constant .none _ _, _⟩] _ => gd (decide (x = "min") && (decide (k = "default") && (gloB sc x && notStar a))) (.minD (erE T n sc a))
  | n + 1, sc, .Call (.Attribute o m apos) args [] cpos => gd (decide (apos.endLine = cpos.line)) (match lk (T.mts.map (·.2)) m with
   | some s => gd (isNA o && decide (args.length < 20)) (.meth (mCls T s) s (erE T n sc o) (erEs (erE T n sc) args))
   | none => match o with
    | .Attribute a f p => match lk ["get"] m, args with
     | some s, [e] => .mth s (erE T n sc (.Attribute a f p)) (erEs (erE T n sc) [e])
     | some s, [e, e2] => .mth s (erE T n sc (.Attribute a f p)) (erEs (erE T n sc) [e, e2])
     | _, _ => match lk mutNames m with
      | some s => gd (decide (args.length < 20)) (.mutX s (erE T n sc (.Attribute a f p)) (erEs (erE T n sc) args))
      | none => match lk ["setdefault"] m, args with
       | some _, [k, .List [] _] => gd (notStar k) (.setd (erE T n sc (.Attribute a f p)) (erE T n sc k))
       | _, _ => .bad
    | .Name x p => match lk ["index", "count"] m, args with
     | some s, [a] => .mth s (erE T n sc (.Name x p)) (erEs (erE T n sc) [a])
     | _, _ => match lk ["get"] m, args with
      | some s, [a] => .mth s (erE T n sc (.Name x p)) (erEs (erE T n sc) [a])
      | some s, [a, b] => .mth s (erE T n sc (.Name x p)) (erEs (erE T n sc) [a, b])
      | _, _ => match lk mutNames m with
        | some s => gd (visB sc x && inN T.N x && okN x && decide (args.length < 20)) (.mut s (ixOf T.N x) (erEs (erE T n sc) args))
        | none => .bad
    | .Call (.Attribute a f p1) as ks p => match lk mutNames m with
      | some s => gd (decide (args.length < 20)) (.mutX s (erE T n sc (.Call (.Attribute a f p1) as ks p)) (erEs (erE T n sc) args))
      | none => .bad
    | .Subscript a i p => match lk mutNames m with
      | some s => gd (decide (args.length < 20)) (.mutX s (erE T n sc (.Subscript a i p)) (erEs (erE T n sc) args))
      | none => .bad
    | _ => .bad)
  | n + 1, _, _ => .bad
end Ev
/-! Ev7: what the interpreter says of an expression holds -/
namespace Ev
open PySem L2 PySem.Spec PyProof.Rows
def rOwn (K : PySem.W.Frag) (cl : String → List D → Store → Res D) (frs : List String) (f : String) : List V → Hp → VK → Prop := fun vs H Q => ∃ g st ds d st', Rel K g H st ∧ RAs K false g H ds vs ∧ cl f ds st = .ok d st' ∧ Post K false (frs.contains f) g H d st' Q
def FnA (P : Program) (w : World) (K : PySem.W.Frag) (mg : Str → Option Value) (base : Heap) (A : Around) (f : Addr) (r : List V → Hp → VK → Prop) : Prop :=
  ∀ (outer : List PySem.Env) (s : Shared) (H : Hp) (us : List Value) (vs : List V) (Q : VK), Env0 P w K mg base A outer s H → Vals vs us → r vs H Q → codeAny (model P w) A (.call (.ref f) ⟨us, []⟩) (CR CX0 outer P w H s Q E0) s
structure Sd (X : Cx) (T : Tab) (cl : String → List D → Store → Res D) (gl : String → Option D) : Prop where
  nN : X.N = T.N
  nd : X.N.Nodup
  calm : X.calm = true
  gd : X.A.guards = some []
  hu : X.A.units + 100 < cLine
  sm : SmOk X.base
  blt : ∀ s : String, s ∈ bltNames ++ othNames → X.mg (Str.ofString s) = none
  glb : ∀ s : String, s ∈ T.gs → ∀ d, gl s = some d → ∃ v u, X.mg (Str.ofString s) = some u ∧ RelV v u ∧ ∀ g H, RD X.K g H d v
  fns : ∀ s : String, s ∈ T.fs → ∃ fa, X.mg (Str.ofString s) = some (.ref fa) ∧ PySem.W.keepIn X.K (.ref fa) = true ∧ FnA X.prog X.w X.K X.mg X.base X.A fa (rOwn X.K cl T.frs s)
  cls : ∀ c : String, c ∈ T.cs → X.mg (Str.ofString c) = some (.ref (clsA X.K c)) ∧ Cls X.K (clsA X.K c) ∧ ∃ fa, Mk X.K (clsA X.K c) fa ∧ ∀ us : List Value, FnA X.prog X.w X.K X.mg X.base (X.A.under (.builtin "type.__call__" ⟨.ref (clsA X.K c) :: us, []⟩)) fa (rOwn X.K cl T.frs (c ++ ".__init__"))
  mts : ∀ c m : String, (c, m) ∈ T.mts → ∃ fa, Meth X.K (clsA X.K c) (Str.ofString m) fa ∧ FnA X.prog X.w X.K X.mg X.base X.A fa (rOwn X.K cl T.frs (c ++ "." ++ m))
  nat : T.me ≠ "" → ∀ f : String, f ∈ T.at_ → NoAttr X.K (clsA X.K T.me) (Str.ofString f)
/-! ### readings -/
section
variable (K : PySem.W.Frag)
def dE (f : Env → Store → Res D) (w fr : Bool) : TE := fun σ H Q => ∃ g env st d st', RE K g H env σ ∧ Rel K g H st ∧ f env st = .ok d st' ∧ Post K w fr g H d st' Q
def dT (f : Env → Store → Res Bool) : TT := fun σ H Q => ∃ g env st b st', RE K g H env σ ∧ Rel K g H st ∧ f env st = .ok b st' ∧ ∀ g' H', Le g H g' H' → Rel K g' H' st' → Q b H'
def dA (f : Env → Store → Res (List D)) (w : Bool) : TA := fun σ H Q => ∃ g env st ds st', RE K g H env σ ∧ Rel K g H st ∧ f env st = .ok ds st' ∧ ∀ g' H' vs, Le g H g' H' → Rel K g' H' st' → RAs K w g' H' ds vs → Q vs H'
end
def isFr : CE → Bool
  | .bin _ _ _ => true
  | .slc _ _ _ => true
  | .lst _ => true
  | .dnew _ => true
  | .lc _ _ _ _ _ => true
  | .dc _ _ _ _ _ _ => true
  | .blt _ _ => true
  | .dcp _ => true
  | .rev _ => true
  | .callF _ _ => true
  | .callO b _ _ => b
  | _ => false
theorem _root_.L2.PE.imp {X : Cx} {e : Expr} {t t' : TE} (h : PE X e t) (k : ∀ σ H Q, t' σ H Q → t σ H Q) : PE X e t' := ⟨fun pins s σ H Q I z => h.run pins s σ H Q I (k σ H Q z)⟩
theorem _root_.L2.PT.imp {X : Cx} {e : Expr} {t t' : TT} (h : PT X e t) (k : ∀ σ H Q, t' σ H Q → t σ H Q) : PT X e t' := ⟨fun pins s σ H Q I z => h.run pins s σ H Q I (k σ H Q z)⟩
theorem _root_.L2.PA.imp {X : Cx} {es : List Expr} {t t' : TA} (h : PA X es t) (k : ∀ σ H Q, t' σ H Q → t σ H Q) : PA X es t' := ⟨fun pos pins s σ H Q I z => h.run pos pins s σ H Q I (k σ H Q z)⟩
section
variable {K : PySem.W.Frag} {σ : L2.St} {H : Hp} {Q : VK} {g : G} {env : Env} {st st' st1 : Store} {d : D} {w fr : Bool} {f : Env → Store → Res D}
/-- to read an operand: its reading, what follows it -/
theorem dE_go (re : RE K g H env σ) (r : Rel K g H st) (e : f env st = .ok d st') {R : VK} (k : ∀ g' H' v, Le g H g' H' → Rel K g' H' st' → RDw K w g' H' d v → R v H') : dE K f w fr σ H R :=
  ⟨g, env, st, d, st', re, r, e, fun g' H' v a b c _ => k g' H' v a b c⟩
theorem dE_go' (re : RE K g H env σ) (r : Rel K g H st) (e : f env st = .ok d st') {R : VK} (k : Post K w fr g H d st' R) : dE K f w fr σ H R := ⟨g, env, st, d, st', re, r, e, k⟩
theorem dT_go {f : Env → Store → Res Bool} {b : Bool} (re : RE K g H env σ) (r : Rel K g H st) (e : f env st = .ok b st') {R : Bool → Hp → Prop} (k : ∀ g' H', Le g H g' H' → Rel K g' H' st' → R b H') : dT K f σ H R := ⟨g, env, st, b, st', re, r, e, k⟩
theorem dA_go {f : Env → Store → Res (List D)} {ds : List D} (re : RE K g H env σ) (r : Rel K g H st) (e : f env st = .ok ds st') {R : List V → Hp → Prop} (k : ∀ g' H' vs, Le g H g' H' → Rel K g' H' st' → RAs K w g' H' ds vs → R vs H') : dA K f w σ H R := ⟨g, env, st, ds, st', re, r, e, k⟩
theorem Post.ofW (h : Post K w fr g H d st' Q) : Post K false fr g H d st' Q := fun g' H' v b r rd f => h g' H' v b r (.inl rd.ff) f
theorem Post.ofFr (h : Post K w fr g H d st' Q) (hf : fr = true ∨ True) : Post K w true g H d st' Q := fun g' H' v b r rd f => h g' H' v b r rd fun _ => f rfl
end
section
variable {X : Cx} {T : Tab} {cl : String → List D → Store → Res D} {gl : String → Option D}
theorem lk_some {l : List String} {x : Str} {s : String} (h : lk l x = some s) : s ∈ l ∧ Str.ofString s = x := ⟨List.mem_of_find?_eq_some h, of_decide_eq_true (List.find?_some (p := fun s => decide (Str.ofString s = x)) h)⟩
theorem okN_dbg {x : Str} (h : okN x = true) : (x == ("__debug__" : Str)) = false ∧ (x == ("__classdict__" : Str)) = false ∧ x ≠ "__name__" := by
  unfold okN at h
  rw [Bool.and_eq_true, Bool.and_eq_true] at h
  obtain ⟨⟨h1, h2⟩, h3⟩ := h
  refine ⟨by simpa using h1, by simpa using h2, fun z => ?_⟩
  subst z
  revert h3
  decide
theorem vis_of {sc : Scope} {x : Str} (h : visB sc x = true) : Vis sc x := by
  unfold visB at h
  unfold Vis
  split at h
  · rename_i e
    exact .inl e
  · rename_i e
    exact .inr (.inl e)
  · rename_i e
    exact .inr (.inr e)
  · cases h
theorem glo_of {x : Str} (h : gloB X.env.scope x = true) : Gl X x := (of_decide_eq_true h : X.env.scope.names.lookup x = some .globalImplicit)
theorem star_ok {e : Expr} {es : List Expr} {env : PySem.Env} (h : notStar e = true) : starEach (e :: es) env = (false, eval e env) :: starEach es env := by
  cases e <;> first | rfl | cases h
/-- the reading of a list of arguments -/
theorem gd_true {b : Bool} {c : CE} (h : b = true) : gd b c = c := by
  rw [h]
  rfl
theorem ev_bad {w : Bool} {env : Env} {st st' : Store} {d : D} (h : ev cl gl w .bad env st = .ok d st') : False := by
  simp [ev] at h
theorem ev_gd {b w : Bool} {c : CE} {env : Env} {st st' : Store} {d : D} (h : ev cl gl w (gd b c) env st = .ok d st') : b = true ∧ ev cl gl w c env st = .ok d st' := by
  cases b with
  | true => exact ⟨rfl, h⟩
  | false => exact (ev_bad h).elim
theorem peBad {e : Expr} {w fr : Bool} : PE X e (dE X.K (ev cl gl w .bad) w fr) := ⟨fun pins s σ H Q I h => by
  obtain ⟨g, env, st, d, st', _, _, e, _⟩ := h
  exact (ev_bad e).elim⟩
theorem peGd {e : Expr} {w fr b : Bool} {c : CE} (h : b = true → PE X e (dE X.K (ev cl gl w c) w fr)) : PE X e (dE X.K (ev cl gl w (gd b c)) w fr) := by
  cases b with
  | true => exact h rfl
  | false => exact peBad
theorem pa_ok {f : Expr → CE} {w : Bool} (hf : ∀ e, PE X e (dE X.K (ev cl gl w (f e)) w false)) : ∀ es : List Expr, PA X es (dA X.K (evEs cl gl w (erEs f es)) w)
  | [] => pa_nil.imp fun σ H Q h => by
    obtain ⟨g, env, st, ds, st', re, r, e, k⟩ := h
    simp [erEs, evEs] at e
    obtain ⟨rfl, rfl⟩ := e
    exact k g H [] (.refl g H) r .nil
  | e :: es => by
    by_cases hs : notStar e = true
    · refine (pa_cons (hf e) (pa_ok hf es) (star_ok hs)).imp fun σ H Q h => ?_
      obtain ⟨g, env, st, ds, st', re, r, e1, k⟩ := h
      simp only [erEs, hs, gd, evEs] at e1
      obtain ⟨d, s1, e2, e1⟩ := Res.bind_eq e1
      obtain ⟨ds', s2, e3, e1⟩ := Res.bind_eq e1
      cases e1
      refine dE_go re r e2 fun g1 H1 v a1 r1 rd1 => ?_
      refine dA_go (re.mono a1) r1 e3 fun g2 H2 vs a2 r2 rd2 => ?_
      exact k g2 H2 _ (a1.trans a2) r2 (.cons (rd1.mono a2) rd2)
    · refine ⟨fun pos pins s σ H Q I h => ?_⟩
      obtain ⟨g, env, st, ds, st', re, r, e1, k⟩ := h
      have hs' : notStar e = false := by simpa using hs
      simp [erEs, hs', gd, evEs, ev] at e1
/-! ### names, constants -/
theorem const_ok {c : Const} {k : Nat} {pos : Pos} {w : Bool} : PE X (.Constant c k pos) (dE X.K (ev cl gl w (erC c)) w (isFr (erC c))) := by
  cases c with
  | none =>
    refine (pe_non (j := k)).imp fun σ H Q h => ?_
    obtain ⟨g, env, st, d, st', re, r, e, k⟩ := h
    simp [erC, ev] at e
    obtain ⟨rfl, rfl⟩ := e
    exact k.non r
  | bool b =>
    refine (pe_bl (j := k)).imp fun σ H Q h => ?_
    obtain ⟨g, env, st, d, st', re, r, e, k⟩ := h
    simp [erC, ev] at e
    obtain ⟨rfl, rfl⟩ := e
    exact k.bl r
  | int i =>
    refine (pe_int (j := k)).imp fun σ H Q h => ?_
    obtain ⟨g, env, st, d, st', re, r, e, k⟩ := h
    simp [erC, ev] at e
    obtain ⟨rfl, rfl⟩ := e
    exact k.int r
  | str i =>
    refine (pe_str (j := k)).imp fun σ H Q h => ?_
    obtain ⟨g, env, st, d, st', re, r, e, k⟩ := h
    simp [erC, ev] at e
    obtain ⟨rfl, rfl⟩ := e
    exact k.str r
  | _ => exact peBad
theorem name_ok (S : Sd X T cl gl) {x : Str} {pos : Pos} {w : Bool} : PE X (.Name x pos) (dE X.K (ev cl gl w (erN T X.env.scope x)) w (isFr (erN T X.env.scope x))) := by
  unfold erN
  split
  · exact peBad
  · rename_i hx
    obtain ⟨x1, x2, x3⟩ := okN_dbg hx
    split
    · rename_i hv
      rw [Bool.and_eq_true] at hv
      have hN : X.N[ixOf T.N x]? = some x := by
        rw [S.nN]
        exact of_decide_eq_true hv.2
      refine (pe_var hN (vis_of hv.1) x1 x2).imp fun σ H Q h => ?_
      obtain ⟨g, env, st, d, st', re, r, e, k⟩ := h
      simp only [ev] at e
      cases hd : varE w (ixOf T.N x) env with
      | none =>
        rw [hd] at e
        cases e
      | some d' =>
        rw [hd] at e
        cases e
        unfold varE at hd
        split at hd
        · rename_i d2 e1
          cases hd
          obtain ⟨v, h1, h2⟩ := re.val _ _ e1
          exact ⟨v, h1, k g H v (.refl g H) r (.inl h2) fun z => by cases z⟩
        · rename_i o e1
          split at hd
          · rename_i hw
            cases hd
            obtain ⟨p, h1, h2, h3, h4⟩ := re.own _ _ e1
            exact ⟨.ref p, h1, k g H _ (.refl g H) r (.inr ⟨hw, p, o, rfl, rfl, h2, h3, h4⟩) fun z => by cases z⟩
          · cases hd
        · cases hd
    · split
      · exact peBad
      · rename_i hg
        split
        · rename_i s hs
          obtain ⟨hm, rfl⟩ := lk_some hs
          refine ⟨fun pins sh σ H Q I h => ?_⟩
          obtain ⟨g, env, st, d, st', re, r, e, k⟩ := h
          simp only [ev] at e
          cases hd : gl s with
          | none =>
            rw [hd] at e
            cases e
          | some d' =>
            rw [hd] at e
            cases e
            obtain ⟨v, u, h1, h2, h3⟩ := S.glb s hm d hd
            exact (pe_glob (glo_of hg) h1 h2 x1).run pins sh σ H Q I (k g H v (.refl g H) r (.inl (h3 g H)) fun z => by cases z)
        · exact peBad
/-! ### operators -/
theorem bin_ok {a b : Expr} {op : Operator} {o : BO} {ca cb : CE} {pos : Pos} {w : Bool} (ho : boOf op = some o) (ha : PE X a (dE X.K (ev cl gl true ca) true false)) (hb : PE X b (dE X.K (ev cl gl true cb) true false)) :
    PE X (.BinOp a op b pos) (dE X.K (ev cl gl w (.bin o ca cb)) w true) := by
  have hop : op = boOp o := by
    cases op <;> simp [boOf] at ho <;> (subst ho; rfl)
  subst hop
  refine (pe_op (op_bin o) ha hb).imp fun σ H Q h => ?_
  obtain ⟨g, env, st, d, st', re, r, e, k⟩ := h
  simp only [ev] at e
  obtain ⟨x, s1, e1, e⟩ := Res.bind_eq e
  obtain ⟨y, s2, e2, e⟩ := Res.bind_eq e
  refine dE_go re r e1 fun g1 H1 v1 a1 r1 rd1 => ?_
  refine dE_go (re.mono a1) r1 e2 fun g2 H2 v2 a2 r2 rd2 => ?_
  exact ⟨g2, s2, x, y, d, st', r2, rd1.mono a2, rd2, e, (k.shift (a1.trans a2)).ofW⟩
theorem neg_ok {a : Expr} {ca : CE} {pos : Pos} {w : Bool} (ha : PE X a (dE X.K (ev cl gl false ca) false false)) : PE X (.UnaryOp .USub a pos) (dE X.K (ev cl gl w (.neg ca)) w false) := by
  refine (pe_un un_neg ha).imp fun σ H Q h => ?_
  obtain ⟨g, env, st, d, st', re, r, e, k⟩ := h
  simp only [ev] at e
  obtain ⟨x, s1, e1, e⟩ := Res.bind_eq e
  refine dE_go re r e1 fun g1 H1 v1 a1 r1 rd1 => ?_
  split at e
  · cases e
    exact ⟨_, rdw_int rd1, (k.shift a1).int r1⟩
  · cases e
theorem tst_eq {r : Res D} {b : Bool} {st' : Store} (h : tst r = .ok b st') : r = .ok (.bl b) st' := by
  unfold tst at h
  obtain ⟨x, s1, e1, e⟩ := Res.bind_eq h
  subst e1
  unfold truthD at e
  split at e
  · cases e
    rfl
  · cases e
/-- a test by its value -/
theorem tv_ok {e : Expr} {c : CE} (h : PE X e (dE X.K (ev cl gl false c) false false)) (he : ∀ whole, isTrue e X.env whole = (do let v ← whole; standAt e.pos; holding [v] (truthy v))) : PT X e (dT X.K fun env st => tst (ev cl gl false c env st)) := by
  refine (pt_val h he).imp fun σ H Q z => ?_
  obtain ⟨g, env, st, b, st', re, r, e, k⟩ := z
  exact dE_go re r (tst_eq e) fun g1 H1 v1 a1 r1 rd1 => ⟨b, rdw_bl rd1, k g1 H1 a1 r1⟩
theorem not_ok {a : Expr} {ca : CE} {pos : Pos} {w : Bool} (ha : PE X a (dE X.K (ev cl gl false ca) false false)) : PE X (.UnaryOp .Not a pos) (dE X.K (ev cl gl w (.not ca)) w false) := by
  refine (pe_not ha).imp fun σ H Q h => ?_
  obtain ⟨g, env, st, d, st', re, r, e, k⟩ := h
  simp only [ev] at e
  obtain ⟨b, s1, e1, e⟩ := Res.bind_eq e
  cases e
  refine dE_go re r (tst_eq e1) fun g1 H1 v1 a1 r1 rd1 => ⟨b, rdw_bl rd1, (k.shift a1).bl r1⟩
theorem notT_ok {a : Expr} {ca : CE} {pos : Pos} (ha : PT X a (dT X.K fun env st => tst (ev cl gl false ca env st))) : PT X (.UnaryOp .Not a pos) (dT X.K fun env st => tst (ev cl gl false (.not ca) env st)) := by
  refine (pt_not ha).imp fun σ H Q h => ?_
  obtain ⟨g, env, st, b, st', re, r, e, k⟩ := h
  have e := tst_eq e
  simp only [ev] at e
  obtain ⟨c, s1, e1, e⟩ := Res.bind_eq e
  cases e
  exact dT_go re r e1 fun g1 H1 a1 r1 => k g1 H1 a1 r1
theorem and_ok {a b : Expr} {rest : List Expr} {ca cb : CE} {pos : Pos} {w : Bool} (ha : PE X a (dE X.K (ev cl gl false ca) false false)) (hb : PE X (.BoolOp .And (b :: rest) pos) (dE X.K (ev cl gl false cb) false false)) :
    PE X (.BoolOp .And (a :: b :: rest) pos) (dE X.K (ev cl gl w (.and ca cb)) w false) := by
  refine (pe_and ha hb).imp fun σ H Q h => ?_
  obtain ⟨g, env, st, d, st', re, r, e, k⟩ := h
  simp only [ev] at e
  obtain ⟨c, s1, e1, e⟩ := Res.bind_eq e
  refine dE_go re r (tst_eq e1) fun g1 H1 v1 a1 r1 rd1 => ⟨c, rdw_bl rd1, ?_⟩
  cases c with
  | true =>
    rw [if_pos rfl]
    obtain ⟨c2, s2, e2, e⟩ := Res.bind_eq e
    cases e
    exact dE_go' (re.mono a1) r1 (tst_eq e2) (k.shift a1).ofW
  | false =>
    rw [if_neg Bool.false_ne_true]
    cases e
    exact (k.shift a1).bl r1
theorem or_ok {a b : Expr} {rest : List Expr} {ca cb : CE} {pos : Pos} {w : Bool} (ha : PE X a (dE X.K (ev cl gl false ca) false false)) (hb : PE X (.BoolOp .Or (b :: rest) pos) (dE X.K (ev cl gl false cb) false false)) :
    PE X (.BoolOp .Or (a :: b :: rest) pos) (dE X.K (ev cl gl w (.or ca cb)) w false) := by
  refine (pe_or ha hb).imp fun σ H Q h => ?_
  obtain ⟨g, env, st, d, st', re, r, e, k⟩ := h
  simp only [ev] at e
  obtain ⟨c, s1, e1, e⟩ := Res.bind_eq e
  refine dE_go re r (tst_eq e1) fun g1 H1 v1 a1 r1 rd1 => ⟨c, rdw_bl rd1, ?_⟩
  cases c with
  | true =>
    rw [if_pos rfl]
    cases e
    exact (k.shift a1).bl r1
  | false =>
    rw [if_neg Bool.false_ne_true]
    obtain ⟨c2, s2, e2, e⟩ := Res.bind_eq e
    cases e
    exact dE_go' (re.mono a1) r1 (tst_eq e2) (k.shift a1).ofW
theorem andT_ok {a b : Expr} {rest : List Expr} {ca cb : CE} {pos : Pos} (ha : PT X a (dT X.K fun env st => tst (ev cl gl false ca env st))) (hb : PW X (.BoolOp .And (b :: rest) pos) (dT X.K fun env st => tst (ev cl gl false cb env st))) :
    PW X (.BoolOp .And (a :: b :: rest) pos) (dT X.K fun env st => tst (ev cl gl false (.and ca cb) env st)) := by
  refine ⟨fun wh pins s σ H Q I h => (pw_and ha hb).run wh pins s σ H Q I ?_⟩
  obtain ⟨g, env, st, d, st', re, r, e, k⟩ := h
  have e := tst_eq e
  simp only [ev] at e
  obtain ⟨c, s1, e1, e⟩ := Res.bind_eq e
  refine dT_go re r e1 fun g1 H1 a1 r1 => ?_
  cases c with
  | true =>
    rw [if_pos rfl]
    obtain ⟨c2, s2, e2, e⟩ := Res.bind_eq e
    cases e
    exact dT_go (re.mono a1) r1 e2 fun g2 H2 a2 r2 => k g2 H2 (a1.trans a2) r2
  | false =>
    rw [if_neg Bool.false_ne_true]
    cases e
    exact k g1 H1 a1 r1
theorem orT_ok {a b : Expr} {rest : List Expr} {ca cb : CE} {pos : Pos} (ha : PT X a (dT X.K fun env st => tst (ev cl gl false ca env st))) (hb : PW X (.BoolOp .Or (b :: rest) pos) (dT X.K fun env st => tst (ev cl gl false cb env st))) :
    PW X (.BoolOp .Or (a :: b :: rest) pos) (dT X.K fun env st => tst (ev cl gl false (.or ca cb) env st)) := by
  refine ⟨fun wh pins s σ H Q I h => (pw_or ha hb).run wh pins s σ H Q I ?_⟩
  obtain ⟨g, env, st, d, st', re, r, e, k⟩ := h
  have e := tst_eq e
  simp only [ev] at e
  obtain ⟨c, s1, e1, e⟩ := Res.bind_eq e
  refine dT_go re r e1 fun g1 H1 a1 r1 => ?_
  cases c with
  | true =>
    rw [if_pos rfl]
    cases e
    exact k g1 H1 a1 r1
  | false =>
    rw [if_neg Bool.false_ne_true]
    obtain ⟨c2, s2, e2, e⟩ := Res.bind_eq e
    cases e
    exact dT_go (re.mono a1) r1 e2 fun g2 H2 a2 r2 => k g2 H2 (a1.trans a2) r2
end
end Ev
/-! Ev8: dicts by their keys; comparisons, places, displays, calls -/
namespace Ev
open PySem L2 PySem.Spec PyProof.Rows
/-! ### dicts -/
section
variable {K : PySem.W.Frag} {g : G} {H : Hp}
theorem key1_inj {a b : D} {k : Key} (h1 : key1 a = some k) (h2 : key1 b = some k) : a = b := by
  cases a <;> simp [key1] at h1 <;> subst h1 <;> cases b <;> simp [key1] at h2 <;> rw [h2]
theorem keys1_inj : ∀ {a b : List D} {k : List Key}, keys1 a = some k → keys1 b = some k → a = b
  | [], [], _, _, _ => rfl
  | [], y :: q, k, h1, h2 => by
    simp only [keys1] at h1 h2
    cases h1
    split at h2 <;> cases h2
  | x :: r, [], k, h1, h2 => by
    simp only [keys1] at h1 h2
    cases h2
    split at h1 <;> cases h1
  | x :: r, y :: q, k, h1, h2 => by
    simp only [keys1] at h1 h2
    split at h1
    · rename_i k1 q1 e1 e2
      cases h1
      split at h2
      · rename_i k2 q2 e3 e4
        cases h2
        rw [key1_inj e1 e3, keys1_inj e2 e4]
      · cases h2
    · cases h1
theorem key1_v {x : D} {v : V} {k : Key} (h : RD K g H x v) (e : key1 x = some k) : v = kV k := by
  cases x <;> simp [key1] at e <;> (subst e; unfold RD at h; exact h)
theorem keys1_v : ∀ {l : List D} {vs : List V} {k : List Key}, RDs K g H l vs → keys1 l = some k → vs = k.map kV
  | [], vs, k, h, e => by
    cases e
    unfold RDs at h
    exact h
  | x :: l, vs, k, h, e => by
    simp only [keys1] at e
    split at e
    · rename_i k1 q1 e1 e2
      cases e
      unfold RDs at h
      obtain ⟨v, r, rfl, h1, h2⟩ := h
      rw [key1_v h1 e1, keys1_v h2 e2]
      rfl
    · cases e
def RelOD (K : PySem.W.Frag) (g : G) (H : Hp) : Option D → Option V → Prop
  | some d, some v => RD K g H d v
  | none, none => True
  | _, _ => False
theorem look_f {x : D} {k : Key} (e : key1 x = some k) : ∀ {l : List (D × D)} {ks : List (Key × V)}, RKf K g H l ks → RelOD K g H (lookK l x) (valV ks k)
  | [], ks, h => by
    unfold RKf at h
    subst h
    trivial
  | (j, d) :: l, ks, h => by
    unfold RKf at h
    obtain ⟨k', v, q, rfl, h0, h1, h2⟩ := h
    unfold lookK
    by_cases hj : j = x
    · rw [if_pos hj]
      subst hj
      rw [e] at h0
      cases h0
      rw [valV_pos rfl]
      exact h1
    · rw [if_neg hj, valV_neg (fun z => hj (key1_inj h0 (by rw [show k' = k from z]; exact e)))]
      exact look_f e h2
theorem look_t {x : List D} {k : List Key} (e : keys1 x = some k) : ∀ {l : List (D × D)} {ks : List (List Key × V)}, RKt K g H l ks → RelOD K g H (lookK l (.tup x)) (valV ks k)
  | [], ks, h => by
    unfold RKt at h
    subst h
    trivial
  | (j, d) :: l, ks, h => by
    unfold RKt at h
    obtain ⟨j', k', v, q, rfl, rfl, h0, h1, h2⟩ := h
    unfold lookK
    by_cases hj : D.tup j' = D.tup x
    · rw [if_pos hj]
      cases hj
      rw [e] at h0
      cases h0
      rw [valV_pos rfl]
      exact h1
    · rw [if_neg hj, valV_neg (fun z => hj (by rw [keys1_inj h0 (by rw [show k' = k from z]; exact e)]))]
      exact look_t e h2
theorem dget_ok {t : Bool} {l : List (D × D)} {p : Addr} {x : D} {vx : V} (h : RO K g H (.dct t l) p) (hx : RD K g H x vx) (e : keyOk t x = true) : ∃ r, DGet H p vx r ∧ RelOD K g H (lookK l x) r := by
  rcases h with ⟨rfl, ks, h1, h2⟩ | ⟨rfl, ks, h1, h2⟩
  · simp only [keyOk, Option.isSome_iff_exists] at e
    obtain ⟨k, e⟩ := e
    rw [key1_v hx e]
    exact ⟨_, DGet.k h1, look_f e h2⟩
  · cases x with
    | tup x =>
      simp only [keyOk, Option.isSome_iff_exists] at e
      obtain ⟨k, e⟩ := e
      unfold RD at hx
      obtain ⟨b, vs, rfl, _, h3, h4⟩ := hx
      rw [keys1_v h4 e] at h3
      exact ⟨_, DGet.t h1 h3, look_t e h2⟩
    | _ => cases e
theorem any_f {x : D} {k : Key} (e : key1 x = some k) : ∀ {l : List (D × D)} {ks : List (Key × V)}, RKf K g H l ks → (l.any fun p => decide (p.1 = x)) = (ks.any fun p => decide (p.1 = k))
  | [], ks, h => by
    unfold RKf at h
    subst h
    rfl
  | (j, d) :: l, ks, h => by
    unfold RKf at h
    obtain ⟨k', v, q, rfl, h0, h1, h2⟩ := h
    rw [List.any_cons, List.any_cons, any_f e h2]
    congr 1
    apply decide_eq_decide.mpr
    exact ⟨fun z => by
      have z : j = x := z
      subst z
      rw [e] at h0
      cases h0
      rfl, fun z => key1_inj h0 (by rw [show k' = k from z]; exact e)⟩
theorem any_t {x : List D} {k : List Key} (e : keys1 x = some k) : ∀ {l : List (D × D)} {ks : List (List Key × V)}, RKt K g H l ks → (l.any fun p => decide (p.1 = D.tup x)) = (ks.any fun p => decide (p.1 = k))
  | [], ks, h => by
    unfold RKt at h
    subst h
    rfl
  | (j, d) :: l, ks, h => by
    unfold RKt at h
    obtain ⟨j', k', v, q, rfl, rfl, h0, h1, h2⟩ := h
    rw [List.any_cons, List.any_cons, any_t e h2]
    congr 1
    apply decide_eq_decide.mpr
    exact ⟨fun z => by
      cases (show D.tup j' = D.tup x from z)
      rw [e] at h0
      cases h0
      rfl, fun z => by rw [keys1_inj h0 (by rw [show k' = k from z]; exact e)]⟩
theorem map_f {x d0 : D} {v0 : V} {k : Key} (e : key1 x = some k) (hd : RD K g H d0 v0) : ∀ {l : List (D × D)} {ks : List (Key × V)}, RKf K g H l ks → RKf K g H (l.map fun p => if p.1 = x then (p.1, d0) else p) (ks.map fun p => if p.1 = k then (p.1, v0) else p)
  | [], ks, h => by
    unfold RKf at h
    subst h
    unfold RKf
    rfl
  | (j, d) :: l, ks, h => by
    unfold RKf at h
    obtain ⟨k', v, q, rfl, h0, h1, h2⟩ := h
    have hi : j = x ↔ k' = k := ⟨fun z => by
      subst z
      rw [e] at h0
      cases h0
      rfl, fun z => key1_inj h0 (by rw [z]; exact e)⟩
    rw [List.map_cons, List.map_cons]
    by_cases hj : j = x
    · rw [if_pos hj, if_pos (hi.mp hj)]
      unfold RKf
      exact ⟨_, _, _, rfl, h0, hd, map_f e hd h2⟩
    · rw [if_neg hj, if_neg fun z => hj (hi.mpr z)]
      unfold RKf
      exact ⟨_, _, _, rfl, h0, h1, map_f e hd h2⟩
theorem map_t {x : List D} {d0 : D} {v0 : V} {k : List Key} (e : keys1 x = some k) (hd : RD K g H d0 v0) : ∀ {l : List (D × D)} {ks : List (List Key × V)}, RKt K g H l ks → RKt K g H (l.map fun p => if p.1 = D.tup x then (p.1, d0) else p) (ks.map fun p => if p.1 = k then (p.1, v0) else p)
  | [], ks, h => by
    unfold RKt at h
    subst h
    unfold RKt
    rfl
  | (j, d) :: l, ks, h => by
    unfold RKt at h
    obtain ⟨j', k', v, q, rfl, rfl, h0, h1, h2⟩ := h
    have hi : D.tup j' = D.tup x ↔ k' = k := ⟨fun z => by
      cases z
      rw [e] at h0
      cases h0
      rfl, fun z => by rw [keys1_inj h0 (by rw [z]; exact e)]⟩
    rw [List.map_cons, List.map_cons]
    by_cases hj : D.tup j' = D.tup x
    · rw [if_pos hj, if_pos (hi.mp hj)]
      unfold RKt
      exact ⟨_, _, _, _, rfl, rfl, h0, hd, map_t e hd h2⟩
    · rw [if_neg hj, if_neg fun z => hj (hi.mpr z)]
      unfold RKt
      exact ⟨_, _, _, _, rfl, rfl, h0, h1, map_t e hd h2⟩
theorem app_f {x d0 : D} {v0 : V} {k : Key} (e : key1 x = some k) (hd : RD K g H d0 v0) : ∀ {l : List (D × D)} {ks : List (Key × V)}, RKf K g H l ks → RKf K g H (l ++ [(x, d0)]) (ks ++ [(k, v0)])
  | [], ks, h => by
    unfold RKf at h
    subst h
    show RKf K g H [(x, d0)] [(k, v0)]
    unfold RKf
    exact ⟨_, _, _, rfl, e, hd, by unfold RKf; rfl⟩
  | (j, d) :: l, ks, h => by
    unfold RKf at h
    obtain ⟨k', v, q, rfl, h0, h1, h2⟩ := h
    show RKf K g H ((j, d) :: (l ++ [(x, d0)])) ((k', v) :: (q ++ [(k, v0)]))
    unfold RKf
    exact ⟨_, _, _, rfl, h0, h1, app_f e hd h2⟩
theorem app_t {x : List D} {d0 : D} {v0 : V} {k : List Key} (e : keys1 x = some k) (hd : RD K g H d0 v0) : ∀ {l : List (D × D)} {ks : List (List Key × V)}, RKt K g H l ks → RKt K g H (l ++ [(.tup x, d0)]) (ks ++ [(k, v0)])
  | [], ks, h => by
    unfold RKt at h
    subst h
    show RKt K g H [(.tup x, d0)] [(k, v0)]
    unfold RKt
    exact ⟨_, _, _, _, rfl, rfl, e, hd, by unfold RKt; rfl⟩
  | (j, d) :: l, ks, h => by
    unfold RKt at h
    obtain ⟨j', k', v, q, rfl, rfl, h0, h1, h2⟩ := h
    show RKt K g H ((.tup j', d) :: (l ++ [(.tup x, d0)])) ((k', v) :: (q ++ [(k, v0)]))
    unfold RKt
    exact ⟨_, _, _, _, rfl, rfl, h0, h1, app_t e hd h2⟩
theorem put_f {x d0 : D} {v0 : V} {k : Key} (e : key1 x = some k) (hd : RD K g H d0 v0) {l : List (D × D)} {ks : List (Key × V)} (h : RKf K g H l ks) : RKf K g H (putD l x d0) (L2.putK ks k v0) := by
  unfold putD L2.putK
  rw [any_f e h]
  split
  · exact map_f e hd h
  · exact app_f e hd h
theorem put_t {x : List D} {d0 : D} {v0 : V} {k : List Key} (e : keys1 x = some k) (hd : RD K g H d0 v0) {l : List (D × D)} {ks : List (List Key × V)} (h : RKt K g H l ks) : RKt K g H (putD l (.tup x) d0) (L2.putK ks k v0) := by
  unfold putD L2.putK
  rw [any_t e h]
  split
  · exact map_t e hd h
  · exact app_t e hd h
theorem rkt_len : ∀ {l : List (D × D)} {ks : List (List Key × V)}, RKt K g H l ks → ks.length = l.length
  | [], ks, h => by
    unfold RKt at h
    rw [h]
    rfl
  | (k, d) :: l, ks, h => by
    unfold RKt at h
    obtain ⟨_, k', v, q, rfl, _, _, _, h2⟩ := h
    rw [List.length_cons, List.length_cons, rkt_len h2]
end
/-! ### expressions -/
section
variable {X : Cx} {T : Tab} {cl : String → List D → Store → Res D} {gl : String → Option D}
theorem behind_ok {o : CmpOp} {b : Expr} (h : notSet b = true) : behindInMarks o b = false := by
  cases b <;> first | rfl | cases h
theorem last_ok {o o' : CmpOp} {b c : Expr} (h : notSet c = true) : lastMarks [o, o'] [b, c] = false := behind_ok h
theorem co_of (o : CmpOp) : coOp (coOf o) = o := by cases o <;> rfl
theorem cmp_in {x y : D} {st : Store} {b : Bool} {t : Bool} {l : List (D × D)} (e : cmpop .isin x y st = some b) (hk : asK st y = some (t, l)) : keyOk t x = true ∧ b = (lookK l x).isSome := by
  have e : inD st x y = some b := by
    unfold cmpop at e
    split at e <;> simp_all
  unfold inD at e
  rw [hk] at e
  simp only at e
  split at e
  · rename_i h1
    cases e
    exact ⟨h1, rfl⟩
  · cases e
theorem cmp_notin {x y : D} {st : Store} {b : Bool} {t : Bool} {l : List (D × D)} (e : cmpop .notin x y st = some b) (hk : asK st y = some (t, l)) : keyOk t x = true ∧ b = !(lookK l x).isSome := by
  have e : (inD st x y).map (fun b => !b) = some b := by
    unfold cmpop at e
    split at e <;> simp_all
  unfold inD at e
  rw [hk] at e
  simp only at e
  split at e
  · rename_i h1
    cases e
    exact ⟨h1, rfl⟩
  · cases e
theorem RelOD.isSome {K : PySem.W.Frag} {g : G} {H : Hp} {o : Option D} {r : Option V} (h : RelOD K g H o r) : r.isSome = o.isSome := by
  cases o <;> cases r <;> first | rfl | exact h.elim
theorem keyOk_oOf {t : Bool} {x : D} (h : keyOk t x = true) : oOf x = none := by
  cases x <;> first | rfl | (cases t <;> simp [keyOk, key1] at h)
/-- both sides of a comparison with in, the right one a dict -/
theorem inK_ok (S : Sd X T cl gl) {a b : Expr} {ca cb : CE} (ha : PE X a (dE X.K (ev cl gl true ca) true false)) (hb : PE X b (dE X.K (ev cl gl true cb) true false)) :
    PC X .In a b (fun σ H Q => ∃ g env st x s1 y s2 r t l, RE X.K g H env σ ∧ Rel X.K g H st ∧ ev cl gl true ca env st = .ok x s1 ∧ ev cl gl true cb env s1 = .ok y s2 ∧ asK s2 y = some (t, l) ∧ cmpop .isin x y s2 = some r ∧ Post X.K false false g H (.bl r) s2 Q) := by
  refine ⟨fun pins s σ H Q I h => (pc_din (by have := S.hu; omega) ha hb).run pins s σ H Q I ?_⟩
  obtain ⟨g, env, st, x, s1, y, s2, r0, t, l, re, r, e1, e2, hk, hc, k⟩ := h
  refine dE_go re r e1 fun g1 H1 v1 a1 r1 rd1 => ?_
  refine dE_go (re.mono a1) r1 e2 fun g2 H2 v2 a2 r2 rd2 => ?_
  obtain ⟨h1, rfl⟩ := cmp_in hc hk
  obtain ⟨p, rfl, ro⟩ := asK_ok r2 rd2 hk
  obtain ⟨o, h2, h3⟩ := dget_ok ro (rdw_flat (keyOk_oOf h1) (rd1.mono a2)) h1
  exact ⟨p, o, rfl, h2, by rw [h3.isSome]; exact (k.shift (a1.trans a2)).bl r2⟩
theorem notinK_ok (S : Sd X T cl gl) {a b : Expr} {ca cb : CE} (ha : PE X a (dE X.K (ev cl gl true ca) true false)) (hb : PE X b (dE X.K (ev cl gl true cb) true false)) :
    PC X .NotIn a b (fun σ H Q => ∃ g env st x s1 y s2 r t l, RE X.K g H env σ ∧ Rel X.K g H st ∧ ev cl gl true ca env st = .ok x s1 ∧ ev cl gl true cb env s1 = .ok y s2 ∧ asK s2 y = some (t, l) ∧ cmpop .notin x y s2 = some r ∧ Post X.K false false g H (.bl r) s2 Q) := by
  refine ⟨fun pins s σ H Q I h => (pc_dnotin (by have := S.hu; omega) ha hb).run pins s σ H Q I ?_⟩
  obtain ⟨g, env, st, x, s1, y, s2, r0, t, l, re, r, e1, e2, hk, hc, k⟩ := h
  refine dE_go re r e1 fun g1 H1 v1 a1 r1 rd1 => ?_
  refine dE_go (re.mono a1) r1 e2 fun g2 H2 v2 a2 r2 rd2 => ?_
  obtain ⟨h1, rfl⟩ := cmp_notin hc hk
  obtain ⟨p, rfl, ro⟩ := asK_ok r2 rd2 hk
  obtain ⟨o, h2, h3⟩ := dget_ok ro (rdw_flat (keyOk_oOf h1) (rd1.mono a2)) h1
  exact ⟨p, o, rfl, h2, by rw [h3.isSome]; exact (k.shift (a1.trans a2)).bl r2⟩
/-- the data of a comparison that has come to an answer -/
theorem cmp_data {σ : L2.St} {H : Hp} {w fr : Bool} {Q : VK} {o : CO} {ca cb : CE} (h : dE X.K (ev cl gl w (.cmp o ca cb)) w fr σ H Q) :
    ∃ g env st x s1 y s2 r, RE X.K g H env σ ∧ Rel X.K g H st ∧ ev cl gl true ca env st = .ok x s1 ∧ ev cl gl true cb env s1 = .ok y s2 ∧ cmpop o x y s2 = some r ∧ Post X.K w fr g H (.bl r) s2 Q := by
  obtain ⟨g, env, st, d, st', re, r, e, k⟩ := h
  simp only [ev] at e
  obtain ⟨x, s1, e1, e⟩ := Res.bind_eq e
  obtain ⟨y, s2, e2, e⟩ := Res.bind_eq e
  obtain ⟨b, s3, e3, e⟩ := Res.bind_eq e
  cases e
  cases hc : cmpop o x y s2 with
  | none =>
    rw [hc] at e3
    cases e3
  | some b' =>
    rw [hc] at e3
    cases e3
    exact ⟨g, env, st, x, s1, y, _, b, re, r, e1, e2, hc, k⟩
theorem cmp_run {σ : L2.St} {H : Hp} {Q : VK} {o : CO} {ca cb : CE} {g : G} {env : Env} {st s1 s2 : Store} {x y : D} {r : Bool} (re : RE X.K g H env σ) (rr : Rel X.K g H st) (e1 : ev cl gl true ca env st = .ok x s1) (e2 : ev cl gl true cb env s1 = .ok y s2)
    (hc : cmpop o x y s2 = some r) (hk : isIn o = true → asK s2 y = none) (k : Post X.K false false g H (.bl r) s2 Q) : tOp (rCmp X.K o) (dE X.K (ev cl gl true ca) true false) (dE X.K (ev cl gl true cb) true false) σ H Q := by
  refine dE_go re rr e1 fun g1 H1 v1 a1 r1 rd1 => ?_
  refine dE_go (re.mono a1) r1 e2 fun g2 H2 v2 a2 r2 rd2 => ?_
  exact ⟨g2, s2, x, y, r, r2, rd1.mono a2, rd2, hc, hk, (k.shift (a1.trans a2)).bl r2⟩
theorem asK_or (st : Store) (y : D) : asK st y = none ∨ ∃ t l, asK st y = some (t, l) := by
  cases h : asK st y with
  | none => exact .inl rfl
  | some p => exact .inr ⟨p.1, p.2, rfl⟩
theorem cmp_ok (S : Sd X T cl gl) {a b : Expr} {o : CmpOp} {ca cb : CE} {pos : Pos} {w : Bool} (hs : notSet b = true) (ha : PE X a (dE X.K (ev cl gl true ca) true false)) (hb : PE X b (dE X.K (ev cl gl true cb) true false)) :
    PE X (.Compare a [o] [b] pos) (dE X.K (ev cl gl w (.cmp (coOf o) ca cb)) w false) := by
  refine ⟨fun pins s σ H Q I h => ?_⟩
  obtain ⟨g, env, st, x, s1, y, s2, r, re, rr, e1, e2, hc, k⟩ := cmp_data h
  have hop := op_cmp (X := X) (coOf o) (by have := S.hu; omega) S.sm
  rw [co_of] at hop
  by_cases hi : isIn (coOf o) = true
  · rcases asK_or s2 y with hk | ⟨t, l, hk⟩
    · exact (pe_cmpR hop ha hb (behind_ok hs)).run pins s σ H Q I (cmp_run re rr e1 e2 hc (fun _ => hk) k.ofW)
    · cases o <;> simp [coOf, isIn] at hi
      · exact (pe_cmp (inK_ok S ha hb) (behind_ok hs)).run pins s σ H Q I ⟨g, env, st, x, s1, y, s2, r, t, l, re, rr, e1, e2, hk, hc, k.ofW⟩
      · exact (pe_cmp (notinK_ok S ha hb) (behind_ok hs)).run pins s σ H Q I ⟨g, env, st, x, s1, y, s2, r, t, l, re, rr, e1, e2, hk, hc, k.ofW⟩
  · exact (pe_cmpR hop ha hb (behind_ok hs)).run pins s σ H Q I (cmp_run re rr e1 e2 hc (fun z => absurd z hi) k.ofW)
theorem cmpT_ok (S : Sd X T cl gl) {a b : Expr} {o : CmpOp} {ca cb : CE} {pos : Pos} (hs : notSet b = true) (ha : PE X a (dE X.K (ev cl gl true ca) true false)) (hb : PE X b (dE X.K (ev cl gl true cb) true false)) :
    PT X (.Compare a [o] [b] pos) (dT X.K fun env st => tst (ev cl gl false (.cmp (coOf o) ca cb) env st)) := by
  refine ⟨fun pins s σ H Q I h => ?_⟩
  obtain ⟨g, env, st, b0, st', re, rr, e, k⟩ := h
  have e := tst_eq e
  obtain ⟨g, env, st, x, s1, y, s2, r, re, rr, e1, e2, hc, k⟩ := cmp_data (Q := fun v H' => ∃ c, v = .bl c ∧ Q c H') (fr := false) (dE_go re rr e fun g' H' v a1 r1 rd1 => ⟨b0, rdw_bl rd1, k g' H' a1 r1⟩)
  have hop := op_cmp (X := X) (coOf o) (by have := S.hu; omega) S.sm
  rw [co_of] at hop
  by_cases hi : isIn (coOf o) = true
  · rcases asK_or s2 y with hk | ⟨t, l, hk⟩
    · exact (pt_cmpR hop ha hb (behind_ok hs)).run pins s σ H Q I (cmp_run re rr e1 e2 hc (fun _ => hk) k.ofW)
    · cases o <;> simp [coOf, isIn] at hi
      · exact (pt_cmp (inK_ok S ha hb) (behind_ok hs)).run pins s σ H Q I ⟨g, env, st, x, s1, y, s2, r, t, l, re, rr, e1, e2, hk, hc, k.ofW⟩
      · exact (pt_cmp (notinK_ok S ha hb) (behind_ok hs)).run pins s σ H Q I ⟨g, env, st, x, s1, y, s2, r, t, l, re, rr, e1, e2, hk, hc, k.ofW⟩
  · exact (pt_cmpR hop ha hb (behind_ok hs)).run pins s σ H Q I (cmp_run re rr e1 e2 hc (fun z => absurd z hi) k.ofW)
/-- a chain of two -/
theorem chain_run {σ : L2.St} {H : Hp} {Q : VK} {o o' : CO} {ca cb cc : CE} {w : Bool} (hi : isIn o = false) (hi' : isIn o' = false) (h : dE X.K (ev cl gl w (.cmp2 o o' ca cb cc)) w false σ H Q) :
    tChain (rCmp X.K o) (rCmp X.K o') (dE X.K (ev cl gl true ca) true false) (dE X.K (ev cl gl true cb) true false) (dE X.K (ev cl gl true cc) true false) σ H Q := by
  obtain ⟨g, env, st, d, st', re, r, e, k⟩ := h
  simp only [ev] at e
  obtain ⟨x, s1, e1, e⟩ := Res.bind_eq e
  obtain ⟨y, s2, e2, e⟩ := Res.bind_eq e
  obtain ⟨b, s3, e3, e⟩ := Res.bind_eq e
  cases hc : cmpop o x y s2 with
  | none =>
    rw [hc] at e3
    cases e3
  | some b' =>
    rw [hc] at e3
    cases e3
    refine dE_go re r e1 fun g1 H1 v1 a1 r1 rd1 => ?_
    refine dE_go (re.mono a1) r1 e2 fun g2 H2 v2 a2 r2 rd2 => ?_
    refine ⟨g2, s2, x, y, b, r2, rd1.mono a2, rd2, hc, (fun z => by rw [hi] at z; cases z), b, rfl, ?_⟩
    cases b with
    | false =>
      rw [if_neg Bool.false_ne_true]
      cases e
      exact (k.shift (a1.trans a2)).bl r2
    | true =>
      rw [if_pos rfl]
      obtain ⟨z, s4, e4, e⟩ := Res.bind_eq e
      obtain ⟨b2, s5, e5, e⟩ := Res.bind_eq e
      cases e
      refine dE_go ((re.mono a1).mono a2) r2 e4 fun g3 H3 v3 a3 r3 rd3 => ?_
      cases hc' : cmpop o' y z s4 with
      | none =>
        rw [hc'] at e5
        cases e5
      | some b'' =>
        rw [hc'] at e5
        cases e5
        exact ⟨g3, _, y, z, b2, r3, rd2.mono a3, rd3, hc', (fun q => by rw [hi'] at q; cases q), (k.shift ((a1.trans a2).trans a3)).bl r3⟩
theorem cmp2_ok (S : Sd X T cl gl) {a b c : Expr} {o o' : CmpOp} {ca cb cc : CE} {pos : Pos} {w : Bool} (hs : notSet c = true) (hi : isIn (coOf o) = false) (hi' : isIn (coOf o') = false) (ha : PE X a (dE X.K (ev cl gl true ca) true false)) (hb : PE X b (dE X.K (ev cl gl true cb) true false)) (hc : PE X c (dE X.K (ev cl gl true cc) true false)) :
    PE X (.Compare a [o, o'] [b, c] pos) (dE X.K (ev cl gl w (.cmp2 (coOf o) (coOf o') ca cb cc)) w false) := by
  have hop := op_cmp (X := X) (coOf o) (by have := S.hu; omega) S.sm
  have hop' := op_cmp (X := X) (coOf o') (by have := S.hu; omega) S.sm
  rw [co_of] at hop hop'
  exact (pe_chain hop hop' ha hb hc (last_ok hs)).imp fun σ H Q h => chain_run hi hi' h
theorem cmp2T_ok (S : Sd X T cl gl) {a b c : Expr} {o o' : CmpOp} {ca cb cc : CE} {pos : Pos} (hs : notSet c = true) (hi : isIn (coOf o) = false) (hi' : isIn (coOf o') = false) (ha : PE X a (dE X.K (ev cl gl true ca) true false)) (hb : PE X b (dE X.K (ev cl gl true cb) true false)) (hc : PE X c (dE X.K (ev cl gl true cc) true false)) :
    PT X (.Compare a [o, o'] [b, c] pos) (dT X.K fun env st => tst (ev cl gl false (.cmp2 (coOf o) (coOf o') ca cb cc) env st)) := by
  have hop := op_cmp (X := X) (coOf o) (by have := S.hu; omega) S.sm
  have hop' := op_cmp (X := X) (coOf o') (by have := S.hu; omega) S.sm
  rw [co_of] at hop hop'
  refine (pt_chain hop hop' ha hb hc (last_ok hs)).imp fun σ H Q h => ?_
  obtain ⟨g, env, st, b0, st', re, rr, e, k⟩ := h
  exact chain_run (w := false) hi hi' (dE_go re rr (tst_eq e) fun g' H' v a1 r1 rd1 => ⟨b0, rdw_bl rd1, k g' H' a1 r1⟩)
theorem ife_ok {c a b : Expr} {cc ca cb : CE} {pos : Pos} {w : Bool} (hc : PT X c (dT X.K fun env st => tst (ev cl gl false cc env st))) (ha : PE X a (dE X.K (ev cl gl false ca) false false)) (hb : PE X b (dE X.K (ev cl gl false cb) false false)) :
    PE X (.IfExp c a b pos) (dE X.K (ev cl gl w (.ife cc ca cb)) w false) := by
  refine (pe_ifExp hc ha hb).imp fun σ H Q h => ?_
  obtain ⟨g, env, st, d, st', re, r, e, k⟩ := h
  simp only [ev] at e
  obtain ⟨t, s1, e1, e⟩ := Res.bind_eq e
  refine dT_go re r e1 fun g1 H1 a1 r1 => ?_
  cases t with
  | true =>
    rw [if_pos rfl]
    exact dE_go' (re.mono a1) r1 e (k.shift a1).ofW
  | false =>
    rw [if_neg Bool.false_ne_true]
    exact dE_go' (re.mono a1) r1 e (k.shift a1).ofW
/-! ### places, slices -/
theorem atI_rd {K : PySem.W.Frag} {g : G} {H : Hp} {l : List D} {vs : List V} {k : Int} {d : D} (h : RDs K g H l vs) (e : atI l k = some d) : ∃ v, atI vs k = some v ∧ RD K g H d v := by
  unfold atI at e ⊢
  rw [h.length]
  cases hx : ixN l.length k with
  | none =>
    rw [hx] at e
    cases e
  | some j =>
    rw [hx] at e
    exact h.get e
theorem idx_ok (S : Sd X T cl gl) {a i : Expr} {ca ci : CE} {pos : Pos} {w : Bool} (hs : notSl i = true) (ha : PE X a (dE X.K (ev cl gl true ca) true false)) (hi : PE X i (dE X.K (ev cl gl false ci) false false)) :
    PE X (.Subscript a i pos) (dE X.K (ev cl gl w (.idx ca ci)) w false) := by
  have pl : PlainIx i := fun _ _ => by cases i <;> first | rfl | cases hs
  have ns : NoSl i := fun _ _ => by cases i <;> first | rfl | cases hs
  refine ⟨fun pins s σ H Q I h => ?_⟩
  obtain ⟨g, env, st, d, st', re, r, e, k⟩ := h
  simp only [ev] at e
  obtain ⟨x, s1, e1, e⟩ := Res.bind_eq e
  obtain ⟨y, s2, e2, e⟩ := Res.bind_eq e
  cases hd : idxop x y s2 with
  | none =>
    rw [hd] at e
    cases e
  | some d' =>
    rw [hd] at e
    cases e
    unfold idxop at hd
    split at hd
    · refine (pe_ix ix_tup ha hi pl).run pins s σ H Q I (dE_go re r e1 fun g1 H1 v1 a1 r1 rd1 => dE_go (re.mono a1) r1 e2 fun g2 H2 v2 a2 r2 rd2 => ?_)
      obtain ⟨p, vs, rfl, h1, h2⟩ := rdw_tup (rd1.mono a2)
      obtain ⟨v, h3, h4⟩ := atI_rd h2 hd
      exact ⟨p, vs, _, v, rfl, rdw_int rd2, SqT.of h1, h3, (k.shift (a1.trans a2)) g2 H2 v (.refl _ _) r2 (.inl h4) fun z => by cases z⟩
    · split at hd
      · rename_i z kk hz
        simp only [Option.map_eq_some_iff] at hd
        obtain ⟨c, hc, rfl⟩ := hd
        refine (pe_ix ix_str ha hi pl).run pins s σ H Q I (dE_go re r e1 fun g1 H1 v1 a1 r1 rd1 => dE_go (re.mono a1) r1 e2 fun g2 H2 v2 a2 r2 rd2 => ?_)
        exact ⟨z, kk, c, rdw_str (rd1.mono a2), rdw_int rd2, hz, hc, (k.shift (a1.trans a2)).str r2⟩
      · cases hd
    · split at hd
      · rename_i l hl
        split at hd
        · refine (pe_ix ix_list ha hi pl).run pins s σ H Q I (dE_go re r e1 fun g1 H1 v1 a1 r1 rd1 => dE_go (re.mono a1) r1 e2 fun g2 H2 v2 a2 r2 rd2 => ?_)
          obtain ⟨p, vs, rfl, h1, h2⟩ := asR_ok r2 (rd1.mono a2) hl
          obtain ⟨v, h3, h4⟩ := atI_rd h2 hd
          exact ⟨p, vs, _, v, rfl, rdw_int rd2, h1, h3, (k.shift (a1.trans a2)) g2 H2 v (.refl _ _) r2 (.inl h4) fun z => by cases z⟩
        · cases hd
      · split at hd
        · rename_i t l hl
          split at hd
          · rename_i hkey
            refine (pe_dget (by have := S.hu; omega) ha hi ns).run pins s σ H Q I (dE_go re r e1 fun g1 H1 v1 a1 r1 rd1 => dE_go (re.mono a1) r1 e2 fun g2 H2 v2 a2 r2 rd2 => ?_)
            obtain ⟨p, rfl, ro⟩ := asK_ok r2 (rd1.mono a2) hl
            obtain ⟨o, h2, h3⟩ := dget_ok ro rd2.ff hkey
            rw [hd] at h3
            cases o with
            | none => exact h3.elim
            | some v => exact ⟨p, v, rfl, h2, (k.shift (a1.trans a2)) g2 H2 v (.refl _ _) r2 (.inl h3) fun z => by cases z⟩
          · cases hd
        · cases hd
def dO (K : PySem.W.Frag) (f : Env → Store → Res (Option Int)) : TO := fun σ H Q => ∃ g env st o st', RE K g H env σ ∧ Rel K g H st ∧ f env st = .ok o st' ∧ ∀ g' H', Le g H g' H' → Rel K g' H' st' → Q o H'
theorem opt_ok {f : Expr → CE} (hf : ∀ e, PE X e (dE X.K (ev cl gl false (f e)) false false)) (o : Option Expr) : PO X o (dO X.K (evO cl gl (erO f o))) := by
  cases o with
  | none =>
    refine ⟨fun pins s σ H Q I h => po_none.run pins s σ H Q I ?_⟩
    obtain ⟨g, env, st, o, st', re, r, e, k⟩ := h
    simp [erO, evO] at e
    obtain ⟨rfl, rfl⟩ := e
    exact k g H (.refl g H) r
  | some e0 =>
    refine ⟨fun pins s σ H Q I h => (po_some (hf e0)).run pins s σ H Q I ?_⟩
    obtain ⟨g, env, st, o, st', re, r, e, k⟩ := h
    simp only [erO, evO] at e
    obtain ⟨x, s1, e1, e⟩ := Res.bind_eq e
    refine dE_go re r e1 fun g1 H1 v1 a1 r1 rd1 => ?_
    split at e
    · cases e
      exact ⟨_, rdw_int rd1, k g1 H1 a1 r1⟩
    · cases e
theorem cut_rd {K : PySem.W.Frag} {g : G} {H : Hp} {l : List D} {vs : List V} (h : RDs K g H l vs) (lo hi : Option Int) : RDs K g H ((l.drop (HT.sIx l.length 0 lo)).take (HT.sIx l.length l.length hi - HT.sIx l.length 0 lo)) (cutV vs lo hi) := by
  unfold cutV
  rw [h.length]
  exact (h.drop _).take _
theorem slc_ok {a : Expr} {lo hi : Option Expr} {f : Expr → CE} {p2 pos : Pos} {w : Bool} (ha : PE X a (dE X.K (ev cl gl true (f a)) true false)) (hf : ∀ e, PE X e (dE X.K (ev cl gl false (f e)) false false)) :
    PE X (.Subscript a (.Slice lo hi none p2) pos) (dE X.K (ev cl gl w (.slc (f a) (erO f lo) (erO f hi))) w true) := by
  refine ⟨fun pins s σ H Q I h => ?_⟩
  obtain ⟨g, env, st, d, st', re, r, e, k⟩ := h
  simp only [ev] at e
  obtain ⟨x, s1, e1, e⟩ := Res.bind_eq e
  obtain ⟨l, s2, e2, e⟩ := Res.bind_eq e
  obtain ⟨u, s3, e3, e⟩ := Res.bind_eq e
  cases hd : slcop x l u s3 with
  | none =>
    rw [hd] at e
    cases e
  | some d' =>
    rw [hd] at e
    cases e
    unfold slcop at hd
    split at hd
    · split at hd
      · rename_i z _ hz
        cases hd
        refine (pe_slice sl_str ha (opt_ok hf lo) (opt_ok hf hi)).run pins s σ H Q I (dE_go re r e1 fun g1 H1 v1 a1 r1 rd1 => ⟨g1, env, s1, l, s2, re.mono a1, r1, e2, fun g2 H2 a2 r2 => ⟨g2, env, s2, u, _, (re.mono a1).mono a2, r2, e3, fun g3 H3 a3 r3 => ?_⟩⟩)
        exact ⟨z, rdw_str rd1, hz, (k.shift ((a1.trans a2).trans a3)).str r3⟩
      · cases hd
    · cases hd
      refine (pe_slice sl_tupA ha (opt_ok hf lo) (opt_ok hf hi)).run pins s σ H Q I (dE_go re r e1 fun g1 H1 v1 a1 r1 rd1 => ⟨g1, env, s1, l, s2, re.mono a1, r1, e2, fun g2 H2 a2 r2 => ⟨g2, env, s2, u, _, (re.mono a1).mono a2, r2, e3, fun g3 H3 a3 r3 => ?_⟩⟩)
      have h0 := rdw_flat rfl ((rd1.mono a2).mono a3)
      unfold RD at h0
      obtain ⟨b, vs, rfl, hb, h1, h2⟩ := h0
      refine ⟨b, vs, rfl, SqT.of h1, fun hw => ?_, fun _ p hp => (k.shift ((a1.trans a2).trans a3)).newT r3 (cut_rd h2 l u) hp⟩
      have hl := h2.length
      rw [hl] at hw
      refine (k.shift ((a1.trans a2).trans a3)).val r3 ?_ rfl
      rw [hw.1, hw.2, List.drop_zero, Nat.sub_zero, List.take_length]
      unfold RD
      exact ⟨b, vs, rfl, hb, h1, h2⟩
    · split at hd
      · rename_i xs hl
        cases hd
        refine (pe_slice sl_list ha (opt_ok hf lo) (opt_ok hf hi)).run pins s σ H Q I (dE_go re r e1 fun g1 H1 v1 a1 r1 rd1 => ⟨g1, env, s1, l, s2, re.mono a1, r1, e2, fun g2 H2 a2 r2 => ⟨g2, env, s2, u, _, (re.mono a1).mono a2, r2, e3, fun g3 H3 a3 r3 => ?_⟩⟩)
        obtain ⟨p, vs, rfl, h1, h2⟩ := asR_ok r3 ((rd1.mono a2).mono a3) hl
        exact ⟨p, vs, rfl, h1, fun q hq => (k.shift ((a1.trans a2).trans a3)).newL r3 (cut_rd h2 l u) hq⟩
      · cases hd
/-! ### displays -/
theorem RAs.ds {K : PySem.W.Frag} {g : G} {H : Hp} : ∀ {ds : List D} {vs : List V}, RAs K false g H ds vs → RDs K g H ds vs
  | _, _, .nil => RDs.nil
  | _, _, .cons a b => .cons a.ff (RAs.ds b)
theorem tup_ok {f : Expr → CE} {es : List Expr} {k0 : Nat} {pos : Pos} {w : Bool} (hf : ∀ e, PE X e (dE X.K (ev cl gl false (f e)) false false)) : PE X (.Tuple es k0 pos) (dE X.K (ev cl gl w (.tup (erEs f es))) w false) := by
  refine (pe_tup (pa_ok hf es)).imp fun σ H Q h => ?_
  obtain ⟨g, env, st, d, st', re, r, e, k⟩ := h
  simp only [ev] at e
  obtain ⟨ds, s1, e1, e⟩ := Res.bind_eq e
  split at e
  · rename_i hz
    cases e
    refine dA_go re r e1 fun g1 H1 vs a1 r1 rd1 => ?_
    exact ⟨by rw [rd1.ds.length]; exact hz, fun p hp => (k.shift a1).newT r1 rd1.ds hp⟩
  · cases e
theorem lst_ok {f : Expr → CE} {es : List Expr} {pos : Pos} {w : Bool} (hf : ∀ e, PE X e (dE X.K (ev cl gl false (f e)) false false)) : PE X (.List es pos) (dE X.K (ev cl gl w (.lst (erEs f es))) w true) := by
  refine (pe_lst (pa_ok hf es)).imp fun σ H Q h => ?_
  obtain ⟨g, env, st, d, st', re, r, e, k⟩ := h
  simp only [ev] at e
  obtain ⟨ds, s1, e1, e⟩ := Res.bind_eq e
  split at e
  · rename_i hz
    cases e
    refine dA_go re r e1 fun g1 H1 vs a1 r1 rd1 => ?_
    exact ⟨by rw [rd1.ds.length]; exact hz, fun p hp => (k.shift a1).newL r1 rd1.ds hp⟩
  · cases e
theorem dnew_ok {t : Bool} {pos : Pos} {w : Bool} : PE X (.Dict [] [] pos) (dE X.K (ev cl gl w (.dnew t)) w true) := by
  refine ⟨fun pins s σ H Q I h => ?_⟩
  obtain ⟨g, env, st, d, st', re, r, e, k⟩ := h
  simp only [ev] at e
  cases e
  cases t with
  | false => exact pe_dnewK.run pins s σ H Q I fun p hp => k.newD r hp
  | true => exact pe_dnewT.run pins s σ H Q I fun p hp => k.newD r hp
/-! ### calls -/
theorem Vals.ofAs {K : PySem.W.Frag} : True := trivial
theorem plain_any {e : Expr} {es : List Expr} {env : PySem.Env} {pos : Pos} (h : es.all notStar = true) : (backTo pos (starEach es env)).any (·.1) = false := by
  induction es with
  | nil => rfl
  | cons a r ih =>
    rw [List.all_cons, Bool.and_eq_true] at h
    rw [star_ok h.1]
    show (false || (backTo pos (starEach r env)).any (·.1)) = false
    rw [ih h.2]
    rfl
theorem evEs_plain {f : Expr → CE} {w : Bool} : ∀ {es : List Expr} {env : Env} {st st' : Store} {ds : List D}, evEs cl gl w (erEs f es) env st = .ok ds st' → es.all notStar = true
  | [], _, _, _, _, _ => rfl
  | e :: es, env, st, st', ds, h => by
    simp only [erEs, evEs] at h
    obtain ⟨d, s1, e1, h⟩ := Res.bind_eq h
    obtain ⟨ds', s2, e2, h⟩ := Res.bind_eq h
    rw [List.all_cons, (ev_gd e1).1, evEs_plain e2]
    rfl
theorem call_all0 (S : Sd X T cl gl) {f : Expr → CE} {e : Expr} {es : List Expr} {s : String} {p pos : Pos} {w0 : Bool} (hm : s ∈ T.fs) (hg : gloB X.env.scope (Str.ofString s) = true) (hn : okN (Str.ofString s) = true) (hf : ∀ e, PE X e (dE X.K (ev cl gl w0 (f e)) w0 false))
    {pins : List (Addr × Obj)} {sh : Shared} {σ : L2.St} {H : Hp} {Q : VK} (I : L2.Inv X pins σ H sh) {g : G} {env : Env} {st s1 : Store} {ds : List D} (re : RE X.K g H env σ) (r : Rel X.K g H st) (e1 : evEs cl gl w0 (erEs f (e :: es)) env st = .ok ds s1)
    (k : ∀ g1 H1 vs, Le g H g1 H1 → Rel X.K g1 H1 s1 → RAs X.K w0 g1 H1 ds vs → rOwn X.K cl T.frs s vs H1 Q) : wpAny (model X.prog X.w) X.A (eval (.Call (.Name (Str.ofString s) p) (e :: es) [] pos) X.env) (EP X pins σ Q) X.xe sh := by
  obtain ⟨fa, m1, kp, F⟩ := S.fns s hm
  have pl := evEs_plain e1
  rw [List.all_cons, Bool.and_eq_true] at pl
  refine wpAny_Call_Name_kw (ld_glob I (glo_of hg) m1 ?_ (okN_dbg hn).1)
  refine PySem.W.callWith_K (h₀ := X.base) I.ok.mod.kin kp (thn ((pa_ok hf (e :: es)).run pos pins sh σ H _ I (dA_go re r e1 (R := fun vs H1 => rOwn X.K cl T.frs s vs H1 Q) k)) fun us s2 ⟨vs, H1, I1, rv, q⟩ => ⟨I1.kIn, ?_⟩) (star_ok pl.1) (plain_any (e := e) pl.2)
  refine wpAny_call (codeAny_mono (F X.stack s2 H1 us vs Q I1.env0 rv q) fun rr s3 hq => ?_)
  cases rr with
  | error er => exact hq.elim
  | ok fl =>
    cases fl with
    | ret u => exact I1.after hq
    | next => exact False.elim hq
    | brk => exact False.elim hq
    | cont => exact False.elim hq
theorem call_ok (S : Sd X T cl gl) {f : Expr → CE} {e : Expr} {es : List Expr} {s : String} {p pos : Pos} {w : Bool} (hm : s ∈ T.fs) (hg : gloB X.env.scope (Str.ofString s) = true) (hn : okN (Str.ofString s) = true) (hf : ∀ e, PE X e (dE X.K (ev cl gl false (f e)) false false)) :
    PE X (.Call (.Name (Str.ofString s) p) (e :: es) [] pos) (dE X.K (ev cl gl w (.call s (erEs f (e :: es)))) w false) := by
  refine ⟨fun pins sh σ H Q I h => ?_⟩
  obtain ⟨g, env, st, d, st', re, r, e0, k⟩ := h
  simp only [ev] at e0
  obtain ⟨ds, s1, e1, e2⟩ := Res.bind_eq e0
  exact call_all0 S hm hg hn hf I re r e1 fun g1 H1 vs a1 r1 rd1 => ⟨g1, s1, ds, d, st', r1, rd1, e2, (k.shift a1).ofW.noFr⟩
theorem callF_ok (S : Sd X T cl gl) {f : Expr → CE} {e : Expr} {es : List Expr} {s : String} {p pos : Pos} {w : Bool} (hfr : T.frs.contains s = true) (hm : s ∈ T.fs) (hg : gloB X.env.scope (Str.ofString s) = true) (hn : okN (Str.ofString s) = true) (hf : ∀ e, PE X e (dE X.K (ev cl gl false (f e)) false false)) :
    PE X (.Call (.Name (Str.ofString s) p) (e :: es) [] pos) (dE X.K (ev cl gl w (.callF s (erEs f (e :: es)))) w true) := by
  refine ⟨fun pins sh σ H Q I h => ?_⟩
  obtain ⟨g, env, st, d, st', re, r, e0, k⟩ := h
  simp only [ev] at e0
  obtain ⟨ds, s1, e1, e2⟩ := Res.bind_eq e0
  exact call_all0 S hm hg hn hf I re r e1 fun g1 H1 vs a1 r1 rd1 => ⟨g1, s1, ds, d, st', r1, rd1, e2, by
    rw [hfr]
    exact (k.shift a1).ofW⟩
/-! ### instances -/
theorem ofS_inj {a b : String} (h : Str.ofString a = Str.ofString b) : a = b := by
  rw [Str.ofString_eq_toList, Str.ofString_eq_toList] at h
  have h2 : a.toList.map Char.toNat = b.toList.map Char.toNat := by
    have := congrArg Str.cps h
    simpa using this
  have inj : ∀ {x y : Char}, x.toNat = y.toNat → x = y := fun {x y} e => Char.ext (UInt32.toNat_inj.mp e)
  have h3 : a.toList = b.toList := (List.map_inj_right (fun x y e => inj e)).mp h2
  exact String.toList_inj.mp h3
theorem base_NA {o : Expr} {m : Str} {env : PySem.Env} {whole : Sem Value} (h : isNA o = true) : attributeBase o m env whole = whole := by
  cases o <;> first | rfl | cases h
theorem rfs_get {K : PySem.W.Frag} {C : Addr} {g : G} {H : Hp} {f : String} {d : D} : ∀ {fs : List (String × D)} {vs : List (Str × V)}, RFs K C g H fs vs → assoc fs f = some d → ∃ v, vs.lookup (Str.ofString f) = some v ∧ NoAttr K C (Str.ofString f) ∧ RD K g H d v
  | [], vs, _, e => by cases e
  | (y, x) :: r, vs, h, e => by
    obtain ⟨v, q, rfl, n, h1, h2⟩ := h
    unfold assoc at e
    split at e
    · rename_i hy
      cases e
      subst hy
      exact ⟨v, by simp, n, h1⟩
    · rename_i hy
      obtain ⟨u, k1, k2, k3⟩ := rfs_get h2 e
      refine ⟨u, ?_, k2, k3⟩
      have hne : (Str.ofString f == Str.ofString y) = false := by
        rw [beq_eq_false_iff_ne]
        exact fun z => hy (ofS_inj z).symm
      rw [List.lookup_cons, hne]
      exact k1
theorem rfs_none {K : PySem.W.Frag} {C : Addr} {g : G} {H : Hp} {f : String} : ∀ {fs : List (String × D)} {vs : List (Str × V)}, RFs K C g H fs vs → assoc fs f = none → vs.lookup (Str.ofString f) = none
  | [], vs, h, _ => by
    have h : vs = [] := h
    rw [h]
    rfl
  | (y, x) :: r, vs, h, e => by
    obtain ⟨v, q, rfl, n, h1, h2⟩ := h
    unfold assoc at e
    split at e
    · cases e
    · rename_i hy
      have hne : (Str.ofString f == Str.ofString y) = false := by
        rw [beq_eq_false_iff_ne]
        exact fun z => hy (ofS_inj z).symm
      rw [List.lookup_cons, hne]
      exact rfs_none h2 e
theorem fld_ok {o : Expr} {co : CE} {f : String} {pos : Pos} {w : Bool} (hb : isNA o = true) (ho : PE X o (dE X.K (ev cl gl false co) false false)) :
    PE X (.Attribute o (Str.ofString f) pos) (dE X.K (ev cl gl w (.fld co f)) w false) := (pe_fld ho (base_NA hb)).imp fun σ H Q z => by
  obtain ⟨g, env, st, d, st', re, r, e0, k⟩ := z
  simp only [ev] at e0
  obtain ⟨x, s1, e1, e0⟩ := Res.bind_eq e0
  split at e0
  · rename_i l
    split at e0
    · rename_i c fs hst
      cases ha : assoc fs f with
      | none =>
        rw [ha] at e0
        cases e0
      | some d2 =>
        rw [ha] at e0
        cases e0
        refine dE_go re r e1 fun g1 H1 v1 a1 r1 rd1 => ?_
        have h2 := rd1.ff
        unfold RD at h2
        obtain ⟨p, rfl, hp⟩ := h2
        obtain ⟨dx, vs, h1, h2, h3⟩ := r1.obj l p _ hp hst
        obtain ⟨v, k1, k2, k3⟩ := rfs_get h3 ha
        exact ⟨p, _, dx, vs, v, rfl, h1, h2, k2, k1, (k.shift a1) g1 H1 v (.refl _ _) r1 (.inl k3) fun z => by cases z⟩
    · cases e0
  · cases e0
theorem own_meth {prog : Program} {w : World} {A : Around} {E : Value → Shared → Prop} {s : Shared} {env : PySem.Env} {o : Expr} {name : Str} {apos pos : Pos} {args : List Expr} {Q : Value → Shared → Prop} (hbase : attributeBase o name env (eval o env) = eval o env)
    (hfew : methodCallForm (args.length + ([] : List Keyword).length) (backTo pos (starEach args env)) (backToKw pos (keywordEach [] env)) = true) (hline : apos.endLine = pos.line)
    (h : wpAny (model prog w) A (eval o env) (fun ov s₁ => ∀ pl : Sem Bool, wpAny (model prog w) A (getMethod ov name pl) (fun fx s₂ => wpAny (model prog w) A (callWith pos fx.1 fx.2 (backTo pos (starEach args env)) (backToKw pos (keywordEach [] env))) Q E s₂) E s₁) E s) :
    wpAny (model prog w) A (eval (.Call (.Attribute o name apos) args [] pos) env) Q E s := by
  have hpos : methodCallPos true o env apos pos = pure pos := by
    unfold methodCallPos
    simp [hline]
  rw [arm_eval_Call, hbase]
  refine wpAny_bind (wpAny_mono h (fun ov s₁ h₁ => ?_) fun _ _ x => x)
  refine wpAny_bind (wpAny_standAt ?_)
  unfold methodCall
  rw [hfew, hpos]
  unfold calleeOf
  simp only [if_true]
  refine wpAny_bind (wpAny_holding (wpAny_mono (h₁ _) (fun fx s₂ h₂ => ?_) fun _ _ x => x))
  exact wpAny_bind (wpAny_pure h₂)
theorem few_M {env : PySem.Env} {cpos : Pos} : ∀ {es : List Expr}, es.all notStar = true → es.length < 20 → methodCallForm (es.length + ([] : List Keyword).length) (backTo cpos (starEach es env)) (backToKw cpos (keywordEach [] env)) = true := fun {es} h hz => by
  have key : ∀ l : List Expr, l.all notStar = true → ((backTo cpos (starEach l env)).all fun x => !x.1) = true := fun l => by
    induction l with
    | nil => intro _; rfl
    | cons a r ih =>
      intro h
      rw [List.all_cons, Bool.and_eq_true] at h
      rw [star_ok h.1]
      show (true && ((backTo cpos (starEach r env)).all fun x => !x.1)) = true
      rw [ih h.2]
      rfl
  unfold methodCallForm
  rw [key es h]
  have hk : backToKw cpos (keywordEach [] env) = [] := rfl
  rw [hk]
  simp
  omega
theorem mCls_ok {T : Tab} {m c : String} (h : (mCls T m).contains c = true) : (c, m) ∈ T.mts := by
  have h2 := List.contains_iff_mem.mp h
  unfold mCls at h2
  obtain ⟨p, h3, rfl⟩ := List.mem_map.mp h2
  obtain ⟨h4, h5⟩ := List.mem_filter.mp h3
  have := eq_of_beq h5
  subst this
  exact h4
theorem meth_ok (S : Sd X T cl gl) {o : Expr} {co : CE} {m : String} {f : Expr → CE} {es : List Expr} {apos cpos : Pos} {w : Bool} (hl : apos.endLine = cpos.line) (hb : isNA o = true) (hz : es.length < 20) (ho : PE X o (dE X.K (ev cl gl false co) false false)) (hf : ∀ e, PE X e (dE X.K (ev cl gl false (f e)) false false)) :
    PE X (.Call (.Attribute o (Str.ofString m) apos) es [] cpos) (dE X.K (ev cl gl w (.meth (mCls T m) m co (erEs f es))) w false) := by
  refine ⟨fun pins sh σ H Q I h => ?_⟩
  obtain ⟨g, env, st, d, st', re, r, e0, k⟩ := h
  simp only [ev] at e0
  obtain ⟨x, s1, e1, e0⟩ := Res.bind_eq e0
  split at e0
  · rename_i l
    split at e0
    · rename_i c fs hst
      split at e0
      · rename_i hc
        obtain ⟨hc, hn⟩ := hc
        obtain ⟨ds, s2, e2, e3⟩ := Res.bind_eq e0
        obtain ⟨fa, M, F⟩ := S.mts c m (mCls_ok hc)
        have pl := evEs_plain e2
        refine own_meth (base_NA hb) (few_M pl hz) hl (thn (ho.run pins sh σ H _ I (dE_go re r e1 (R := fun v H1 => ∃ p, v = .ref p ∧ ∃ dx vs, H1 p = some (.ins (clsA X.K c) dx vs) ∧ Cls X.K (clsA X.K c) ∧ vs.lookup (Str.ofString m) = none ∧ dA X.K (evEs cl gl false (erEs f es)) false σ H1 (fun ws H2 => rOwn X.K cl T.frs (c ++ "." ++ m) (.ref p :: ws) H2 Q)) fun g1 H1 v1 a1 r1 rd1 => ?_)) fun u s3 ⟨y, H1, I1, ry, p, ey, dx, vs, h1, h2, h3, q⟩ pl2 => ?_)
        · have h2 := rd1.ff
          unfold RD at h2
          obtain ⟨p, rfl, hp⟩ := h2
          obtain ⟨dx, vs, h1, h2, h3⟩ := r1.obj l p _ hp hst
          refine ⟨p, rfl, dx, vs, h1, h2, rfs_none h3 hn, dA_go (re.mono a1) r1 e2 fun g2 H2 ws a2 r2 rd2 => ?_⟩
          have rp : RD X.K g2 H2 (.ref l) (.ref p) := by
            unfold RD
            exact ⟨p, rfl, a2.toLeN.get hp⟩
          exact ⟨g2, s2, .ref l :: ds, d, st', r2, .cons (.inl rp) rd2, e3, ((k.shift a1).shift a2).ofW.noFr⟩
        · subst ey
          obtain rfl : u = Value.ref p := ry
          refine getmeth_ok I1 h1 h2 M h3 ?_
          have fin : ∀ (us : List Value) (ws : List V) (s4 : Shared) (H2 : Hp), L2.Inv X pins σ H2 s4 → Vals ws us → rOwn X.K cl T.frs (c ++ "." ++ m) (.ref p :: ws) H2 Q → wpAny (model X.prog X.w) X.A (call (.ref fa) (.ref p :: us)) (EP X pins σ Q) X.xe s4 := fun us ws s4 H2 I2 rv q2 =>
            wpAny_call (codeAny_mono (F X.stack s4 H2 (.ref p :: us) (.ref p :: ws) Q I2.env0 (.cons rfl rv) q2) fun rr s5 hq => by
              cases rr with
              | error er => exact hq.elim
              | ok fl =>
                cases fl with
                | ret u => exact I2.after hq
                | next => exact False.elim hq
                | brk => exact False.elim hq
                | cont => exact False.elim hq)
          cases es with
          | nil =>
            obtain ⟨g5, env5, st5, ds5, st6, re5, r5, e5, k5⟩ := q
            simp only [erEs, evEs] at e5
            cases e5
            exact PySem.W.callWith_K0 (first := [.ref p]) I1.kIn M.kp (fin [] [] s3 H1 I1 .nil (k5 g5 H1 [] (.refl _ _) r5 .nil))
          | cons e es =>
            rw [List.all_cons, Bool.and_eq_true] at pl
            exact PySem.W.callWith_K (first := [.ref p]) (h₀ := X.base) I1.ok.mod.kin M.kp (thn ((pa_ok hf (e :: es)).run cpos pins s3 σ H1 _ I1 q) fun us s4 ⟨ws, H2, I2, rv, q2⟩ => ⟨I2.kIn, fin us ws s4 H2 I2 rv q2⟩) (star_ok pl.1) (plain_any (e := e) pl.2)
      · cases e0
    · cases e0
  · cases e0
def G.push (g : G) (p : Addr) : G := ⟨fun b => g.B b ∨ b = p, g.ρ ++ [p]⟩
theorem some_lt {α : Type} {l : List α} {i : Nat} {a : α} (h : l[i]? = some a) : i < l.length := (List.getElem?_eq_some_iff.mp h).1
section
variable {K : PySem.W.Frag} {g g' g0 : G} {H H' H0 : Hp} {st st' : Store}
theorem le_push {p : Addr} (a : Le g H g' H') (h : H p = none) : Le g H (g'.push p) H' := by
  refine ⟨⟨fun b o e n => ?_, a.trk, ?_⟩, fun b o e n => ?_⟩
  · obtain ⟨k1, k2⟩ := a.keep b o e n
    exact ⟨k1, fun z => z.elim k2 (ne_of_none e h)⟩
  · obtain ⟨m, e, f⟩ := a.pre
    refine ⟨m ++ [p], by show g'.ρ ++ [p] = _; rw [e, List.append_assoc], fun q hq => ?_⟩
    rcases List.mem_append.mp hq with z | z
    · exact f q z
    · rw [List.mem_singleton.mp z]
      exact h
  · obtain ⟨k1, k2⟩ := a.own b o e n
    exact ⟨k1, ⟨fun z => z.elim k2.mp fun q => absurd q (ne_of_none e h), fun z => .inl (k2.mpr z)⟩⟩
theorem lec_push {p : Addr} (hB : g.B p) : LeC g H (g.push p) H := ⟨fun b o e n => ⟨e, fun z => z.elim n fun q => n (q ▸ hB)⟩, [p], rfl⟩
theorem rel_pushS {o : O} {p : Addr} (r : Rel K g H st) (hB : g.B p) (ro : RS K g H o p) (hn : p ∉ g.ρ) : Rel K (g.push p) H (st ++ [o]) := by
  have a : LeC g H (g.push p) H := lec_push hB
  refine ⟨by show (g.ρ ++ [p]).length = _; simp [r.len], fun l q u e1 e2 => ?_, ?_, fun q hq => ?_, fun b hb => hb.elim (fun z => r.trk b z) fun z => ?_⟩
  · have e1 : (g.ρ ++ [p])[l]? = some q := e1
    by_cases hl : l < st.length
    · rw [List.getElem?_append_left (by rw [r.len]; exact hl)] at e1
      rw [List.getElem?_append_left hl] at e2
      exact (r.obj l q u e1 e2).monoC a rfl
    · rw [List.getElem?_append_right (by rw [r.len]; omega)] at e1
      rw [List.getElem?_append_right (by omega)] at e2
      have hz : l - st.length = 0 := by
        have := some_lt e2
        simp at this
        omega
      rw [hz] at e2
      rw [r.len, hz] at e1
      cases e1
      cases e2
      exact ro.monoC a rfl
  · show (g.ρ ++ [p]).Nodup
    rw [List.nodup_append]
    exact ⟨r.nd, by simp, fun x hx y hy e => hn (by rw [← List.mem_singleton.mp hy, ← e]; exact hx)⟩
  · have hq : q ∈ g.ρ ++ [p] := hq
    rcases List.mem_append.mp hq with z | z
    · exact .inl (r.mt q z)
    · exact .inr (List.mem_singleton.mp z)
  · obtain ⟨w, hw, _⟩ := ro.some
    exact ⟨w, by rw [z]; exact hw⟩
theorem rel_push {o : O} {p : Addr} (r : Rel K g H st) (hB : g.B p) (ro : RO K g H o p) (hn : p ∉ g.ρ) : Rel K (g.push p) H (st ++ [o]) := rel_pushS r hB ro.rs hn
theorem push_ref {p : Addr} (r : Rel K g H st) : RD K (g.push p) H' (.ref st.length) (.ref p) := by
  unfold RD
  exact ⟨p, rfl, by show (g.ρ ++ [p])[st.length]? = some p; rw [← r.len]; simp⟩
end
/-- an instance without attributes, made -/
theorem made_ok {K : PySem.W.Frag} {g : G} {H : Hp} {st : Store} {c : String} {x dx : Addr} (r : Rel K g H st) (C : Cls K (clsA K c)) (hx : H x = none) (hd : H dx = none) (ne : dx ≠ x) :
    Rel K (g.push x) (L2.upd (L2.upd H dx (.own x)) x (.ins (clsA K c) dx [])) (st ++ [.ins c []]) ∧ Le g H (g.push x) (L2.upd (L2.upd H dx (.own x)) x (.ins (clsA K c) dx [])) := by
  have hx1 : (L2.upd H dx (.own x)) x = none := by rw [upd_ne (Ne.symm ne)]; exact hx
  have r1 : Rel K g (L2.upd H dx (.own x)) st := r.new hd
  have a1 : Le g H g (L2.upd H dx (.own x)) := le_new hd r.trk
  have a2 : Le g (L2.upd H dx (.own x)) g (L2.upd (L2.upd H dx (.own x)) x (.ins (clsA K c) dx [])) := le_new hx1 r1.trk
  refine ⟨?_, le_push (a1.trans a2) hx⟩
  have r2 : Rel K (g.add x) (L2.upd (L2.upd H dx (.own x)) x (.ins (clsA K c) dx [])) st := r1.addNew hx1
  have hn : x ∉ (g.add x).ρ := fun z => by
    have := r.mt x z
    obtain ⟨o, ho⟩ := r.trk x this
    rw [hx] at ho
    cases ho
  have h := rel_pushS (p := x) (o := .ins c []) r2 (.inr rfl) ⟨dx, [], upd_same, C, rfl⟩ hn
  have e : (g.add x).push x = g.push x := by
    show G.mk _ _ = G.mk _ _
    congr 1
    funext b
    exact propext ⟨fun z => z.elim id .inr, fun z => z.elim (fun y => .inl (.inl y)) .inr⟩
  rw [← e]
  exact h
theorem mkI_ok (S : Sd X T cl gl) {c : String} {f : Expr → CE} {es : List Expr} {p pos : Pos} {w : Bool} (hc : c ∈ T.cs) (hg : gloB X.env.scope (Str.ofString c) = true) (hn : okN (Str.ofString c) = true) (hf : ∀ e, PE X e (dE X.K (ev cl gl false (f e)) false false)) :
    PE X (.Call (.Name (Str.ofString c) p) es [] pos) (dE X.K (ev cl gl w (.mkI c (erEs f es))) w false) := by
  refine ⟨fun pins sh σ H Q I h => ?_⟩
  obtain ⟨g, env, st, d, st', re, r, e0, k⟩ := h
  simp only [ev] at e0
  obtain ⟨ds, s1, e1, e0⟩ := Res.bind_eq e0
  obtain ⟨d2, s2, e2, e0⟩ := Res.bind_eq e0
  obtain ⟨hm, C, fa, M, F⟩ := S.cls c hc
  split at e0
  · cases e0
    refine wpAny_Call_Name_kw (ld_glob I (glo_of hg) hm ?_ (okN_dbg hn).1)
    have fin : ∀ (us : List Value) (ws : List V) (s4 : Shared) (g2 : G) (H2 : Hp), L2.Inv X pins σ H2 s4 → Vals ws us → Rel X.K g2 H2 s1 → RAs X.K false g2 H2 ds ws → Post X.K w false g2 H2 (.ref s1.length) st' Q → wpAny (model X.prog X.w) X.A (call (.ref (clsA X.K c)) us) (EP X pins σ Q) X.xe s4 := fun us ws s4 g2 H2 I2 rv r2 ra k2 => by
      have ne : s4.heap.objs.size ≠ s4.heap.objs.size + 1 := Nat.ne_of_lt (Nat.lt_succ_self _)
      have I3 := Inv.made (C := clsA X.K c) I2
      obtain ⟨r3, a3⟩ := made_ok (c := c) r2 C (I2.hok.fresh (Nat.le_succ _)) (I2.hok.fresh (Nat.le_refl _)) ne
      have rx : RD X.K (g2.push (s4.heap.objs.size + 1)) (L2.upd (L2.upd H2 s4.heap.objs.size (.own (s4.heap.objs.size + 1))) (s4.heap.objs.size + 1) (.ins (clsA X.K c) s4.heap.objs.size [])) (.ref s1.length) (.ref (s4.heap.objs.size + 1)) := push_ref r2
      have q : rOwn X.K cl T.frs (c ++ ".__init__") (.ref (s4.heap.objs.size + 1) :: ws) (L2.upd (L2.upd H2 s4.heap.objs.size (.own (s4.heap.objs.size + 1))) (s4.heap.objs.size + 1) (.ins (clsA X.K c) s4.heap.objs.size [])) (fun v H5 => v = .non ∧ Q (.ref (s4.heap.objs.size + 1)) H5) := by
        refine ⟨_, _, _, _, _, r3, .cons (.inl rx) (Paired.mapP ra fun _ _ z => RDw.mono a3 z), e2, fun g5 H5 v le rel rd _ => ⟨?_, ?_⟩⟩
        · have := rd.ff
          unfold RD at this
          exact this
        · exact (k2.shift a3) g5 H5 _ le rel (.inl (RD.mono le.toLeN _ _ rx)) fun z => by cases z
      refine wpAny_call (make_map (f := fa) I2.kIn M.makes M.init (beq_iff_eq.mp M.fn) (codeAny_mono (F us X.stack _ _ (.ref (s4.heap.objs.size + 1) :: us) (.ref (s4.heap.objs.size + 1) :: ws) _ (I3.env0.make (clsA X.K c) us []) (.cons rfl rv) q) fun rr s5 hq => ?_))
      cases rr with
      | error er => exact hq.elim
      | ok fl =>
        cases fl with
        | ret u =>
          obtain ⟨v, H5, I5, rv5, ev5, q5⟩ := I3.after hq
          subst ev5
          exact ⟨rv5, ⟨V.ref (s4.heap.objs.size + 1), H5, I5, rfl, q5⟩⟩
        | next => exact False.elim hq
        | brk => exact False.elim hq
        | cont => exact False.elim hq
    cases es with
    | nil =>
      simp only [erEs, evEs] at e1
      cases e1
      exact PySem.W.callWith_K0 I.kIn M.kp (fin [] [] sh g H I .nil r .nil k)
    | cons e es =>
      have pl := evEs_plain e1
      rw [List.all_cons, Bool.and_eq_true] at pl
      refine PySem.W.callWith_K (h₀ := X.base) I.ok.mod.kin M.kp (thn ((pa_ok hf (e :: es)).run pos pins sh σ H _ I (dA_go re r e1 (R := fun ws H2 => ∃ g2, Rel X.K g2 H2 s1 ∧ RAs X.K false g2 H2 ds ws ∧ Post X.K w false g2 H2 (.ref s1.length) st' Q) fun g2 H2 ws a2 r2 rd2 => ⟨g2, r2, rd2, k.shift a2⟩)) fun us s4 ⟨ws, H2, I2, rv, g2, r2, rd2, k2⟩ => ⟨I2.kIn, fin us ws s4 g2 H2 I2 rv r2 rd2 k2⟩) (star_ok pl.1) (plain_any (e := e) pl.2)
  · cases e0
/-! ### own things shown to a def -/
def G.dels (g : G) (P : List Addr) : G := ⟨fun b => g.B b ∧ b ∉ P, g.ρ⟩
def G.adds (g : G) (P : List Addr) : G := ⟨fun b => g.B b ∨ b ∈ P, g.ρ⟩
def isLD : HO → Bool
  | .lst _ => true
  | .dK _ => true
  | .dT _ => true
  | _ => false
def LDs (H : Hp) (P : List Addr) : Prop := ∀ p, p ∈ P → ∃ u, H p = some u ∧ isLD u = true
theorem leN_dels {g : G} {H : Hp} {P : List Addr} : LeN g H (g.dels P) H := ⟨fun b o e n => ⟨e, fun z => n z.1⟩, fun b o e => ⟨o, e⟩, [], by simp [G.dels], fun _ z => by simp at z⟩
theorem leN_dels2 {g : G} {H : Hp} {P : List Addr} {p : Addr} : LeN (g.dels P) H (g.dels (p :: P)) H := ⟨fun b o e n => ⟨e, fun z => n ⟨z.1, fun y => z.2 (List.mem_cons_of_mem _ y)⟩⟩, fun b o e => ⟨o, e⟩, [], by simp [G.dels], fun _ z => by simp at z⟩
theorem rd_of_ro0 {K : PySem.W.Frag} {g : G} {H : Hp} {o : O} {p : Addr} (ro : RO K g H o p) (hB : ¬ g.B p) : RD K g H o.d (.ref p) := by
  cases o with
  | lst ds =>
    obtain ⟨vs, h1, h2⟩ := ro
    show RD K g H (.lst ds) _
    unfold RD
    exact ⟨p, vs, rfl, hB, h1, h2⟩
  | dct t kvs =>
    show RD K g H (.dct t kvs) _
    unfold RD
    exact ⟨p, rfl, hB, ro⟩
  | ins c fs => exact False.elim ro
theorem ro_LD {K : PySem.W.Frag} {g : G} {H : Hp} {o : O} {p : Addr} (ro : RO K g H o p) : ∃ u, H p = some u ∧ isLD u = true := by
  cases o with
  | lst ds =>
    obtain ⟨vs, h1, _⟩ := ro
    exact ⟨_, h1, rfl⟩
  | dct t kvs =>
    rcases ro with ⟨_, ks, h1, _⟩ | ⟨_, ks, h1, _⟩
    · exact ⟨_, h1, rfl⟩
    · exact ⟨_, h1, rfl⟩
  | ins c fs => exact False.elim ro
theorem own_args {K : PySem.W.Frag} {g : G} {H : Hp} {ds : List D} {vs : List V} (h : RAs K true g H ds vs) : ∃ P : List Addr, (∀ p, p ∈ P → g.B p ∧ p ∉ g.ρ) ∧ LDs H P ∧ RAs K false (g.dels P) H ds vs := by
  induction h with
  | nil => exact ⟨[], fun p h => by simp at h, fun p h => by simp at h, .nil⟩
  | cons h1 h2 ih =>
    obtain ⟨P, k1, k2, k3⟩ := ih
    rcases h1 with h1 | ⟨_, p, o, rfl, rfl, ro, hB, hn⟩
    · exact ⟨P, k1, k2, .cons (.inl (RD.mono leN_dels _ _ h1)) k3⟩
    · refine ⟨p :: P, fun q hq => (List.mem_cons.mp hq).elim (fun z => z ▸ ⟨hB, hn⟩) (k1 q), fun q hq => (List.mem_cons.mp hq).elim (fun z => z ▸ ro_LD ro) (k2 q), .cons (.inl (rd_of_ro0 (ro.mono leN_dels rfl) fun z => z.2 List.mem_cons_self)) ?_⟩
      clear k1 k2 h2
      induction k3 with
      | nil => exact .nil
      | cons j1 j2 ij => exact .cons (.inl (RD.mono leN_dels2 _ _ j1.ff)) ij
mutual
theorem RD.adds {K : PySem.W.Frag} {g : G} {H : Hp} {P : List Addr} (hP : LDs H P) : ∀ (d : D) (v : V), noL d = true → RD K g H d v → RD K (g.adds P) H d v
  | .non, _, _, h => by simpa [RD] using h
  | .bl _, _, _, h => by simpa [RD] using h
  | .int _, _, _, h => by simpa [RD] using h
  | .str _, _, _, h => by simpa [RD] using h
  | .tup ds, v, n, h => by
    unfold RD at h ⊢
    obtain ⟨p, vs, e, nb, h1, h2⟩ := h
    refine ⟨p, vs, e, fun z => z.elim nb fun z => ?_, h1, RDs.adds hP ds vs (by simpa only [noL] using n) h2⟩
    obtain ⟨u, hu, hl⟩ := hP p z
    rw [h1] at hu
    cases hu
    cases hl
  | .lst ds, v, n, h => by simp [noL] at n
  | .dct t kvs, v, n, h => by simp [noL] at n
  | .scr l, v, _, h => by
    unfold RD at h ⊢
    obtain ⟨p, e, h⟩ := h
    rcases h with ⟨nb, o, h1⟩ | h1
    · refine ⟨p, e, .inl ⟨fun z => z.elim nb fun z => ?_, o, h1⟩⟩
      obtain ⟨u, hu, hl⟩ := hP p z
      rw [h1] at hu
      cases hu
      cases hl
    · exact ⟨p, e, .inr h1⟩
  | .ref l, v, _, h => by
    unfold RD at h ⊢
    exact h
theorem RDs.adds {K : PySem.W.Frag} {g : G} {H : Hp} {P : List Addr} (hP : LDs H P) : ∀ (ds : List D) (vs : List V), noLs ds = true → RDs K g H ds vs → RDs K (g.adds P) H ds vs
  | [], _, _, h => by simpa [RDs] using h
  | d :: ds, vs, n, h => by
    simp only [noLs, Bool.and_eq_true] at n
    unfold RDs at h ⊢
    obtain ⟨v, r, e, h1, h2⟩ := h
    exact ⟨v, r, e, RD.adds hP d v n.1 h1, RDs.adds hP ds r n.2 h2⟩
end
theorem RKf.adds {K : PySem.W.Frag} {g : G} {H : Hp} {P : List Addr} (hP : LDs H P) : ∀ (ds : List (D × D)) (ks : List (Key × V)), noLk ds = true → RKf K g H ds ks → RKf K (g.adds P) H ds ks
  | [], _, _, h => by simpa [RKf] using h
  | (k, d) :: ds, ks, n, h => by
    simp only [noLk, Bool.and_eq_true] at n
    unfold RKf at h ⊢
    obtain ⟨k', v, q, e, h0, h1, h2⟩ := h
    exact ⟨k', v, q, e, h0, RD.adds hP d v n.2.1 h1, RKf.adds hP ds q n.2.2 h2⟩
theorem RKt.adds {K : PySem.W.Frag} {g : G} {H : Hp} {P : List Addr} (hP : LDs H P) : ∀ (ds : List (D × D)) (ks : List (List Key × V)), noLk ds = true → RKt K g H ds ks → RKt K (g.adds P) H ds ks
  | [], _, _, h => by simpa [RKt] using h
  | (k, d) :: ds, ks, n, h => by
    simp only [noLk, Bool.and_eq_true] at n
    unfold RKt at h ⊢
    obtain ⟨l, k', v, q, e, h0, h0', h1, h2⟩ := h
    exact ⟨l, k', v, q, e, h0, h0', RD.adds hP d v n.2.1 h1, RKt.adds hP ds q n.2.2 h2⟩
theorem RO.adds {K : PySem.W.Frag} {g : G} {H : Hp} {P : List Addr} (hP : LDs H P) {o : O} {p : Addr} (n : noLO o = true) (h : RO K g H o p) : RO K (g.adds P) H o p := by
  cases o with
  | lst ds =>
    obtain ⟨vs, h1, h2⟩ := h
    exact ⟨vs, h1, RDs.adds hP ds vs n h2⟩
  | dct t kvs =>
    rcases h with ⟨et, ks, h1, h2⟩ | ⟨et, ks, h1, h2⟩
    · exact .inl ⟨et, ks, h1, RKf.adds hP kvs ks n h2⟩
    · exact .inr ⟨et, ks, h1, RKt.adds hP kvs ks n h2⟩
  | ins c fs => exact False.elim h
theorem RFs.adds {K : PySem.W.Frag} {g : G} {H : Hp} {P : List Addr} (hP : LDs H P) {C : Addr} : ∀ (fs : List (String × D)) (vs : List (Str × V)), (fs.all fun p => noL p.2) = true → RFs K C g H fs vs → RFs K C (g.adds P) H fs vs
  | [], _, _, h => h
  | (f, d) :: r, vs, n, h => by
    rw [List.all_cons, Bool.and_eq_true] at n
    obtain ⟨v, q, e, h0, h1, h2⟩ := h
    exact ⟨v, q, e, h0, RD.adds hP d v n.1 h1, RFs.adds hP r q n.2 h2⟩
theorem RS.adds {K : PySem.W.Frag} {g : G} {H : Hp} {P : List Addr} (hP : LDs H P) {o : O} {p : Addr} (n : noLO o = true) (h : RS K g H o p) : RS K (g.adds P) H o p := by
  cases o with
  | lst ds => exact RO.adds hP (o := .lst ds) n h
  | dct t kvs => exact RO.adds hP (o := .dct t kvs) n h
  | ins c fs =>
    obtain ⟨dx, vs, h1, h2, h3⟩ := h
    exact ⟨dx, vs, h1, h2, RFs.adds hP fs vs n h3⟩
theorem Rel.adds {K : PySem.W.Frag} {g : G} {H : Hp} {P : List Addr} {st : Store} (hP : LDs H P) (n : st.all noLO = true) (r : Rel K g H st) : Rel K (g.adds P) H st :=
  ⟨r.len, fun l p o e1 e2 => (r.obj l p o e1 e2).adds hP (List.all_eq_true.mp n o (List.mem_of_getElem? e2)), r.nd, fun p hp => .inl (r.mt p hp), fun b hb => hb.elim (r.trk b) fun z => (hP b z).elim fun u hu => ⟨u, hu.1⟩⟩
theorem adds_add {g : G} {P : List Addr} {p : Addr} : (g.add p).adds P = (g.adds P).add p := by
  show G.mk _ _ = G.mk _ _
  congr 1
  funext b
  exact propext ⟨fun z => z.elim (fun y => y.elim (fun x => .inl (.inl x)) .inr) fun y => .inl (.inr y), fun z => z.elim (fun y => y.elim (fun x => .inl (.inl x)) .inr) fun y => .inl (.inr y)⟩
theorem callO_ok (S : Sd X T cl gl) {f : Expr → CE} {e : Expr} {es : List Expr} {s : String} {p pos : Pos} {w b : Bool} (hb : T.frs.contains s = b) (hm : s ∈ T.fs) (hg : gloB X.env.scope (Str.ofString s) = true) (hn : okN (Str.ofString s) = true) (hf : ∀ e, PE X e (dE X.K (ev cl gl true (f e)) true false)) :
    PE X (.Call (.Name (Str.ofString s) p) (e :: es) [] pos) (dE X.K (ev cl gl w (.callO b s (erEs f (e :: es)))) w b) := by
  refine ⟨fun pins sh σ H Q I h => ?_⟩
  obtain ⟨g, env, st, d, st', re, r, e0, k⟩ := h
  simp only [ev] at e0
  obtain ⟨ds, s1, e1, e2⟩ := Res.bind_eq e0
  obtain ⟨d', s2, e4, e3⟩ := Res.bind_eq e2
  split at e3
  · rename_i hok
    simp only [Res.ok.injEq] at e3
    obtain ⟨rfl, rfl⟩ := e3
    refine call_all0 S hm hg hn hf I re r e1 fun g1 H1 vs a1 r1 rd1 => ?_
    obtain ⟨P, p1, p2, p3⟩ := own_args rd1
    have rr : Rel X.K (g1.dels P) H1 s1 := ⟨r1.len, fun l2 q u e2 e3 => (r1.obj l2 q u e2 e3).mono leN_dels rfl, r1.nd, fun q hq => ⟨r1.mt q hq, fun z => (p1 q z).2 hq⟩, fun b hb => r1.trk b hb.1⟩
    refine ⟨g1.dels P, s1, ds, d', s2, rr, p3, e4, fun g' H' v l rl rd fv => ?_⟩
    rw [hb] at fv
    have hP : LDs H' P := fun q hq => by
      obtain ⟨u, hu, hl⟩ := p2 q hq
      exact ⟨u, (l.own q u hu (p1 q hq).2).1, hl⟩
    have le : Le g1 H1 (g'.adds P) H' := by
      refine ⟨⟨fun c o e n => ?_, l.trk, l.pre⟩, fun c o e n => ?_⟩
      · obtain ⟨k1, k2⟩ := l.keep c o e fun z => n z.1
        exact ⟨k1, fun z => z.elim k2 fun y => n (p1 c y).1⟩
      · obtain ⟨k1, k2⟩ := l.own c o e n
        refine ⟨k1, ⟨fun z => z.elim (fun y => (k2.mp y).1) fun y => (p1 c y).1, fun z => ?_⟩⟩
        by_cases hc : c ∈ P
        · exact .inr hc
        · exact .inl (k2.mpr ⟨z, hc⟩)
    unfold okX at hok
    rw [Bool.and_eq_true] at hok
    obtain ⟨ok1, ok2⟩ := hok
    have rl2 := Rel.adds hP ok2 rl
    have fv2 : b = true → FrV X.K H1 (g'.adds P) H' s2 d' v := fun hb1 o ho => by
      have ok3 : noLO o = true := by
        rw [hb1] at ok1
        cases d' <;> simp [oOf] at ho <;> subst ho <;> simpa [noL, noLO] using ok1
      obtain ⟨q, hv, h1, h2, h3, h4⟩ := fv hb1 o ho
      refine ⟨q, hv, h1, fun z => z.elim h2 fun y => ?_, ?_, ?_⟩
      · obtain ⟨u, hu, _⟩ := p2 q y
        rw [h1] at hu
        cases hu
      · rw [← adds_add]
        exact h3.adds hP ok3
      · rw [← adds_add]
        exact Rel.adds hP ok2 h4
    refine (k.shift a1) (g'.adds P) H' v le rl2 (.inl ?_) fv2
    by_cases hnl : noL d' = true
    · exact RD.adds hP d' v hnl rd.ff
    · have hb1 : b = true := by
        cases b with
        | true => rfl
        | false =>
          rw [Bool.false_and, Bool.or_false] at ok1
          exact absurd ok1 hnl
      cases ho : oOf d' with
      | none => cases d' <;> simp [oOf] at ho <;> simp_all [noL]
      | some o =>
        obtain ⟨q, rfl, h1, h2, h3, h4⟩ := fv2 hb1 o ho
        have hd : o.d = d' := by cases d' <;> simp [oOf] at ho <;> subst ho <;> rfl
        rw [← hd]
        refine rd_of_ro0 ?_ h2
        obtain ⟨q', hq, _, h2', h3', _⟩ := fv hb1 o ho
        cases hq
        have rd0 := rd.ff
        rw [← hd] at rd0
        have ok3 : noLO o = true := by
          rw [hb1] at ok1
          cases d' <;> simp [oOf] at ho <;> subst ho <;> simpa [noL, noLO] using ok1
        cases o with
        | lst ds =>
          have rd0 : RD X.K g' H' (.lst ds) _ := rd0
          unfold RD at rd0
          obtain ⟨q2, vs2, hq, _, j1, j2⟩ := rd0
          cases hq
          exact ⟨vs2, j1, RDs.adds hP ds vs2 ok3 j2⟩
        | dct t kvs =>
          have rd0 : RD X.K g' H' (.dct t kvs) _ := rd0
          unfold RD at rd0
          obtain ⟨q2, hq, _, j⟩ := rd0
          cases hq
          rcases j with ⟨et, ks, j1, j2⟩ | ⟨et, ks, j1, j2⟩
          · exact .inl ⟨et, ks, j1, RKf.adds hP kvs ks ok3 j2⟩
          · exact .inr ⟨et, ks, j1, RKt.adds hP kvs ks ok3 j2⟩
        | ins c fs => cases d' <;> cases ho
  · cases e3
theorem blt_ok (S : Sd X T cl gl) {f : Expr → CE} {e : Expr} {es : List Expr} {s : String} {p pos : Pos} {w : Bool} (hm : s ∈ bltNames) (hg : gloB X.env.scope (Str.ofString s) = true) (hn : okN (Str.ofString s) = true) (hf : ∀ e, PE X e (dE X.K (ev cl gl true (f e)) true false)) :
    PE X (.Call (.Name (Str.ofString s) p) (e :: es) [] pos) (dE X.K (ev cl gl w (.blt s (erEs f (e :: es)))) w true) := by
  refine ⟨fun pins sh σ H Q I h => ?_⟩
  obtain ⟨g, env, st, d, st', re, r, e0, k⟩ := h
  simp only [ev] at e0
  obtain ⟨ds, s1, e1, e2⟩ := Res.bind_eq e0
  have pl := evEs_plain e1
  rw [List.all_cons, Bool.and_eq_true] at pl
  have hmg : X.mg (Str.ofString s) = none := S.blt s (List.mem_append_left _ hm)
  have hu : X.A.units + 64 < cLine := by have := S.hu; omega
  have rd : tCB (rCall X.K s) (dA X.K (evEs cl gl true (erEs f (e :: es))) true) σ H Q := dA_go re r e1 (R := fun vs H1 => rCall X.K s vs H1 Q) fun g1 H1 vs a1 r1 rd1 => ⟨g1, s1, ds, d, st', r1, rd1, e2, by
    have := (k.shift a1).ofW
    exact this⟩
  have go : ∀ id : String, bltV s = some (.builtin id) → bootBuiltins (Str.ofString s) = some (.builtin id) → wpAny (model X.prog X.w) X.A (eval (.Call (.Name (Str.ofString s) p) (e :: es) [] pos) X.env) (EP X pins σ Q) X.xe sh := fun id h1 h2 =>
    (pe_callB (call_blt s _ h1 S.calm S.gd hu S.sm) (glo_of hg) hmg h2 (pa_ok hf (e :: es)) (okN_dbg hn).2.2 (okN_dbg hn).1 (star_ok pl.1) (plain_any (e := e) pl.2)).run pins sh σ H Q I rd
  have goT : ∀ id : String, bltV s = some (.type id) → bootBuiltins (Str.ofString s) = some (.type id) → wpAny (model X.prog X.w) X.A (eval (.Call (.Name (Str.ofString s) p) (e :: es) [] pos) X.env) (EP X pins σ Q) X.xe sh := fun id h1 h2 =>
    (pe_callTy (call_blt s _ h1 S.calm S.gd hu S.sm) (glo_of hg) hmg h2 (pa_ok hf (e :: es)) (okN_dbg hn).2.2 (okN_dbg hn).1 (star_ok pl.1) (plain_any (e := e) pl.2)).run pins sh σ H Q I rd
  simp only [bltNames, List.mem_cons, List.not_mem_nil, or_false] at hm
  rcases hm with rfl | rfl | rfl | rfl | rfl | rfl | rfl | rfl | rfl | rfl | rfl | rfl | rfl | rfl
  · exact go "len" rfl (by decide +kernel)
  · exact go "abs" rfl (by decide +kernel)
  · exact go "max" rfl (by decide +kernel)
  · exact go "min" rfl (by decide +kernel)
  · exact go "all" rfl (by decide +kernel)
  · exact go "any" rfl (by decide +kernel)
  · exact go "sum" rfl (by decide +kernel)
  · exact go "repr" rfl (by decide +kernel)
  · exact goT "int" rfl (by decide +kernel)
  · exact goT "str" rfl (by decide +kernel)
  · exact goT "list" rfl (by decide +kernel)
  · exact goT "tuple" rfl (by decide +kernel)
  · exact goT "bool" rfl (by decide +kernel)
  · exact go "sorted" rfl (by decide +kernel)
/-! ### dict(xs) of pairs -/
theorem Post.newK {K : PySem.W.Frag} {w fr : Bool} {g : G} {H : Hp} {st' : Store} {Q : VK} {kvs : List (D × D)} {ks : List (Key × V)} {p : Addr} (h : Post K w fr g H (.dct false kvs) st' Q) (r : Rel K g H st') (rd : RKf K g H kvs ks) (hp : H p = none) : Q (.ref p) (L2.upd H p (.dK ks)) := by
  have a := le_new (o := .dK ks) hp r.trk
  refine h g _ _ a (r.new hp) (.inl ?_) fun _ o ho => ?_
  · unfold RD
    exact ⟨p, rfl, r.nb hp, .inl ⟨rfl, ks, upd_same, RKf.mono a.toLeN _ _ rd⟩⟩
  · cases ho
    exact ⟨p, rfl, hp, r.nb hp, .inl ⟨rfl, ks, upd_same, RKf.mono (le_add a hp).toLeN _ _ rd⟩, r.addNew hp⟩
theorem pairs_v {K : PySem.W.Frag} {g : G} {H : Hp} : ∀ {l : List D} {vs : List V} {ps : List (D × D)}, RDs K g H l vs → pairsD l = some ps → ∃ (as : List Addr) (kvs : List (Key × V)), vs = as.map V.ref ∧ Paired (fun p kv => SqT K H p [kV kv.1, kv.2]) as kvs ∧ RKf K g H ps kvs
  | [], vs, ps, h, e => by
    unfold RDs at h
    cases e
    exact ⟨[], [], h, .nil, by unfold RKf; rfl⟩
  | d :: l, vs, ps, h, e => by
    unfold RDs at h
    obtain ⟨v, q, rfl, h1, h2⟩ := h
    unfold pairsD at e
    split at e
    · rename_i p q' e1 e2
      cases e
      obtain ⟨as, kvs, rfl, h3, h4⟩ := pairs_v h2 e2
      unfold pairD at e1
      split at e1
      · rename_i k x
        split at e1
        · rename_i hk
          cases e1
          rw [Option.isSome_iff_exists] at hk
          obtain ⟨kk, hk⟩ := hk
          unfold RD at h1
          obtain ⟨b, ws, rfl, _, h5, h6⟩ := h1
          unfold RDs at h6
          obtain ⟨v1, q1, rfl, h7, h8⟩ := h6
          unfold RDs at h8
          obtain ⟨v2, q2, rfl, h9, h10⟩ := h8
          unfold RDs at h10
          subst h10
          rw [key1_v h7 hk] at h5
          refine ⟨b :: as, (kk, v2) :: kvs, rfl, .cons (SqT.of h5) h3, ?_⟩
          unfold RKf
          exact ⟨kk, v2, kvs, rfl, hk, h9, h4⟩
        · cases e1
      · cases e1
    · cases e
theorem merge_f {K : PySem.W.Frag} {g : G} {H : Hp} : ∀ {ps l : List (D × D)} {kvs ks : List (Key × V)}, RKf K g H ps kvs → RKf K g H l ks → RKf K g H (mergeD l ps) (mergeK ks kvs)
  | [], l, kvs, ks, h, h2 => by
    unfold RKf at h
    subst h
    exact h2
  | (k, d) :: ps, l, kvs, ks, h, h2 => by
    unfold RKf at h
    obtain ⟨kk, v, q, rfl, h3, h4, h5⟩ := h
    exact merge_f (l := putD l k d) (ks := L2.putK ks kk v) h5 (put_f h3 h4 h2)
theorem dcp_ok (S : Sd X T cl gl) {a : Expr} {ca : CE} {p pos : Pos} {w : Bool} (hg : Gl X "dict") (hs : notStar a = true) (ha : PE X a (dE X.K (ev cl gl true ca) true false)) : PE X (.Call (.Name "dict" p) [a] [] pos) (dE X.K (ev cl gl w (.dcp ca)) w true) := by
  have hm : X.mg ("dict" : Str) = none := S.blt "dict" (by decide)
  refine (pe_callTy (call_dictP S.calm) hg hm (by decide +kernel) (pa_cons ha pa_nil (star_ok hs)) (by decide) (by decide) (star_ok hs) rfl).imp fun σ H Q h => ?_
  obtain ⟨g, env, st, d, st', re, r, e0, k⟩ := h
  simp only [ev] at e0
  obtain ⟨x, s1, e1, e2⟩ := Res.bind_eq e0
  split at e2
  · rename_i l hl
    obtain ⟨ps, s2, e3, e4⟩ := Res.bind_eq e2
    cases e4
    obtain ⟨hp, rfl⟩ := ofO_eq e3
    refine dE_go re r e1 fun g1 H1 v1 a1 r1 rd1 => ?_
    obtain ⟨b, vs, rfl, h1, h2⟩ := asL_ok r1 rd1 hl
    obtain ⟨as, kvs, rfl, h3, h4⟩ := pairs_v h2 hp
    refine ⟨b, as, kvs, rfl, SqL.of h1, h3, fun q hq => ?_⟩
    exact (k.shift a1).newK r1 (merge_f h4 (by unfold RKf; rfl)) hq
  · cases e2
theorem rev_ok {a : Expr} {ca : CE} {k : Nat} {p1 p2 p3 pos : Pos} {w : Bool} (ha : PE X a (dE X.K (ev cl gl true ca) true false)) : PE X (.Subscript a (.Slice none none (some (.UnaryOp .USub (.Constant (.int 1) k p1) p2)) p3) pos) (dE X.K (ev cl gl w (.rev ca)) w true) := (pe_revL ha).imp fun σ H Q h => by
  obtain ⟨g, env, st, d, st', re, r, e0, k⟩ := h
  simp only [ev] at e0
  obtain ⟨x, s1, e1, e2⟩ := Res.bind_eq e0
  split at e2
  · rename_i l hl
    cases e2
    refine dE_go re r e1 fun g1 H1 v1 a1 r1 rd1 => ?_
    obtain ⟨p, vs, rfl, h1, h2⟩ := asR_ok r1 rd1 hl
    exact ⟨p, vs, rfl, h1, fun q hq => (k.shift a1).newL r1 h2.reverse hq⟩
  · cases e2
theorem allS_v {K : PySem.W.Frag} {g : G} {H : Hp} : ∀ {ds : List D} {vs : List V} {b : List Str}, RDs K g H ds vs → allS ds = some b → vs = b.map V.str
  | [], vs, b, h, e => by
    unfold RDs at h
    cases e
    rw [h]
    rfl
  | .str i :: ds, vs, b, h, e => by
    simp only [allS, Option.map_eq_some_iff] at e
    obtain ⟨b', e1, rfl⟩ := e
    unfold RDs at h
    obtain ⟨v, r, rfl, h1, h2⟩ := h
    unfold RD at h1
    rw [h1, allS_v h2 e1]
    rfl
  | .non :: _, _, _, _, e | .bl _ :: _, _, _, _, e | .int _ :: _, _, _, _, e | .tup _ :: _, _, _, _, e | .lst _ :: _, _, _, _, e | .dct _ _ :: _, _, _, _, e | .scr _ :: _, _, _, _, e | .ref _ :: _, _, _, _, e => by cases e
theorem met_fold {α : Type} [DecidableEq α] [BEq α] [LawfulBEq α] (l : List α) (z : α) : metK (fun i => l.getD i z) l.length = l.foldl PyProof.Rows.step_dedup [] := by
  unfold metK
  congr 1
  refine List.ext_getElem? fun i => ?_
  rw [List.getElem?_map]
  by_cases h : i < l.length
  · rw [List.getElem?_range h, List.getElem?_eq_getElem h]
    simp [List.getD_eq_getElem?_getD, List.getElem?_eq_getElem h]
  · rw [List.getElem?_eq_none (by rw [List.length_range]; omega), List.getElem?_eq_none (by omega)]
    rfl
theorem lset_ok (S : Sd X T cl gl) {a : Expr} {ca : CE} {p p2 q pos : Pos} {w : Bool} (hg : Gl X "len") (hg2 : Gl X "set") (hs : notStar a = true) (ha : PE X a (dE X.K (ev cl gl true ca) true false)) :
    PE X (.Call (.Name "len" p) [.Call (.Name "set" p2) [a] [] q] [] pos) (dE X.K (ev cl gl w (.lset ca)) w false) := by
  refine ⟨fun pins sh σ H Q I h => ?_⟩
  obtain ⟨g, env, st, d, st', re, r, e0, k⟩ := h
  simp only [ev] at e0
  obtain ⟨x, s1, e1, e2⟩ := Res.bind_eq e0
  split at e2
  · rename_i l hl
    obtain ⟨n, s2, e3, e4⟩ := Res.bind_eq e2
    cases hn : nsetD l with
    | none =>
      rw [hn] at e3
      cases e3
    | some n' =>
      rw [hn] at e3
      simp only [ofO_some, Res.ok.injEq] at e3
      obtain ⟨rfl, rfl⟩ := e3
      simp only [Res.ok.injEq] at e4
      obtain ⟨rfl, rfl⟩ := e4
      have hm : X.mg ("len" : Str) = none := S.blt "len" (by decide)
      have hm2 : X.mg ("set" : Str) = none := S.blt "set" (by decide)
      refine Call_ (ld_blt I hg hm boot_len ?_)
      refine PyProof.Rows.callWith_builtin1 (PyProof.Rows.args_cons ?_ rfl) rfl rfl
      refine Call_ (ld_blt I hg2 hm2 PyProof.Rows.boot_set ?_)
      refine PyProof.Rows.callWith_type1 (PyProof.Rows.args_cons (thn (ha.run pins sh σ H (fun v H1 => ∃ g1 b vs, Le g H g1 H1 ∧ Rel X.K g1 H1 s1 ∧ v = .ref b ∧ H1 b = some (.lst vs) ∧ RDs X.K g1 H1 l vs) I (dE_go re r e1 fun g1 H1 v1 a1 r1 rd1 => by
        obtain ⟨b, vs, rfl, h1, h2⟩ := asL_ok r1 rd1 hl
        exact ⟨g1, b, vs, a1, r1, rfl, h1, h2⟩)) fun v t ⟨x1, H1, I1, rv, g1, b, vs, a1, r1, ex, h1, h2⟩ => PyProof.Rows.args_nil ?_) (star_ok hs)) (star_ok hs) rfl
      subst ex
      cases rv
      obtain ⟨its, rr, pl, hz⟩ := I1.list (SqL.of h1)
      have fin : ∀ (Κ : Type) [DecidableEq Κ] [BEq Κ] [LawfulBEq Κ] (kd : KeyKind X.prog X.w Κ) (ks : List Κ) (z : Κ), its.toArray.size = ks.length → n' = (ks.foldl PyProof.Rows.step_dedup []).length → ks.length + 1 < 4096 → (∀ i v, its[i]? = some v → kd.is (ks.getD i z) v = true ∧ v.scannable = true) →
          wpAny (model X.prog X.w) X.A (call (.type "set") [.ref b]) (fun v sh₁ => wpAny (model X.prog X.w) X.A (spliced (backTo pos (starEach [] X.env))) (fun vs sh₂ => wpAny (model X.prog X.w) X.A (call (.builtin "len") (v :: vs)) (EP X pins σ Q) X.xe sh₂) X.xe sh₁) X.xe t := fun Κ _ _ _ kd ks z hsz hn hlt hf => by
        refine call_set kd (I1.ok.hd S.calm) pl.isList (fun i => ks.getD i z) (fun i v hv => hf i v (by simpa using hv)) (by rw [hsz]; exact hlt) fun h' tk hS hk => ?_
        refine PyProof.Rows.args_nil ?_
        rw [hsz, met_fold] at hS
        obtain ⟨o, es, ep, tb, ho, hex, hd, _, _, _, hfi, hnn⟩ := hS
        have I2 : Inv X pins σ H1 { t with heap := h', toks := tk } := I1.kept fun b o e => hk b o (Heap.lt_size e) e
        have hle : n' ≤ 4096 := by
          rw [hn, ← met_fold ks z]
          have := metK_le (fun i => ks.getD i z) ks.length
          omega
        exact call_len_set ho hex hd hfi (by rw [hnn, ← hn]; omega) ⟨.int n', H1, I2.tok _, ⟨_, by rw [hnn, ← hn]⟩, (k.shift a1) g1 H1 _ (.refl _ _) r1 (.inl rd_int) fun z => by cases z⟩
      unfold nsetD at hn
      split at hn
      · rename_i hlt
        have hlen : its.toArray.size = vs.length := by rw [List.size_toArray]; exact rr.length.symm
        split at hn
        · rename_i ks hks
          have ev := allS_v h2 hks
          cases hn
          have hkl : ks.length = l.length := by rw [← h2.length, ev, List.length_map]
          refine fin Str (PySem.strKind X.prog X.w) ks Str.empty (by rw [hlen, ev, List.length_map]) rfl (by rw [hkl]; exact hlt) fun i v hv => ?_
          obtain ⟨t, rfl⟩ := SS.strs_at (strsAre_of (by rw [← ev]; simpa using rr)) i v hv
          exact ⟨strKind_is _ _ _ _, rfl⟩
        · rw [Option.map_eq_some_iff] at hn
          obtain ⟨ks, hks, rfl⟩ := hn
          have ev := ints_v h2 hks
          have hkl : ks.length = l.length := by rw [← h2.length, ev, List.length_map]
          refine fin Int (PySem.intKind X.prog X.w) ks 0 (by rw [hlen, ev, List.length_map]) rfl (by rw [hkl]; exact hlt) fun i v hv => ?_
          obtain ⟨t, rfl⟩ := PyProof.Rows.IntsAre.int_at (intsAre_of (by rw [← ev]; simpa using rr)) i v hv
          exact ⟨intKind_is _ _ _ _, rfl⟩
      · cases hn
  · cases e2
end
end Ev
/-! Ev9: isinstance, methods -/
namespace Ev
open PySem L2 PySem.Spec PyProof.Rows
section
variable {X : Cx} {T : Tab} {cl : String → List D → Store → Res D} {gl : String → Option D}
/-! ### isinstance -/
def isiNames : List String := ["int", "str", "list", "tuple", "bool", "dict"]
theorem isT_ok : ∀ a, a ∈ (["NoneType", "bool", "int", "str", "tuple", "list", "dict"] : List String) → ∀ b, b ∈ isiNames → kitB a b = some (isT a b) := by decide +kernel
theorem tyN_ok {K : PySem.W.Frag} {g : G} {H : Hp} {st : Store} {x : D} {vx : V} {a : String} (r : Rel K g H st) (h : RDw K true g H x vx) (e : tyN st x = some a) : TyX K H vx (.type a) ∧ a ∈ (["NoneType", "bool", "int", "str", "tuple", "list", "dict"] : List String) := by
  have dct : ∀ {t : Bool} {l : List (D × D)} {p : Addr}, RO K g H (.dct t l) p → TyX K H (.ref p) (.type "dict") := fun {t l p} ro => by
    rcases ro with ⟨_, ks, h1, _⟩ | ⟨_, ks, h1, _⟩
    · exact .base (.dK h1)
    · exact .base (.dT h1)
  cases x with
  | non =>
    cases e
    rw [rdw_non h]
    exact ⟨.base .non, by simp⟩
  | bl b =>
    cases e
    rw [rdw_bl h]
    exact ⟨.base (.bl _), by simp⟩
  | int b =>
    cases e
    rw [rdw_int h]
    exact ⟨.base (.int _), by simp⟩
  | str b =>
    cases e
    rw [rdw_str h]
    exact ⟨.base (.str _), by simp⟩
  | tup b =>
    cases e
    obtain ⟨p, vs, rfl, h1, _⟩ := rdw_tup h
    exact ⟨.base (.tup h1), by simp⟩
  | lst b =>
    cases e
    obtain ⟨p, vs, rfl, h1, _⟩ := asL_ok r h rfl
    exact ⟨.base (.lst h1), by simp⟩
  | scr b =>
    cases e
    have h1 := rdw_flat rfl h
    unfold RD at h1
    obtain ⟨p, rfl, h1⟩ := h1
    refine ⟨?_, by simp⟩
    rcases h1 with ⟨_, o, h1⟩ | ⟨o, its, n, h1, h2, _⟩
    · exact .base (.frz h1)
    · exact .kList h1 h2
  | dct t b =>
    cases e
    obtain ⟨p, rfl, ro⟩ := asK_ok r h rfl
    exact ⟨dct ro, by simp⟩
  | ref l =>
    simp only [tyN] at e
    split at e
    · rename_i ds hs
      cases e
      obtain ⟨p, vs, rfl, h1, _⟩ := asL_ok r h (show asL st (.ref l) = some ds by simp [asL, hs])
      exact ⟨.base (.lst h1), by simp⟩
    · rename_i t ds hs
      cases e
      obtain ⟨p, rfl, ro⟩ := asK_ok r h (show asK st (.ref l) = some (t, ds) by simp [asK, hs])
      exact ⟨dct ro, by simp⟩
    · cases e
    · cases e
theorem isi_ok (S : Sd X T cl gl) {a : Expr} {ca : CE} {ty : String} {p1 p2 pos : Pos} {w : Bool} (hm : ty ∈ isiNames) (hg : gloB X.env.scope "isinstance" = true) (hg2 : gloB X.env.scope (Str.ofString ty) = true) (hn : okN (Str.ofString ty) = true) (hs : notStar a = true)
    (ha : PE X a (dE X.K (ev cl gl true ca) true false)) : PE X (.Call (.Name "isinstance" p1) [a, .Name (Str.ofString ty) p2] [] pos) (dE X.K (ev cl gl w (.isi ca ty)) w false) := by
  have mI : X.mg ("isinstance" : Str) = none := S.blt "isinstance" (by decide)
  have mT : X.mg (Str.ofString ty) = none ∧ bootBuiltins (Str.ofString ty) = some (.type ty) := by
    simp only [isiNames, List.mem_cons, List.not_mem_nil, or_false] at hm
    rcases hm with rfl | rfl | rfl | rfl | rfl | rfl
    · exact ⟨S.blt "int" (by decide), by decide +kernel⟩
    · exact ⟨S.blt "str" (by decide), by decide +kernel⟩
    · exact ⟨S.blt "list" (by decide), by decide +kernel⟩
    · exact ⟨S.blt "tuple" (by decide), by decide +kernel⟩
    · exact ⟨S.blt "bool" (by decide), by decide +kernel⟩
    · exact ⟨S.blt "dict" (by decide), by decide +kernel⟩
  refine (pe_callB call_isi (glo_of hg) mI (by decide +kernel) (pa_cons ha (pa_cons (pe_bltn (v := .ty ty) (glo_of hg2) mT.1 mT.2 rfl (okN_dbg hn).2.2 (okN_dbg hn).1) pa_nil) (star_ok hs)) (by decide) (by decide) (star_ok hs) rfl).imp fun σ H Q h => ?_
  obtain ⟨g, env, st, d, st', re, r, e, k⟩ := h
  simp only [ev] at e
  obtain ⟨x, s1, e1, e⟩ := Res.bind_eq e
  obtain ⟨b, s2, e2, e⟩ := Res.bind_eq e
  cases e
  cases hd : isTy s1 x ty with
  | none =>
    rw [hd] at e2
    cases e2
  | some b' =>
    rw [hd] at e2
    cases e2
    unfold isTy at hd
    simp only [Option.map_eq_some_iff] at hd
    obtain ⟨a0, h1, rfl⟩ := hd
    refine dE_go re r e1 fun g1 H1 v1 a1 r1 rd1 => ?_
    obtain ⟨h2, h3⟩ := tyN_ok r1 rd1 h1
    exact ⟨v1, .ty ty, _, _, _, rfl, .ty ty, h2, kit_ty (isT_ok a0 h3 ty hm), (k.shift a1).bl r1⟩
/-! ### d.get -/
theorem isD_ok {K : PySem.W.Frag} {g : G} {H : Hp} {t : Bool} {l : List (D × D)} {p : Addr} (ro : RO K g H (.dct t l) p) : IsD H p := by
  rcases ro with ⟨_, ks, h1, _⟩ | ⟨_, ks, h1, _⟩
  · exact .inl ⟨ks, .inl h1⟩
  · exact .inr ⟨ks, .inl h1⟩
theorem few_ok {env : PySem.Env} {cpos : Pos} : ∀ {es : List Expr}, es.all notStar = true → es.length < 20 →
    ((backTo cpos (starEach es env)).all (fun x => !x.1) && (backToKw cpos (keywordEach [] env)).all (fun x => x.1.isSome) && decide (es.length + ([] : List Keyword).length + (if ([] : List Keyword).isEmpty then 0 else 1) < 30)) = true := fun {es} h hl => by
  have h1 : (backTo cpos (starEach es env)).all (fun x => !x.1) = true := by
    clear hl
    induction es with
    | nil => rfl
    | cons a r ih =>
      rw [List.all_cons, Bool.and_eq_true] at h
      rw [star_ok h.1]
      show (true && (backTo cpos (starEach r env)).all (fun x => !x.1)) = true
      rw [ih h.2]
      rfl
  rw [h1]
  have h2 : decide (es.length + ([] : List Keyword).length + (if ([] : List Keyword).isEmpty then 0 else 1) < 30) = true := by
    apply decide_eq_true
    show es.length + 0 + 0 < 30
    omega
  rw [h2]
  rfl
theorem getD_ok {K : PySem.W.Frag} {g : G} {H : Hp} {o : Option V} {q : Option D} {y : D} {v : V} (h : RelOD K g H q o) (hy : RD K g H y v) : RD K g H (q.getD y) (o.getD v) := by
  cases q <;> cases o <;> first | exact hy | exact h | exact h.elim
theorem get1_ok (S : Sd X T cl gl) {o : Expr} {co : CE} {f : Expr → CE} {e : Expr} {apos cpos : Pos} {w : Bool} (hb : isNA o = true) (hl : apos.endLine = cpos.line) (ho : PE X o (dE X.K (ev cl gl true co) true false)) (hf : ∀ e, PE X e (dE X.K (ev cl gl false (f e)) false false)) :
    PE X (.Call (.Attribute o "get" apos) [e] [] cpos) (dE X.K (ev cl gl w (.mth "get" co (erEs f [e]))) w false) := by
  refine ⟨fun pins s σ H Q I h => ?_⟩
  obtain ⟨g, env, st, d, st', re, r, e0, k⟩ := h
  simp only [ev, erEs, evEs] at e0
  obtain ⟨y, s1, e1, e0⟩ := Res.bind_eq e0
  split at e0
  · rename_i hp
    obtain ⟨ds, s2, e2, e3⟩ := Res.bind_eq e0
    obtain ⟨z, s3, e4, e5⟩ := Res.bind_eq e2
    cases e5
    obtain ⟨hs, e4⟩ := ev_gd e4
    have hs : notStar e = true := hs
    refine (pe_dget1 (by have := S.hu; omega) ho (hf e) ⟨base_NA hb, few_ok (by simp [hs]) (by simp), by simp [hl], by rw [star_ok hs]; rfl⟩).run pins s σ H Q I (dE_go re r e1 fun g1 H1 v1 a1 r1 rd1 => ?_)
    simp only [mthP, Option.isSome_iff_exists] at hp
    obtain ⟨⟨t0, l0⟩, hp⟩ := hp
    obtain ⟨a, rfl, ro0⟩ := asK_ok r1 rd1 hp
    refine ⟨a, rfl, isD_ok ro0, dE_go (re.mono a1) r1 e4 fun g2 H2 v2 a2 r2 rd2 => ?_⟩
    cases hd : mthR "get" y [z] s2 with
    | none =>
      rw [hd] at e3
      cases e3
    | some d' =>
      rw [hd] at e3
      cases e3
      simp only [mthR] at hd
      split at hd
      · rename_i t l hk
        split at hd
        · rename_i hkey
          cases hd
          obtain ⟨p, e6, ro⟩ := asK_ok r2 (rd1.mono a2) hk
          cases e6
          obtain ⟨o, h2, h3⟩ := dget_ok ro rd2.ff hkey
          exact ⟨o, h2, (k.shift (a1.trans a2)) g2 H2 _ (.refl _ _) r2 (.inl (getD_ok h3 rd_non)) fun z => by cases z⟩
        · cases hd
      · cases hd
  · cases e0
theorem get2_ok (S : Sd X T cl gl) {o : Expr} {co : CE} {f : Expr → CE} {e e' : Expr} {apos cpos : Pos} {w : Bool} (hb : isNA o = true) (hl : apos.endLine = cpos.line) (ho : PE X o (dE X.K (ev cl gl true co) true false)) (hf : ∀ e, PE X e (dE X.K (ev cl gl false (f e)) false false)) :
    PE X (.Call (.Attribute o "get" apos) [e, e'] [] cpos) (dE X.K (ev cl gl w (.mth "get" co (erEs f [e, e']))) w false) := by
  refine ⟨fun pins s σ H Q I h => ?_⟩
  obtain ⟨g, env, st, d, st', re, r, e0, k⟩ := h
  simp only [ev, erEs, evEs] at e0
  obtain ⟨y, s1, e1, e0⟩ := Res.bind_eq e0
  split at e0
  · rename_i hp
    obtain ⟨ds, s2, e2, e3⟩ := Res.bind_eq e0
    obtain ⟨z, s3, e4, e2⟩ := Res.bind_eq e2
    obtain ⟨ds', s4, e5, e2⟩ := Res.bind_eq e2
    cases e2
    obtain ⟨u, s5, e6, e5⟩ := Res.bind_eq e5
    cases e5
    obtain ⟨hs, e4⟩ := ev_gd e4
    obtain ⟨hs', e6⟩ := ev_gd e6
    have hs : notStar e = true := hs
    have hs' : notStar e' = true := hs'
    refine (pe_dget2 (by have := S.hu; omega) ho (hf e) (hf e') ⟨base_NA hb, few_ok (by simp [hs, hs']) (by simp), by simp [hl], by rw [star_ok hs, star_ok hs']; rfl⟩).run pins s σ H Q I (dE_go re r e1 fun g1 H1 v1 a1 r1 rd1 => ?_)
    simp only [mthP, Option.isSome_iff_exists] at hp
    obtain ⟨⟨t0, l0⟩, hp⟩ := hp
    obtain ⟨a, rfl, ro0⟩ := asK_ok r1 rd1 hp
    refine ⟨a, rfl, isD_ok ro0, dE_go (re.mono a1) r1 e4 fun g2 H2 v2 a2 r2 rd2 => ?_⟩
    refine dE_go ((re.mono a1).mono a2) r2 e6 fun g3 H3 v3 a3 r3 rd3 => ?_
    cases hd : mthR "get" y [z, u] s2 with
    | none =>
      rw [hd] at e3
      cases e3
    | some d' =>
      rw [hd] at e3
      cases e3
      simp only [mthR] at hd
      split at hd
      · rename_i t l hk
        split at hd
        · rename_i hkey
          cases hd
          obtain ⟨p, e7, ro⟩ := asK_ok r3 ((rd1.mono a2).mono a3) hk
          cases e7
          obtain ⟨o, h2, h3⟩ := dget_ok ro (rd2.mono a3).ff hkey
          exact ⟨o, h2, (k.shift ((a1.trans a2).trans a3)) g3 H3 _ (.refl _ _) r3 (.inl (getD_ok h3 rd3.ff)) fun z => by cases z⟩
        · cases hd
      · cases hd
  · cases e0
/-! ### methods that change a list -/
structure MtRule (X : Cx) (m : String) (id : String) (r : V → List V → Hp → VK → Prop) : Prop where
  slot : Slot "list" (Str.ofString m) id
  ty : typeOf (.builtin id) = pure (.type "method_descriptor")
  mt : MtR X id r
  ok : ∀ (l ds : List D) (st : Store) (d : D) (l' : List D), mthW m l ds st = some (d, l') → ∀ (g : G) (H : Hp) (p : Addr) (vs args : List V) (Q : VK), H p = some (.lst vs) → RDs X.K g H l vs → RDs X.K g H ds args → Rel X.K g H st →
    (∀ v vs', RD X.K g H d v → RDs X.K g H l' vs' → Q v (upd H p (.lst vs'))) → r (.ref p) args H Q
theorem rds1 {K : PySem.W.Frag} {g : G} {H : Hp} {d : D} {vs : List V} (h : RDs K g H [d] vs) : ∃ v, vs = [v] ∧ RD K g H d v := by
  unfold RDs at h
  obtain ⟨v, r, rfl, h1, h2⟩ := h
  unfold RDs at h2
  exact ⟨v, by rw [h2], h1⟩
theorem rds0 {K : PySem.W.Frag} {g : G} {H : Hp} {vs : List V} (h : RDs K g H [] vs) : vs = [] := by
  unfold RDs at h
  exact h
theorem mt_rule (m : String) (hm : m ∈ mutNames) : ∃ id r, MtRule X m id r := by
  simp only [mutNames, List.mem_cons, List.not_mem_nil, or_false] at hm
  rcases hm with rfl | rfl | rfl | rfl | rfl | rfl
  · refine ⟨_, _, PySem.F.slot_list_append, PySem.F.type_list_append, mt_append, fun l ds st d l' e g H p vs args Q h1 h2 h3 r k => ?_⟩
    unfold mthW at e
    split at e <;> simp_all only [String.reduceEq, reduceCtorEq] <;> try cases e
    split at e
    · rename_i hz
      cases e
      obtain ⟨v, rfl, h4⟩ := rds1 h3
      exact ⟨p, vs, v, rfl, rfl, h1, by rw [h2.length]; exact hz, k _ _ rd_non (h2.append (.one h4))⟩
    · cases e
  · refine ⟨_, _, PySem.F.slot_list_extend, PySem.F.type_list_extend, mt_extend, fun l ds st d l' e g H p vs args Q h1 h2 h3 r k => ?_⟩
    unfold mthW at e
    split at e <;> simp_all only [String.reduceEq, reduceCtorEq] <;> try cases e
    split at e
    · rename_i q hq
      split at e
      · rename_i hz
        cases e
        obtain ⟨v, rfl, h4⟩ := rds1 h3
        obtain ⟨b, zs, rfl, h5, h6⟩ := asL_ok r (.inl h4) hq
        exact ⟨p, b, vs, zs, rfl, rfl, h1, h5, by rw [h2.length, h6.length]; exact hz, k _ _ rd_non (h2.append h6)⟩
      · cases e
    · cases e
  · refine ⟨_, fun x vs H Q => rPop x vs H Q ∨ rPopAt x vs H Q, PySem.F.slot_list_pop, PySem.F.type_list_pop, fun pins s σ H x xs v us Q I rx rv h => ?_, fun l ds st d l' e g H p vs args Q h1 h2 h3 r k => ?_⟩
    · rcases h with h | h
      · exact mt_pop pins s σ H x xs v us Q I rx rv h
      · exact mt_popAt pins s σ H x xs v us Q I rx rv h
    · unfold mthW at e
      split at e <;> simp_all only [String.reduceEq, reduceCtorEq] <;> try cases e
      · split at e
        · rename_i y hy
          cases e
          obtain rfl := rds0 h3
          obtain ⟨v, h4, h5⟩ := h2.get hy
          exact .inl ⟨p, vs, v, rfl, rfl, h1, by rw [h2.length]; exact h4, k _ _ h5 h2.dropLast⟩
        · cases e
      · split at e
        · rename_i kk hk
          split at e
          · rename_i y hy
            split at e
            · rename_i hz
              cases e
              obtain ⟨v0, rfl, h4⟩ := rds1 h3
              unfold RD at h4
              subst h4
              obtain ⟨v, h5, h6⟩ := h2.get hy
              exact .inr ⟨p, vs, _, kk, v, rfl, rfl, h1, hz.1, hz.2, by rw [h2.length]; exact (ixN_seq hk).1, h5, k _ _ h6 (h2.eraseIdx kk)⟩
            · cases e
          · cases e
        · cases e
  · refine ⟨_, _, PySem.F.slot_list_reverse, PySem.F.type_list_reverse, mt_reverse, fun l ds st d l' e g H p vs args Q h1 h2 h3 r k => ?_⟩
    unfold mthW at e
    split at e <;> simp_all only [String.reduceEq, reduceCtorEq] <;> try cases e
    obtain rfl := rds0 h3
    exact ⟨p, vs, rfl, rfl, h1, k _ _ rd_non h2.reverse⟩
  · refine ⟨_, _, PySem.F.slot_list_clear, PySem.F.type_list_clear, mt_clear, fun l ds st d l' e g H p vs args Q h1 h2 h3 r k => ?_⟩
    unfold mthW at e
    split at e <;> simp_all only [String.reduceEq, reduceCtorEq] <;> try cases e
    obtain rfl := rds0 h3
    exact ⟨p, vs, rfl, rfl, h1, k _ _ rd_non .nil⟩
  · refine ⟨_, _, PySem.F.slot_list_insert, PySem.F.type_list_insert, mt_insert, fun l ds st d l' e g H p vs args Q h1 h2 h3 r k => ?_⟩
    unfold mthW at e
    split at e <;> simp_all only [String.reduceEq, reduceCtorEq] <;> try cases e
    split at e
    · rename_i hz
      cases e
      unfold RDs at h3
      obtain ⟨v0, r0, rfl, h4, h3⟩ := h3
      obtain ⟨v, rfl, h5⟩ := rds1 h3
      unfold RD at h4
      subst h4
      exact ⟨p, vs, _, v, rfl, rfl, h1, by rw [h2.length]; exact hz.1, hz.2.1, hz.2.2, k _ _ rd_non (((h2.take _).append (.one h5)).append (h2.drop _))⟩
    · cases e
theorem index_v {K : PySem.W.Frag} {g : G} {H : Hp} {l : List D} {vs : List V} {y : D} {vy : V} {j : Nat} (h : RDs K g H l vs) (hy : RD K g H y vy) (fy : flatD y = true) (fl : l.all flatD = true) (e : (l.findIdx? fun z => eqF z y) = some j) :
    ∃ z, vs[j]? = some z ∧ eqV z vy = true ∧ ∀ (m : Nat) (z' : V), m < j → vs[m]? = some z' → eqV z' vy = false := by
  obtain ⟨hj, h1, h2⟩ := List.findIdx?_eq_some_iff_getElem.mp e
  have fa : ∀ (i : Nat) (hi : i < l.length), flatD l[i] = true := fun i hi => List.all_eq_true.mp fl _ (List.getElem_mem hi)
  obtain ⟨z, e1, e2⟩ := h.get (List.getElem?_eq_getElem hj)
  refine ⟨z, e1, by rw [eq_v e2 hy (fa j hj) fy]; exact h1, fun m z' hm e3 => ?_⟩
  have hml : m < l.length := by omega
  obtain ⟨u, e4, e5⟩ := h.get (List.getElem?_eq_getElem hml)
  rw [e4] at e3
  cases e3
  rw [eq_v e5 hy (fa m hml) fy]
  exact Bool.eq_false_iff.mpr (h2 m hm)
theorem index_ok (S : Sd X T cl gl) {x : Str} {co : CE} {f : Expr → CE} {e : Expr} {p apos cpos : Pos} {w : Bool} (hl : apos.endLine = cpos.line) (ho : PE X (.Name x p) (dE X.K (ev cl gl true co) true false)) (hf : ∀ e, PE X e (dE X.K (ev cl gl false (f e)) false false)) :
    PE X (.Call (.Attribute (.Name x p) (Str.ofString "index") apos) [e] [] cpos) (dE X.K (ev cl gl w (.mth "index" co (erEs f [e]))) w false) := by
  refine ⟨fun pins s σ H Q I h => ?_⟩
  obtain ⟨g, env, st, d, st', re, r, e0, k⟩ := h
  simp only [ev] at e0
  obtain ⟨y, s1, e1, e0⟩ := Res.bind_eq e0
  split at e0
  · rename_i hp
    obtain ⟨ds, s2, e2, e3⟩ := Res.bind_eq e0
    obtain ⟨hd, rfl⟩ := ofO_eq e3
    have pl := evEs_plain e2
    have pl2 := pl
    rw [List.all_cons, Bool.and_eq_true] at pl
    refine (pe_bm PySem.F.plainAttrs_list PySem.F.slot_list_index PySem.F.type_list_index mt_index ho (pa_ok hf [e]) rfl (few_ok pl2 (by simp)) (by simp [hl]) (star_ok pl.1) (plain_any (e := e) pl.2)).run pins s σ H Q I (dE_go re r e1 fun g1 H1 v1 a1 r1 rd1 => ?_)
    simp only [mthP, Option.isSome_iff_exists] at hp
    obtain ⟨l0, hp⟩ := hp
    obtain ⟨a, vs0, rfl, h1, _⟩ := asL_ok r1 rd1 hp
    refine ⟨.inl ⟨rfl, _, .inl (.inl h1)⟩, dA_go (re.mono a1) r1 e2 fun g2 H2 args a2 r2 rd2 => ?_⟩
    have h3 := rd2.ds
    cases ds with
    | nil => simp [mthR] at hd
    | cons z q =>
      cases q with
      | cons _ _ => simp [mthR] at hd
      | nil =>
        simp only [mthR] at hd
        split at hd
        · rename_i l hk
          split at hd
          · rename_i hfl
            obtain ⟨j, hj, rfl⟩ := Option.map_eq_some_iff.mp hd
            obtain ⟨v, rfl, h4⟩ := rds1 h3
            obtain ⟨a', vs, e6, h5, h6⟩ := asL_ok r2 (rd1.mono a2) hk
            cases e6
            obtain ⟨zz, z1, z2, z3⟩ := index_v h6 h4 hfl.1 hfl.2 hj
            exact ⟨a, vs, v, j, zz, rfl, rfl, SqL.of h5, flat_v h4 hfl.1, flats_v h6 hfl.2, z1, z2, z3, (k.shift (a1.trans a2)) g2 H2 _ (.refl _ _) r2 (.inl (by unfold RD; rfl)) fun z => by cases z⟩
          · cases hd
        · cases hd
  · cases e0
/-! ### list.count, flat items -/
def rCntF (K : PySem.W.Frag) : V → List V → Hp → VK → Prop := fun x xs H Q => ∃ (a : Addr) (ys : List V) (y : V), x = V.ref a ∧ xs = [y] ∧ SqL K H a ys ∧ flatV y = true ∧ ys.all flatV = true ∧ Q (.int (ys.countP fun z => eqV z y : Nat)) H
theorem cnt_eqU {x : V} : ∀ {xs : List V} {us : List Value}, Vals xs us → xs.all flatV = true → us.countP (eqU x) = xs.countP fun y => eqV y x := by
  intro xs us h
  induction h with
  | nil => intro _; rfl
  | cons r t ih =>
    intro f
    rw [List.all_cons, Bool.and_eq_true] at f
    rw [List.countP_cons, List.countP_cons, eqU_of r f.1, ih f.2]
theorem mt_cntF {X : Cx} : MtR X "list.count" (rCntF X.K) := by
  intro pins s σ H x xs v us Q I rx rxs h
  obtain ⟨a, ys, y, rfl, rfl, hs, fy, fys, q⟩ := h
  cases rx
  cases rxs with
  | cons ry rt =>
    rename_i uy ut
    cases rt
    obtain ⟨its, rv, ⟨⟨cls, dd, data, sl⟩, n, ho, hc, hdn, hd⟩, hlen⟩ := I.list hs
    simp only at hc hd
    subst hc hd
    refine call_meets PySem.F.slot_list_count ⟨_, ho, rfl⟩ PySem.F.entry_list_count (PySem.F.args_list_count_2 _ _)
      (SeqAt.list_countAt a its.toArray n dd sl uy (eqU y)) ⟨ho, fun u' hu' => mem_eqAt ry fy rv fys u' (by simpa using hu'), ?_⟩
    refine ⟨.int _, H, I.tok _, ⟨s.toks, ?_⟩, q⟩
    show Value.int ((its.toArray.toList.countP (eqU y) : Nat) : Int) s.toks = Value.int ((ys.countP fun z => eqV z y : Nat) : Int) s.toks
    rw [show its.toArray.toList = its by simp, cnt_eqU rv fys]
theorem cnt_v {K : PySem.W.Frag} {g : G} {H : Hp} {y : D} {vy : V} (hy : RD K g H y vy) (fy : flatD y = true) : ∀ {ds : List D} {vs : List V}, RDs K g H ds vs → ds.all flatD = true → (vs.countP fun z => eqV z vy) = ds.countP fun z => eqF z y
  | [], vs, h, _ => by
    unfold RDs at h
    subst h
    rfl
  | d :: ds, vs, h, f => by
    unfold RDs at h
    obtain ⟨v, q, rfl, h1, h2⟩ := h
    rw [List.all_cons, Bool.and_eq_true] at f
    rw [List.countP_cons, List.countP_cons, eq_v h1 hy f.1 fy, cnt_v hy fy h2 f.2]
theorem count_ok (S : Sd X T cl gl) {x : Str} {co : CE} {f : Expr → CE} {e : Expr} {p apos cpos : Pos} {w : Bool} (hl : apos.endLine = cpos.line) (ho : PE X (.Name x p) (dE X.K (ev cl gl true co) true false)) (hf : ∀ e, PE X e (dE X.K (ev cl gl false (f e)) false false)) :
    PE X (.Call (.Attribute (.Name x p) (Str.ofString "count") apos) [e] [] cpos) (dE X.K (ev cl gl w (.mth "count" co (erEs f [e]))) w false) := by
  refine ⟨fun pins s σ H Q I h => ?_⟩
  obtain ⟨g, env, st, d, st', re, r, e0, k⟩ := h
  simp only [ev] at e0
  obtain ⟨y, s1, e1, e0⟩ := Res.bind_eq e0
  split at e0
  · rename_i hp
    obtain ⟨ds, s2, e2, e3⟩ := Res.bind_eq e0
    obtain ⟨hd, rfl⟩ := ofO_eq e3
    have pl := evEs_plain e2
    have pl2 := pl
    rw [List.all_cons, Bool.and_eq_true] at pl
    refine (pe_bm PySem.F.plainAttrs_list PySem.F.slot_list_count PySem.F.type_list_count mt_cntF ho (pa_ok hf [e]) rfl (few_ok pl2 (by simp)) (by simp [hl]) (star_ok pl.1) (plain_any (e := e) pl.2)).run pins s σ H Q I (dE_go re r e1 fun g1 H1 v1 a1 r1 rd1 => ?_)
    simp only [mthP, Option.isSome_iff_exists] at hp
    obtain ⟨l0, hp⟩ := hp
    obtain ⟨a, vs0, rfl, h1, _⟩ := asL_ok r1 rd1 hp
    refine ⟨.inl ⟨rfl, _, .inl (.inl h1)⟩, dA_go (re.mono a1) r1 e2 fun g2 H2 args a2 r2 rd2 => ?_⟩
    have h3 := rd2.ds
    cases ds with
    | nil => simp [mthR] at hd
    | cons z q =>
      cases q with
      | cons _ _ => simp [mthR] at hd
      | nil =>
        simp only [mthR] at hd
        split at hd
        · rename_i l hk
          split at hd
          · rename_i hfl
            cases hd
            obtain ⟨v, rfl, h4⟩ := rds1 h3
            obtain ⟨a', vs, e6, h5, h6⟩ := asL_ok r2 (rd1.mono a2) hk
            cases e6
            have ec := cnt_v h4 hfl.1 h6 hfl.2
            refine ⟨a, vs, v, rfl, rfl, SqL.of h5, flat_v h4 hfl.1, flats_v h6 hfl.2, ?_⟩
            rw [ec]
            exact (k.shift (a1.trans a2)) g2 H2 _ (.refl _ _) r2 (.inl (by unfold RD; rfl)) fun z => by cases z
          · cases hd
        · cases hd
  · cases e0
/-- x.m(..), x a local: from a heap where x's list stands -/
def tMut (K : PySem.W.Frag) (i : Nat) (m : String) (fa : Env → Store → Res (List D)) : TE := fun σ H Q => ∃ g env st ds s1 p vs0 l d l', RE K g H env σ ∧ Rel K g H st ∧ σ[i]? = some (some (.ref p)) ∧ H p = some (.lst vs0) ∧ fa env st = .ok ds s1 ∧ mthW m l ds s1 = some (d, l') ∧
  ∀ g1 H1, Le g H g1 H1 → Rel K g1 H1 s1 → ∃ vs, H1 p = some (.lst vs) ∧ RDs K g1 H1 l vs ∧ ∀ v vs', RD K g1 H1 d v → RDs K g1 H1 l' vs' → Q v (upd H1 p (.lst vs'))
theorem mutE_ok {x : Str} {m : String} {f : Expr → CE} {es : List Expr} {p apos cpos : Pos} (hm : m ∈ mutNames) (hl : apos.endLine = cpos.line) (hx : okN x = true) (hv : visB X.env.scope x = true) (hN : X.N[ixOf T.N x]? = some x) (hz : es.length < 20) (hf : ∀ e, PE X e (dE X.K (ev cl gl false (f e)) false false)) :
    PE X (.Call (.Attribute (.Name x p) (Str.ofString m) apos) es [] cpos) (tMut X.K (ixOf T.N x) m (evEs cl gl false (erEs f es))) := by
  obtain ⟨id, r, R⟩ := mt_rule (X := X) m hm
  obtain ⟨x1, x2, x3⟩ := okN_dbg hx
  have ho : PE X (.Name x p) (tVar (ixOf T.N x)) := pe_var hN (vis_of hv) x1 x2
  refine ⟨fun pins s σ H Q I h => ?_⟩
  obtain ⟨g, env, st, ds, s1, a, vs0, l, d, l', re, rr, e1, e2, e3, e4, k⟩ := h
  cases es with
  | nil =>
    simp only [erEs, evEs] at e3
    cases e3
    refine (pe_bm0 PySem.F.plainAttrs_list R.slot R.ty R.mt ho rfl (by simp [hl])).run pins s σ H Q I ⟨_, e1, .inl ⟨rfl, _, .inl (.inl e2)⟩, ?_⟩
    obtain ⟨vs, h1, h2, k⟩ := k g H (.refl g H) rr
    exact R.ok l [] _ d l' e4 g H a vs [] Q h1 h2 RDs.nil rr k
  | cons e es =>
    have pl := evEs_plain e3
    have pl2 := pl
    rw [List.all_cons, Bool.and_eq_true] at pl
    refine (pe_bm PySem.F.plainAttrs_list R.slot R.ty R.mt ho (pa_ok hf (e :: es)) rfl (few_ok pl2 hz) (by simp [hl]) (star_ok pl.1) (plain_any (e := e) pl.2)).run pins s σ H Q I ⟨_, e1, .inl ⟨rfl, _, .inl (.inl e2)⟩, ?_⟩
    refine dA_go re rr e3 fun g1 H1 args a1 r1 rd1 => ?_
    obtain ⟨vs, h1, h2, k⟩ := k g1 H1 a1 r1
    exact R.ok l ds s1 d l' e4 g1 H1 a vs args Q h1 h2 rd1.ds r1 k
end
end Ev
/-! Ev10: what is walked -/
namespace Ev
open PySem L2 PySem.Spec PyProof.Rows
/-- the iterator J walks the items xs as long as ck holds -/
def ItOk (K : PySem.W.Frag) (J : It) (xs : List D) (ck : Chk) (g1 : G) (H1 : Hp) : Prop :=
  ∀ (g2 : G) (H2 : Hp) (st2 : Store), LeN g1 H1 g2 H2 → (ck.isOw = true → Le g1 H1 g2 H2) → Rel K g2 H2 st2 → ck.ok st2 = true →
    J.stop xs.length H2 ∧ ∀ (i : Nat) (d : D), xs[i]? = some d → J.go i H2 ∧ ∀ x H3, J.yld i H2 x H3 → Le g2 H2 g2 H3 ∧ Rel K g2 H3 st2 ∧ RD K g2 H3 d x
/-- a list that stays as it is -/
def StL (K : PySem.W.Frag) (a : Addr) (xs : List D) (ck : Chk) (g1 : G) (H1 : Hp) : Prop :=
  ∀ (g2 : G) (H2 : Hp) (st2 : Store), LeN g1 H1 g2 H2 → (ck.isOw = true → Le g1 H1 g2 H2) → Rel K g2 H2 st2 → ck.ok st2 = true → ∃ vs, SqL K H2 a vs ∧ RDs K g2 H2 xs vs
section
variable {K : PySem.W.Frag} {a b : Addr} {xs ys : List D} {ck : Chk} {g1 : G} {H1 : Hp}
theorem SqL.eq {H : Hp} {vs ws : List V} (h : SqL K H a vs) (h2 : SqL K H a ws) (hn : True) : vs.length = vs.length := rfl
theorem itl_ok (h : StL K a xs ck g1 H1) : ItOk K (Itl K a) xs ck g1 H1 := fun g2 H2 st2 l1 l2 r hc => by
  obtain ⟨vs, h1, h2⟩ := h g2 H2 st2 l1 l2 r hc
  refine ⟨⟨vs, h1, Nat.le_of_eq h2.length⟩, fun i d hd => ?_⟩
  obtain ⟨v, h3, h4⟩ := h2.get hd
  refine ⟨⟨vs, v, h1, h3⟩, fun x H3 hy => ?_⟩
  obtain ⟨rfl, fx⟩ := hy
  have e : v = x := Option.some.inj (h3.symm.trans (fx vs h1))
  subst e
  exact ⟨.refl _ _, r, h4⟩
theorem itt_ok (h : ∀ (g2 : G) (H2 : Hp) (st2 : Store), LeN g1 H1 g2 H2 → Rel K g2 H2 st2 → ∃ vs, SqT K H2 a vs ∧ RDs K g2 H2 xs vs) : ItOk K (Itt K a) xs .no g1 H1 := fun g2 H2 st2 l1 l2 r hc => by
  obtain ⟨vs, h1, h2⟩ := h g2 H2 st2 l1 r
  refine ⟨⟨vs, h1, Nat.le_of_eq h2.length⟩, fun i d hd => ?_⟩
  obtain ⟨v, h3, h4⟩ := h2.get hd
  refine ⟨⟨vs, v, h1, h3⟩, fun x H3 hy => ?_⟩
  obtain ⟨rfl, fx⟩ := hy
  have e : v = x := Option.some.inj (h3.symm.trans (fx vs h1))
  subst e
  exact ⟨.refl _ _, r, h4⟩
theorem rd_pair {g : G} {H : Hp} {st : Store} {d e : D} {v u : V} {t : Addr} (r : Rel K g H st) (h1 : RD K g H d v) (h2 : RD K g H e u) (ht : H t = none) : Le g H g (upd H t (.tup [v, u])) ∧ Rel K g (upd H t (.tup [v, u])) st ∧ RD K g (upd H t (.tup [v, u])) (.tup [d, e]) (.ref t) := by
  have a := le_new (o := .tup [v, u]) ht r.trk
  refine ⟨a, r.new ht, ?_⟩
  unfold RD
  exact ⟨t, _, rfl, r.nb ht, upd_same, .cons (RD.mono a.toLeN _ _ h1) (.one (RD.mono a.toLeN _ _ h2))⟩
theorem enumL_get : ∀ {xs : List D} {j i : Nat} {d : D}, (enumL j xs)[i]? = some d → ∃ x, xs[i]? = some x ∧ d = .tup [.int ((j + i : Nat) : Int), x]
  | [], _, _, _, h => by simp [enumL] at h
  | x :: r, j, 0, d, h => by
    simp [enumL] at h
    exact ⟨x, rfl, h.symm⟩
  | x :: r, j, i + 1, d, h => by
    simp only [enumL, List.getElem?_cons_succ] at h
    obtain ⟨y, h1, h2⟩ := enumL_get (xs := r) (j := j + 1) (i := i) h
    exact ⟨y, by simpa using h1, by rw [h2, show j + 1 + i = j + (i + 1) by omega]⟩
theorem enumL_len : ∀ {xs : List D} {j : Nat}, (enumL j xs).length = xs.length
  | [], _ => rfl
  | x :: r, j => by
    show (enumL (j + 1) r).length + 1 = r.length + 1
    rw [enumL_len]
theorem ite_ok (h : StL K a xs ck g1 H1) : ItOk K (Ite K a) (enumL 0 xs) ck g1 H1 := fun g2 H2 st2 l1 l2 r hc => by
  obtain ⟨vs, h1, h2⟩ := h g2 H2 st2 l1 l2 r hc
  refine ⟨⟨vs, h1, by rw [enumL_len]; exact Nat.le_of_eq h2.length⟩, fun i d hd => ?_⟩
  obtain ⟨x0, hx0, rfl⟩ := enumL_get hd
  obtain ⟨v, h3, h4⟩ := h2.get hx0
  refine ⟨⟨vs, v, h1, h3⟩, fun x H3 hy => ?_⟩
  obtain ⟨t, y, rfl, ht, rfl, fx⟩ := hy
  have e : v = y := Option.some.inj (h3.symm.trans (fx vs h1))
  subst e
  rw [show 0 + i = i by omega]
  exact rd_pair r rd_int h4 ht
theorem zipL_get : ∀ {xs ys : List D} {i : Nat} {d : D}, (zipL xs ys)[i]? = some d → ∃ x y, xs[i]? = some x ∧ ys[i]? = some y ∧ d = .tup [x, y]
  | [], ys, _, _, h => by simp [zipL] at h
  | x :: r, [], _, _, h => by simp [zipL] at h
  | x :: r, y :: q, 0, d, h => by
    simp [zipL] at h
    exact ⟨x, y, rfl, rfl, h.symm⟩
  | x :: r, y :: q, i + 1, d, h => by
    simp only [zipL, List.getElem?_cons_succ] at h
    obtain ⟨x', y', h1, h2, h3⟩ := zipL_get (xs := r) (ys := q) (i := i) h
    exact ⟨x', y', by simpa using h1, by simpa using h2, h3⟩
theorem zipL_len : ∀ {xs ys : List D}, xs.length ≤ (zipL xs ys).length ∨ ys.length ≤ (zipL xs ys).length
  | [], _ => .inl (Nat.le_refl _)
  | x :: r, [] => .inr (Nat.zero_le _)
  | x :: r, y :: q => by
    rcases zipL_len (xs := r) (ys := q) with h | h
    · exact .inl (Nat.succ_le_succ h)
    · exact .inr (Nat.succ_le_succ h)
theorem itz_ok (h : StL K a xs .no g1 H1) (h' : StL K b ys .no g1 H1) : ItOk K (Itz K a b) (zipL xs ys) .no g1 H1 := fun g2 H2 st2 l1 l2 r hc => by
  obtain ⟨vs, h1, h2⟩ := h g2 H2 st2 l1 l2 r hc
  obtain ⟨ws, h1', h2'⟩ := h' g2 H2 st2 l1 l2 r hc
  refine ⟨⟨vs, ws, h1, h1', ?_⟩, fun i d hd => ?_⟩
  · rcases zipL_len (xs := xs) (ys := ys) with z | z
    · exact .inl (by rw [h2.length]; exact z)
    · exact .inr (by rw [h2'.length]; exact z)
  · obtain ⟨x0, y0, hx0, hy0, rfl⟩ := zipL_get hd
    obtain ⟨v, h3, h4⟩ := h2.get hx0
    obtain ⟨u, h3', h4'⟩ := h2'.get hy0
    refine ⟨⟨vs, ws, v, u, h1, h1', h3, h3'⟩, fun x H3 hy => ?_⟩
    obtain ⟨t, y, y', rfl, ht, rfl, fx, fy⟩ := hy
    have e : v = y := Option.some.inj (h3.symm.trans (fx vs h1))
    have e' : u = y' := Option.some.inj (h3'.symm.trans (fy ws h1'))
    subst e e'
    exact rd_pair r h4 h4' ht
theorem itr_ok {lo : Int} {n : Nat} : ItOk K (Itr lo n) (rngL lo n) .no g1 H1 := fun g2 H2 st2 _ _ r _ => by
  refine ⟨by show n ≤ (rngL lo n).length; simp [rngL], fun i d hd => ?_⟩
  simp only [rngL, List.getElem?_map, Option.map_eq_some_iff] at hd
  obtain ⟨j, hj, rfl⟩ := hd
  obtain ⟨h1, h2⟩ := List.getElem?_eq_some_iff.mp hj
  simp at h1 h2
  subst h2
  refine ⟨h1, fun x H3 hy => ?_⟩
  obtain ⟨rfl, rfl⟩ := hy
  exact ⟨.refl _ _, r, rd_int⟩
theorem itc_ok {lo : Int} {n : Nat} : ItOk K (Itc lo (-1) n) (rngDn lo n) .no g1 H1 := fun g2 H2 st2 _ _ r _ => by
  refine ⟨by show n ≤ (rngDn lo n).length; simp [rngDn], fun i d hd => ?_⟩
  simp only [rngDn, List.getElem?_map, Option.map_eq_some_iff] at hd
  obtain ⟨j, hj, rfl⟩ := hd
  obtain ⟨h1, h2⟩ := List.getElem?_eq_some_iff.mp hj
  simp at h1 h2
  subst h2
  refine ⟨h1, fun x H3 hy => ?_⟩
  obtain ⟨rfl, rfl⟩ := hy
  refine ⟨.refl _ _, r, ?_⟩
  rw [show lo + ((i : Nat) : Int) * -1 = lo - ((i : Nat) : Int) by omega]
  exact rd_int
theorem its_ok {s : Str} : ItOk K (Its s) (strL s) .no g1 H1 := fun g2 H2 st2 _ _ r _ => by
  refine ⟨by show s.cps.size ≤ (strL s).length; simp [strL], fun i d hd => ?_⟩
  simp only [strL, List.getElem?_map, Option.map_eq_some_iff] at hd
  obtain ⟨c, hc, rfl⟩ := hd
  have hc2 : s.cps[i]? = some c := by simpa using hc
  refine ⟨by show i < s.cps.size; exact (Array.getElem?_eq_some_iff.mp hc2).1, fun x H3 hy => ?_⟩
  obtain ⟨rfl, c', h3, rfl⟩ := hy
  rw [hc2] at h3
  cases h3
  exact ⟨.refl _ _, r, rd_str⟩
/-- what an evaluated thing is walked as -/
theorem seq_st {g : G} {H : Hp} {st : Store} {x : D} {vx : V} {p : List D × Chk} (r : Rel K g H st) (h : RD K g H x vx) (e : seqI x st = some p) (hs : ∀ s, x ≠ .str s) (ht : ∀ l, x ≠ .tup l) : ∃ a, vx = .ref a ∧ StL K a p.1 p.2 g H := by
  cases x with
  | lst l =>
    cases e
    have h0 := h
    unfold RD at h
    obtain ⟨a, vs, rfl, _, _, _⟩ := h
    refine ⟨a, rfl, fun g2 H2 st2 l1 _ _ _ => ?_⟩
    have h2 := RD.mono l1 _ _ h0
    unfold RD at h2
    obtain ⟨a', vs', e, _, h3, h4⟩ := h2
    cases e
    exact ⟨vs', SqL.of h3, h4⟩
  | scr l =>
    cases e
    have h0 := h
    unfold RD at h
    obtain ⟨a, rfl, _⟩ := h
    refine ⟨a, rfl, fun g2 H2 st2 l1 _ r2 _ => ?_⟩
    have h2 := RD.mono l1 _ _ h0
    obtain ⟨p, vs, e, h3, h4⟩ := asR_ok (vx := .ref a) r2 (.inl h2) (show asR st2 (.scr l) = some (l.map .int) from rfl)
    cases e
    exact ⟨vs, h3, h4⟩
  | ref l =>
    simp only [seqI] at e
    split at e
    · rename_i ds hs'
      cases e
      unfold RD at h
      obtain ⟨a, rfl, ha⟩ := h
      refine ⟨a, rfl, fun g2 H2 st2 l1 _ r2 hc => ?_⟩
      simp only [Chk.ok] at hc
      split at hc
      · rename_i q hq
        have := D.sames_eq _ _ hc
        subst this
        obtain ⟨vs, h3, h4⟩ := r2.obj l a _ (l1.get ha) hq
        exact ⟨vs, SqL.of h3, h4⟩
      · cases hc
    · cases e
  | str s => exact absurd rfl (hs s)
  | tup l => exact absurd rfl (ht l)
  | _ => cases e
end
/-! ### iterables of the text -/
def dI (K : PySem.W.Frag) (f : Env → Store → Res (List D × Chk)) : TI := fun σ H R => ∃ g env st p st', RE K g H env σ ∧ Rel K g H st ∧ f env st = .ok p st' ∧ ∀ g1 H1 J, Le g H g1 H1 → Rel K g1 H1 st' → ItOk K J p.1 p.2 g1 H1 → R J H1
section
variable {X : Cx} {T : Tab} {cl : String → List D → Store → Res D} {gl : String → Option D}
theorem PI.imp {tg it : Expr} {t t' : TI} (h : PI X tg it t) (k : ∀ σ H R, t' σ H R → t σ H R) : PI X tg it t' := ⟨fun pins s σ H R I z => h.run pins s σ H R I (k σ H R z)⟩
theorem piBad {tg it : Expr} : PI X tg it (dI X.K (evI cl gl .bad)) := ⟨fun pins s σ H Q I h => by
  obtain ⟨g, env, st, p, st', _, _, e, _⟩ := h
  simp [evI] at e⟩
theorem seqI_ok {tg it : Expr} {c : CE} (h : PE X it (dE X.K (ev cl gl false c) false false)) : PI X tg it (dI X.K (evI cl gl (.seq c))) := by
  refine ⟨fun pins s σ H R I z => ?_⟩
  obtain ⟨g, env, st, p, st', re, r, e, k⟩ := z
  simp only [evI] at e
  obtain ⟨x, s1, e1, e⟩ := Res.bind_eq e
  cases hd : seqI x s1 with
  | none =>
    rw [hd] at e
    cases e
  | some p' =>
    rw [hd] at e
    cases e
    by_cases hs : ∃ z, x = .str z
    · obtain ⟨z, rfl⟩ := hs
      cases hd
      refine (pi_str h).run pins s σ H R I (dE_go re r e1 fun g1 H1 v1 a1 r1 rd1 => ?_)
      exact ⟨z, rdw_str rd1, k g1 H1 _ a1 r1 its_ok⟩
    · by_cases ht : ∃ l, x = .tup l
      · obtain ⟨l, rfl⟩ := ht
        cases hd
        refine (pi_tup h).run pins s σ H R I (dE_go re r e1 fun g1 H1 v1 a1 r1 rd1 => ?_)
        obtain ⟨a, vs, rfl, h1, h2⟩ := rdw_tup rd1
        refine ⟨a, rfl, ⟨vs, SqT.of h1⟩, k g1 H1 _ a1 r1 (itt_ok fun g2 H2 st2 l1 r2 => ?_)⟩
        obtain ⟨a', vs', e5, h3, h4⟩ := rdw_tup (w := false) (.inl (RD.mono l1 _ _ rd1.ff))
        cases e5
        exact ⟨vs', SqT.of h3, h4⟩
      · refine (pi_list h).run pins s σ H R I (dE_go re r e1 fun g1 H1 v1 a1 r1 rd1 => ?_)
        obtain ⟨a, rfl, sl⟩ := seq_st r1 rd1.ff hd (fun z e => hs ⟨z, e⟩) (fun z e => ht ⟨z, e⟩)
        have hc : p.2.ok st' = true := by
          cases x <;> simp only [seqI] at hd <;> (try cases hd) <;> (try rfl)
          split at hd
          · rename_i q hq
            cases hd
            simp [Chk.ok, hq, D.sames_refl]
          · cases hd
        have hw : p.2.isOw = true → Le g1 H1 g1 H1 := fun _ => .refl _ _
        obtain ⟨vs, h3, _⟩ := sl g1 H1 _ (.refl _ _) hw r1 hc
        exact ⟨a, rfl, ⟨vs, h3⟩, k g1 H1 _ a1 r1 (itl_ok sl)⟩
theorem ownI_ok (S : Sd X T cl gl) {x : Str} {p : Pos} {tg : Expr} (hx : okN x = true) (hv : visB X.env.scope x = true) (hN : inN T.N x = true) : PI X tg (.Name x p) (dI X.K (evI cl gl (.own (ixOf T.N x)))) := by
  obtain ⟨x1, x2, x3⟩ := okN_dbg hx
  have hN' : X.N[ixOf T.N x]? = some x := by
    rw [S.nN]
    exact of_decide_eq_true hN
  have hvar : erN T X.env.scope x = .var (ixOf T.N x) := by
    unfold erN
    rw [hx]
    show (match visB X.env.scope x && inN T.N x with
      | true => CE.var (ixOf T.N x)
      | false => _) = _
    rw [hv, hN]
    rfl
  have hs : PI X tg (.Name x p) (dI X.K (evI cl gl (.seq (.var (ixOf T.N x))))) := by
    have h := name_ok (w := false) (pos := p) S (x := x)
    rw [hvar] at h
    refine seqI_ok (h.imp fun σ H Q z => ?_)
    obtain ⟨g, env, st, d, st', re, r, e, k⟩ := z
    exact ⟨g, env, st, d, st', re, r, e, k.noFr⟩
  refine ⟨fun pins sh σ H R I z => ?_⟩
  obtain ⟨g, env, st, p, st', re, r, e, k⟩ := z
  have e0 := e
  simp only [evI] at e
  cases hd : viewI (ixOf T.N x) env st with
  | none =>
    rw [hd] at e
    cases e
  | some p' =>
    rw [hd] at e
    cases e
    unfold viewI at hd
    split at hd
    · rename_i l hl
      cases hd
      refine (pi_list (pe_var hN' (vis_of hv) x1 x2)).run pins sh σ H R I ?_
      obtain ⟨a, h1, ro, hb, hn⟩ := re.own _ _ hl
      obtain ⟨vs, h2, h3⟩ := ro
      refine ⟨.ref a, h1, a, rfl, ⟨vs, SqL.of h2⟩, k g H _ (.refl _ _) r (itl_ok fun g2 H2 st2 l1 l2 r2 _ => ?_)⟩
      have l2 := l2 rfl
      exact ⟨vs, SqL.of (l2.own a _ h2 hn).1, RDs.mono l1 _ _ h3⟩
    · rename_i d hl
      refine hs.run pins sh σ H R I ⟨g, env, st, p, st, re, r, ?_, k⟩
      simp only [evI, ev, varE, hl, ofO_some, Res.bind_ok, hd]
    · cases hd
theorem rng_ok (S : Sd X T cl gl) {f : Expr → CE} {tg : Expr} {x : Str} {args : List Expr} {p q : Pos} (hx : lk othNames x = some "range") (hg : gloB X.env.scope x = true) (hf : ∀ e, PE X e (dE X.K (ev cl gl false (f e)) false false)) (pl : args.all notStar = true) :
    (∀ a, args = [a] → PI X tg (.Call (.Name x p) [a] [] q) (dI X.K (evI cl gl (.rng1 (f a))))) ∧ (∀ a b, args = [a, b] → PI X tg (.Call (.Name x p) [a, b] [] q) (dI X.K (evI cl gl (.rng2 (f a) (f b))))) ∧
      ∀ a b k1 p1 p2, args = [a, b, .UnaryOp .USub (.Constant (.int 1) k1 p1) p2] → PI X tg (.Call (.Name x p) [a, b, .UnaryOp .USub (.Constant (.int 1) k1 p1) p2] [] q) (dI X.K (evI cl gl (.rngD (f a) (f b)))) := by
  obtain ⟨_, rfl⟩ := lk_some hx
  have mR : X.mg ("range" : Str) = none := S.blt "range" (by decide)
  refine ⟨fun a ha => ?_, fun a b ha => ?_, fun a b k1 p1 p2 ha => ?_⟩
  · subst ha
    simp at pl
    refine PI.imp (pi_range1 (glo_of hg) mR (pa_cons (hf a) pa_nil (star_ok pl)) (star_ok pl)) fun σ H R z => ?_
    obtain ⟨g, env, st, p, st', re, r, e, k⟩ := z
    simp only [evI] at e
    obtain ⟨v, s1, e1, e⟩ := Res.bind_eq e
    split at e
    · split at e
      · rename_i n hz
        cases e
        unfold in62 at hz
        rw [Bool.and_eq_true] at hz
        refine dE_go re r e1 fun g1 H1 v1 a1 r1 rd1 => ?_
        exact ⟨_, by rw [rdw_int rd1], of_decide_eq_true hz.1, of_decide_eq_true hz.2, k g1 H1 _ a1 r1 itr_ok⟩
      · cases e
    · cases e
  · subst ha
    simp at pl
    refine PI.imp (pi_range2 (glo_of hg) mR (pa_cons (hf a) (pa_cons (hf b) pa_nil (star_ok pl.2)) (star_ok pl.1)) (by rw [star_ok pl.1, star_ok pl.2]; rfl) (by rw [star_ok pl.2]; rfl)) fun σ H R z => ?_
    obtain ⟨g, env, st, p, st', re, r, e, k⟩ := z
    simp only [evI] at e
    obtain ⟨v, s1, e1, e⟩ := Res.bind_eq e
    obtain ⟨u, s2, e2, e⟩ := Res.bind_eq e
    split at e
    · split at e
      · rename_i m n hz
        cases e
        unfold in62 at hz
        rw [Bool.and_eq_true, Bool.and_eq_true] at hz
        refine dE_go re r e1 fun g1 H1 v1 a1 r1 rd1 => ?_
        refine dE_go (re.mono a1) r1 e2 fun g2 H2 v2 a2 r2 rd2 => ?_
        exact ⟨_, _, by rw [rdw_int rd1, rdw_int rd2], ⟨of_decide_eq_true hz.1.1, of_decide_eq_true hz.1.2, of_decide_eq_true hz.2.1, of_decide_eq_true hz.2.2⟩, k g2 H2 _ (a1.trans a2) r2 itr_ok⟩
      · cases e
    · cases e
  · subst ha
    simp [notStar] at pl
    refine PI.imp (pi_range3 (glo_of hg) mR (pa_cons (hf a) (pa_cons (hf b) (pa_cons (pe_un un_neg (pe_int)) pa_nil) (star_ok pl.2)) (star_ok pl.1)) (star_ok pl.1) (by rw [star_ok pl.2]; rfl)) fun σ H R z => ?_
    obtain ⟨g, env, st, p, st', re, r, e, k⟩ := z
    simp only [evI] at e
    obtain ⟨v, s1, e1, e⟩ := Res.bind_eq e
    obtain ⟨u, s2, e2, e⟩ := Res.bind_eq e
    split at e
    · split at e
      · rename_i m n hz
        cases e
        unfold in62 at hz
        rw [Bool.and_eq_true, Bool.and_eq_true] at hz
        refine dE_go re r e1 fun g1 H1 v1 a1 r1 rd1 => ?_
        refine dE_go (re.mono a1) r1 e2 fun g2 H2 v2 a2 r2 rd2 => ?_
        exact ⟨1, rfl, _, _, _, _, by rw [rdw_int rd1, rdw_int rd2], RgC.neg (of_decide_eq_true hz.1.1) (of_decide_eq_true hz.1.2) (of_decide_eq_true hz.2.1) (of_decide_eq_true hz.2.2), k g2 H2 _ (a1.trans a2) r2 itc_ok⟩
      · cases e
    · cases e
theorem enum_ok (S : Sd X T cl gl) {f : Expr → CE} {tg : Expr} {x : Str} {a : Expr} {p q : Pos} (hx : lk othNames x = some "enumerate") (hg : gloB X.env.scope x = true) (hf : ∀ e, PE X e (dE X.K (ev cl gl false (f e)) false false)) (pl : notStar a = true) (ht : isTup tg = true) :
    PI X tg (.Call (.Name x p) [a] [] q) (dI X.K (evI cl gl (.enum (f a)))) := by
  obtain ⟨_, rfl⟩ := lk_some hx
  have mR : X.mg ("enumerate" : Str) = none := S.blt "enumerate" (by decide)
  cases tg <;> simp [isTup] at ht
  refine PI.imp (pi_enum (glo_of hg) mR (pa_cons (hf a) pa_nil (star_ok pl)) (star_ok pl)) fun σ H R z => ?_
  obtain ⟨g, env, st, p, st', re, r, e, k⟩ := z
  simp only [evI] at e
  obtain ⟨v, s1, e1, e⟩ := Res.bind_eq e
  obtain ⟨pp, s2, e2, e⟩ := Res.bind_eq e
  cases hd : seqI v s1 with
  | none =>
    rw [hd] at e2
    cases e2
  | some p' =>
    rw [hd] at e2
    cases e2
    refine dE_go re r e1 fun g1 H1 v1 a1 r1 rd1 => ?_
    have hs : (∀ z, v ≠ .str z) ∧ (∀ l, v ≠ .tup l) ∧ p = (enumL 0 pp.1, pp.2) ∧ st' = s1 := by
      cases v <;> simp_all
    obtain ⟨h1, h2, rfl, rfl⟩ := hs
    obtain ⟨a0, rfl, sl⟩ := seq_st r1 rd1.ff hd h1 h2
    have hc : pp.2.ok st' = true := by
      cases v <;> simp only [seqI] at hd <;> (try cases hd) <;> (try rfl)
      split at hd
      · rename_i q hq
        cases hd
        simp [Chk.ok, hq, D.sames_refl]
      · cases hd
    have hw : pp.2.isOw = true → Le g1 H1 g1 H1 := fun _ => .refl _ _
    obtain ⟨vs, h3, _⟩ := sl g1 H1 _ (.refl _ _) hw r1 hc
    exact ⟨a0, vs, rfl, h3, k g1 H1 _ a1 r1 (ite_ok sl)⟩
theorem zip_ok (S : Sd X T cl gl) {f : Expr → CE} {tg : Expr} {x : Str} {a b : Expr} {p q : Pos} (hx : lk othNames x = some "zip") (hg : gloB X.env.scope x = true) (hf : ∀ e, PE X e (dE X.K (ev cl gl false (f e)) false false)) (pl : notStar a = true) (pl2 : notStar b = true) (ht : isTup tg = true) :
    PI X tg (.Call (.Name x p) [a, b] [] q) (dI X.K (evI cl gl (.zip (f a) (f b)))) := by
  obtain ⟨_, rfl⟩ := lk_some hx
  have mR : X.mg ("zip" : Str) = none := S.blt "zip" (by decide)
  cases tg <;> simp [isTup] at ht
  refine PI.imp (pi_zip (glo_of hg) mR (pa_cons (hf a) (pa_cons (hf b) pa_nil (star_ok pl2)) (star_ok pl)) (star_ok pl) (by rw [star_ok pl2]; rfl)) fun σ H R z => ?_
  obtain ⟨g, env, st, p, st', re, r, e, k⟩ := z
  simp only [evI] at e
  obtain ⟨v, s1, e1, e⟩ := Res.bind_eq e
  obtain ⟨u, s2, e2, e⟩ := Res.bind_eq e
  split at e
  · cases e
    refine dE_go re r e1 fun g1 H1 v1 a1 r1 rd1 => ?_
    refine dE_go (re.mono a1) r1 e2 fun g2 H2 v2 a2 r2 rd2 => ?_
    obtain ⟨a0, rfl, sl⟩ := seq_st r2 (rd1.mono a2).ff rfl (fun _ z => by cases z) (fun _ z => by cases z)
    obtain ⟨b0, rfl, sl'⟩ := seq_st r2 rd2.ff rfl (fun _ z => by cases z) (fun _ z => by cases z)
    obtain ⟨vs, h3, _⟩ := sl g2 H2 _ (.refl _ _) (fun _ => .refl _ _) r2 rfl
    obtain ⟨vs', h3', _⟩ := sl' g2 H2 _ (.refl _ _) (fun _ => .refl _ _) r2 rfl
    exact ⟨a0, b0, vs, vs', rfl, h3, h3', k g2 H2 _ (a1.trans a2) r2 (itz_ok sl sl')⟩
  · cases e
end
end Ev
/-! Ev11: targets, comprehensions, all expressions -/
namespace Ev
open PySem L2 PySem.Spec PyProof.Rows
def gNs : List Nat → TGs
  | [] => gNil
  | i :: r => gCons (gName i) (gNs r)
def toTG (K : PySem.W.Frag) : CG → TG
  | .nm i => gName i
  | .tup is => gTup K is.length (gNs is)
section
variable {K : PySem.W.Frag} {g : G} {H : Hp}
theorem set_get {α : Type} (l : List α) (i j : Nat) (a : α) : (l.set i a)[j]? = if i = j then (l[j]?).map (fun _ => a) else l[j]? := by
  by_cases h : i = j
  · subst h
    rw [if_pos rfl]
    by_cases hl : i < l.length
    · rw [List.getElem?_set_self hl, List.getElem?_eq_getElem hl]
      rfl
    · rw [List.getElem?_eq_none (by simpa using hl), List.getElem?_eq_none (by simpa using hl)]
      rfl
  · rw [if_neg h, List.getElem?_set_ne h]
theorem re_set {env : Env} {σ : L2.St} {d : D} {v : V} (h : RE K g H env σ) (hd : RD K g H d v) (i : Nat) : RE K g H (env.set i (.v d)) (σ.set i (some v)) := by
  refine ⟨by simp [h.len], fun j d' e => ?_, fun j o e => ?_, fun j k o u p e1 e2 e3 e4 => ?_⟩
  · rw [set_get] at e ⊢
    by_cases hj : i = j
    · rw [if_pos hj] at e ⊢
      subst hj
      have hi : i < env.length := by
        cases hx : env[i]? with
        | none =>
          rw [hx] at e
          cases e
        | some _ => exact (List.getElem?_eq_some_iff.mp hx).1
      rw [List.getElem?_eq_getElem hi] at e
      have e : (EV.v d) = EV.v d' := Option.some.inj e
      cases e
      rw [List.getElem?_eq_getElem (by rw [← h.len]; exact hi)]
      exact ⟨v, rfl, hd⟩
    · rw [if_neg hj] at e ⊢
      exact h.val j d' e
  · rw [set_get] at e ⊢
    by_cases hj : i = j
    · rw [if_pos hj] at e
      cases hx : env[j]? with
      | none =>
        rw [hx] at e
        cases e
      | some _ =>
        rw [hx] at e
        cases e
    · rw [if_neg hj] at e ⊢
      exact h.own j o e
  · rw [set_get] at e1 e2 e3 e4
    have n1 : i ≠ j := fun z => by
      rw [if_pos z] at e1
      cases hx : env[j]? with
      | none =>
        rw [hx] at e1
        cases e1
      | some _ =>
        rw [hx] at e1
        cases e1
    have n2 : i ≠ k := fun z => by
      rw [if_pos z] at e2
      cases hx : env[k]? with
      | none =>
        rw [hx] at e2
        cases e2
      | some _ =>
        rw [hx] at e2
        cases e2
    rw [if_neg n1] at e1 e3
    rw [if_neg n2] at e2 e4
    exact h.one j k o u p e1 e2 e3 e4
theorem wipe_get (σ : L2.St) : ∀ (vs : List Nat) (j : Nat), (wipe σ vs)[j]? = if j ∈ vs then (σ[j]?).map (fun _ => (none : Option V)) else σ[j]?
  | [], j => by simp [wipe]
  | v :: vs, j => by
    unfold wipe
    rw [set_get, wipe_get σ vs j]
    by_cases hv : v = j
    · subst hv
      rw [if_pos rfl, if_pos List.mem_cons_self]
      split
      · cases σ[v]? <;> rfl
      · rfl
    · rw [if_neg hv]
      by_cases hj : j ∈ vs
      · rw [if_pos hj, if_pos (List.mem_cons_of_mem _ hj)]
      · rw [if_neg hj, if_neg fun z => (List.mem_cons.mp z).elim (fun q => hv q.symm) hj]
theorem wipeE_get (env : Env) : ∀ (vs : List Nat) (j : Nat), (wipeE env vs)[j]? = if j ∈ vs then (env[j]?).map (fun _ => EV.un) else env[j]?
  | [], j => by simp [wipeE]
  | v :: vs, j => by
    unfold wipeE
    rw [set_get, wipeE_get env vs j]
    by_cases hv : v = j
    · subst hv
      rw [if_pos rfl, if_pos List.mem_cons_self]
      split
      · cases env[v]? <;> rfl
      · rfl
    · rw [if_neg hv]
      by_cases hj : j ∈ vs
      · rw [if_pos hj, if_pos (List.mem_cons_of_mem _ hj)]
      · rw [if_neg hj, if_neg fun z => (List.mem_cons.mp z).elim (fun q => hv q.symm) hj]
theorem wipeE_len (env : Env) : ∀ vs : List Nat, (wipeE env vs).length = env.length
  | [] => rfl
  | v :: vs => by
    unfold wipeE
    rw [List.length_set, wipeE_len env vs]
theorem wipe_wipe (σ : L2.St) (vs : List Nat) : wipe (wipe σ vs) vs = wipe σ vs := by
  apply List.ext_getElem?
  intro j
  rw [wipe_get, wipe_get]
  split
  · cases σ[j]? <;> rfl
  · rfl
theorem wipe_set {σ : L2.St} {vs : List Nat} {i : Nat} {x : Option V} (h : i ∈ vs) : wipe (σ.set i x) vs = wipe σ vs := by
  apply List.ext_getElem?
  intro j
  rw [wipe_get, wipe_get, set_get]
  split
  · split
    · cases σ[j]? <;> rfl
    · rfl
  · rename_i hj
    rw [if_neg (show ¬ i = j from fun z => hj (by rw [← z]; exact h))]
theorem re_wipe {env : Env} {σ : L2.St} (h : RE K g H env σ) (vs : List Nat) : RE K g H (wipeE env vs) (wipe σ vs) := by
  have ne : ∀ {j : Nat} {o : O}, (wipeE env vs)[j]? = some (.own o) → j ∉ vs ∧ env[j]? = some (.own o) := fun {j o} e => by
    rw [wipeE_get] at e
    by_cases hj : j ∈ vs
    · rw [if_pos hj] at e
      cases hx : env[j]? with
      | none =>
        rw [hx] at e
        cases e
      | some _ =>
        rw [hx] at e
        cases e
    · rw [if_neg hj] at e
      exact ⟨hj, e⟩
  refine ⟨by rw [wipeE_len, wipe_length, h.len], fun j d e => ?_, fun j o e => ?_, fun j k o u p e1 e2 e3 e4 => ?_⟩
  · rw [wipeE_get] at e
    by_cases hj : j ∈ vs
    · rw [if_pos hj] at e
      cases hx : env[j]? with
      | none =>
        rw [hx] at e
        cases e
      | some _ =>
        rw [hx] at e
        cases e
    · rw [if_neg hj] at e
      rw [wipe_get, if_neg hj]
      exact h.val j d e
  · obtain ⟨hj, e⟩ := ne e
    rw [wipe_get, if_neg hj]
    exact h.own j o e
  · obtain ⟨hj, e1⟩ := ne e1
    obtain ⟨hk, e2⟩ := ne e2
    rw [wipe_get, if_neg hj] at e3
    rw [wipe_get, if_neg hk] at e4
    exact h.one j k o u p e1 e2 e3 e4
theorem sets_ok : ∀ {is : List Nat} {ds : List D} {vs : List V} {env env1 : Env} {σ : L2.St}, setAll is ds env = some env1 → RE K g H env σ → RDs K g H ds vs →
    ∃ σ1, RE K g H env1 σ1 ∧ (∀ ws : List Nat, (∀ i, i ∈ is → i ∈ ws) → wipe σ1 ws = wipe σ ws) ∧ vs.length = is.length ∧ ∀ Q : L2.St → Hp → Prop, Q σ1 H → gNs is vs σ H Q
  | [], ds, vs, env, env1, σ, e, h, hd => by
    cases ds with
    | nil =>
      cases e
      obtain rfl := rds0 hd
      exact ⟨σ, h, fun _ _ => rfl, rfl, fun Q q => ⟨rfl, q⟩⟩
    | cons _ _ => cases e
  | i :: is, ds, vs, env, env1, σ, e, h, hd => by
    cases ds with
    | nil => cases e
    | cons d ds =>
      unfold RDs at hd
      obtain ⟨v, r, rfl, h1, h2⟩ := hd
      obtain ⟨σ1, h3, h4, h5, h6⟩ := sets_ok (is := is) (ds := ds) (vs := r) (show setAll is ds (env.set i (.v d)) = some env1 from e) (re_set h h1 i) h2
      refine ⟨σ1, h3, fun ws hw => ?_, by rw [List.length_cons, List.length_cons, h5], fun Q q => ⟨v, r, rfl, h6 Q q⟩⟩
      rw [h4 ws fun j hj => hw j (List.mem_cons_of_mem _ hj)]
      exact wipe_set (hw i List.mem_cons_self)
theorem assign_ok {cg : CG} {d : D} {env env1 : Env} {σ : L2.St} {x : V} (e : assignG cg d env = some env1) (h : RE K g H env σ) (hd : RD K g H d x) :
    ∃ σ1, RE K g H env1 σ1 ∧ (∀ ws : List Nat, (∀ i, i ∈ cgIx cg → i ∈ ws) → wipe σ1 ws = wipe σ ws) ∧ ∀ Q : L2.St → Hp → Prop, Q σ1 H → toTG K cg x σ H Q := by
  cases cg with
  | nm i =>
    cases e
    exact ⟨σ.set i (some x), re_set h hd i, fun ws hw => wipe_set (hw i List.mem_cons_self), fun Q q => q⟩
  | tup is =>
    cases d with
    | tup ds =>
      unfold RD at hd
      obtain ⟨p, vs, rfl, _, h1, h2⟩ := hd
      obtain ⟨σ1, h3, h4, h5, h6⟩ := sets_ok (show setAll is ds env = some env1 from e) h h2
      exact ⟨σ1, h3, h4, fun Q q => ⟨p, vs, rfl, SqT.of h1, h5, h6 Q q⟩⟩
    | _ => cases e
end
section
variable {X : Cx} {T : Tab} {cl : String → List D → Store → Res D} {gl : String → Option D}
theorem sto_of {N : List Str} {sc : Scope} {fn : Str → Bool} {x : Str} (h : stoB N sc fn x = true) : N[ixOf N x]? = some x ∧ Loc sc x ∧ (fn x = true ∨ sc.names.lookup x = some .local) := by
  unfold stoB at h
  rw [Bool.and_eq_true, Bool.and_eq_true, Bool.or_eq_true] at h
  obtain ⟨⟨h1, h2⟩, h3⟩ := h
  refine ⟨of_decide_eq_true h1, ?_, h3.imp (fun z => z) fun z => of_decide_eq_true z⟩
  unfold locB at h2
  split at h2
  · rename_i e
    exact .inl e
  · rename_i e
    exact .inr e
  · cases h2
theorem pg_one (hn : X.N.Nodup) {x : Str} {p : Pos} (h : stoB X.N X.env.scope X.fn x = true) : PG X (.Name x p) (gName (ixOf X.N x)) := by
  obtain ⟨h1, h2, h3⟩ := sto_of h
  exact pg_name hn h1 h2 h3
theorem pgs_names (hn : X.N.Nodup) : ∀ {es : List Expr}, onlyNames es = true → ((tgNames (.Tuple es 0 ⟨0, 0, 0, 0⟩)).all fun x => stoB X.N X.env.scope X.fn x) = true →
    PGs X es (gNs ((tgNames (.Tuple es 0 ⟨0, 0, 0, 0⟩)).map (ixOf X.N))) ∧ (assignEach es X.env).length = ((tgNames (.Tuple es 0 ⟨0, 0, 0, 0⟩)).map (ixOf X.N)).length ∧ (assignEach es X.env).findIdx? (·.1) = none
  | [], _, _ => ⟨pgs_nil, rfl, rfl⟩
  | .Name x p :: es, h, h2 => by
    have h2 : (stoB X.N X.env.scope X.fn x && ((tgNames (.Tuple es 0 ⟨0, 0, 0, 0⟩)).all fun x => stoB X.N X.env.scope X.fn x)) = true := h2
    rw [Bool.and_eq_true] at h2
    obtain ⟨i1, i2, i3⟩ := pgs_names hn (es := es) h h2.2
    refine ⟨pgs_cons (pg_one hn h2.1) i1, ?_, ?_⟩
    · show (assignEach es X.env).length + 1 = _ + 1
      rw [i2]
      rfl
    · show List.findIdx? (·.1) ((false, assign (.Name x p) X.env) :: assignEach es X.env) = none
      rw [List.findIdx?_cons]
      simp [i3]
  | .Tuple _ _ _ :: _, h, _ | .List _ _ :: _, h, _ | .Subscript _ _ _ :: _, h, _ | .Attribute _ _ _ :: _, h, _ | .Starred _ _ :: _, h, _ | .BoolOp _ _ _ :: _, h, _ | .NamedExpr _ _ _ :: _, h, _ | .BinOp _ _ _ _ :: _, h, _ | .UnaryOp _ _ _ :: _, h, _
  | .Lambda _ _ _ _ :: _, h, _ | .IfExp _ _ _ _ :: _, h, _ | .Dict _ _ _ :: _, h, _ | .Set _ _ _ :: _, h, _ | .ListComp _ _ _ _ :: _, h, _ | .SetComp _ _ _ _ :: _, h, _ | .DictComp _ _ _ _ _ :: _, h, _ | .GeneratorExp _ _ _ _ :: _, h, _ | .Await _ _ :: _, h, _
  | .Yield _ _ :: _, h, _ | .YieldFrom _ _ :: _, h, _ | .Compare _ _ _ _ :: _, h, _ | .Call _ _ _ _ :: _, h, _ | .FormattedValue _ _ _ _ :: _, h, _ | .JoinedStr _ _ :: _, h, _ | .Constant _ _ _ :: _, h, _ | .Slice _ _ _ _ :: _, h, _ => by simp [onlyNames] at h
theorem pg_of (hc : X.calm = true) (hn : X.N.Nodup) {tg : Expr} {cg : CG} (h : erG X.N X.env.scope X.fn tg = some cg) : PG X tg (toTG X.K cg) := by
  cases tg with
  | Name x p =>
    simp only [erG] at h
    split at h
    · rename_i h1
      cases h
      exact pg_one hn h1
    · cases h
  | Tuple es k p =>
    simp only [erG] at h
    split at h
    · rename_i h1
      cases h
      obtain ⟨i1, i2, i3⟩ := pgs_names hn h1.1 h1.2
      exact pg_tup hc i1 i2 i3
    · cases h
  | _ => simp [erG] at h
/-! ### comprehensions -/
theorem fold_ok {it : Expr} {env : PySem.Env} (h : notSet it = true) : ∀ x, foldedSetIterable it env x = pure x := by
  cases it <;> first | exact fun _ => rfl | cases h
theorem le_at {g1 g4 : G} {H1 H5 : Hp} {Dl : Addr} {o : HO} (a : Le g1 H1 g4 H5) (h : H1 Dl = none) : Le g1 H1 g4 (upd H5 Dl o) := by
  refine ⟨⟨fun b u e n => ?_, fun b u e => ?_, a.pre⟩, fun b u e n => ?_⟩
  · rw [upd_ne (ne_of_none e h)]
    exact a.keep b u e n
  · rw [upd_ne (ne_of_none e h)]
    exact a.trk b u e
  · rw [upd_ne (ne_of_none e h)]
    exact a.own b u e n
/-- a thing of ours changes -/
theorem leN_mut {g : G} {H : Hp} {p : Addr} {o : HO} (h : g.B p) : LeN g H g (upd H p o) := by
  refine ⟨fun b u e n => ?_, fun b u e => ?_, [], by simp, fun _ z => by simp at z⟩
  · rw [upd_ne (show ¬ b = p from fun z => n (by rw [z]; exact h))]
    exact ⟨e, n⟩
  · by_cases hb : b = p
    · exact ⟨o, by rw [hb]; exact upd_same⟩
    · exact ⟨u, by rw [upd_ne hb]; exact e⟩
theorem Rel.mutOut {K : PySem.W.Frag} {g : G} {H : Hp} {st : Store} {p : Addr} {o : HO} (r : Rel K g H st) (h : g.B p) (hn : p ∉ g.ρ) : Rel K g (upd H p o) st := r.mono (leN_mut h) fun q hq => upd_ne fun z => hn (z ▸ hq)
theorem Le.notρ {g1 g2 : G} {H1 H2 : Hp} (a : LeN g1 H1 g2 H2) {b : Addr} {o : HO} (h : H1 b = some o) (hn : b ∉ g1.ρ) : b ∉ g2.ρ := fun z => by
  obtain ⟨m, e, f⟩ := a.pre
  rw [e] at z
  rcases List.mem_append.mp z with q | q
  · exact hn q
  · rw [f b q] at h
    cases h
theorem lc_imp {K : PySem.W.Frag} {vs : List Nat} {cg : CG} {ci : CI} {c : CO2} {ce : CE} {w : Bool} (hsub : ∀ i, i ∈ cgIx cg → i ∈ vs) {σ : L2.St} {H : Hp} {Q : VK} (h : dE K (ev cl gl w (.lc vs cg ci c ce)) w true σ H Q) :
    tLc (dI K (evI cl gl ci)) (toTG K cg) (dT K (evC cl gl c)) (dE K (ev cl gl false ce) false false) vs σ H Q := by
  obtain ⟨g, env, st, d, st', re, r, e0, k⟩ := h
  simp only [ev] at e0
  obtain ⟨p, s1, e1, e0⟩ := Res.bind_eq e0
  split at e0
  · rename_i hz
    obtain ⟨ds, s2, e2, e0⟩ := Res.bind_eq e0
    cases e0
    refine ⟨g, env, st, p, s1, re, r, e1, fun g1 H1 J a1 r1 io Dl hD => ?_⟩
    generalize hb : (fun x st => match assignG cg x (wipeE env vs) with
      | none => Res.bad
      | some env1 => (evC cl gl c env1 st).bind fun b st => match b with
        | true => (ev cl gl false ce env1 st).bind fun d st => .ok (some d) st
        | false => .ok none st) = body at e2
    refine ⟨fun i m H => m + i = p.1.length ∧ ∃ g2 st2 ds2 dsr acc, Le g1 H1 g2 H ∧ Rel K g2 H st2 ∧ g2.B Dl ∧ Dl ∉ g2.ρ ∧ H Dl = some (.lst acc) ∧ RDs K g2 H ds2 acc ∧ ds2.length ≤ i ∧ lcGo body p.2.ok (p.1.drop i) st2 = .ok dsr st' ∧ ds = ds2 ++ dsr, ?_, fun i m H2 hW => ?_⟩
    · exact ⟨p.1.length, by omega, g1.add Dl, s1, [], ds, [], le_add (le_new hD r1.trk) hD, r1.addNew hD, .inr rfl, r1.nr hD, upd_same, RDs.nil, Nat.le_refl _, by simpa using e2, rfl⟩
    · obtain ⟨hm, g2, st2, ds2, dsr, acc, a2, r2, hB, hR, hA, rd2, hl, e3, rfl⟩ := hW
      by_cases hi : i < p.1.length
      · -- one more item
        have hx : p.1[i]? = some (p.1[i]) := List.getElem?_eq_getElem hi
        rw [List.drop_eq_getElem_cons hi] at e3
        simp only [lcGo] at e3
        split at e3
        · rename_i hck
          obtain ⟨y, s3, e4, e3⟩ := Res.bind_eq e3
          obtain ⟨ys, s4, e5, e3⟩ := Res.bind_eq e3
          cases e3
          obtain ⟨_, it2⟩ := io g2 H2 st2 a2.toLeN (fun _ => a2) r2 hck
          obtain ⟨go, yl⟩ := it2 i _ hx
          refine .inr ⟨go, fun H' => m - 1 + (i + 1) = p.1.length ∧ _, fun H' hN => ⟨m - 1, by omega, hN⟩, fun x H3 hy => ?_⟩
          obtain ⟨a3, r3, rd3⟩ := yl x H3 hy
          have hA3 : H3 Dl = some (.lst acc) := (a3.own Dl _ hA hR).1
          have re3 : RE K g2 H3 env σ := ((re.mono a1).mono a2).mono a3
          rw [← hb] at e4
          simp only at e4
          cases has : assignG cg (p.1[i]) (wipeE env vs) with
          | none =>
            rw [has] at e4
            cases e4
          | some env1 =>
            rw [has] at e4
            simp only at e4
            obtain ⟨σ1, re4, hw, kq⟩ := assign_ok has (re_wipe re3 vs) rd3
            refine kq _ ⟨by rw [hw vs (hsub), wipe_wipe], ?_⟩
            obtain ⟨b, s5, e6, e4⟩ := Res.bind_eq e4
            refine dT_go re4 r3 e6 fun g4 H4 a4 r4 => ?_
            have hR4 : Dl ∉ g4.ρ := Le.notρ a4.toLeN hA3 hR
            have hA4 : H4 Dl = some (.lst acc) := (a4.own Dl _ hA3 hR).1
            have hB4 : g4.B Dl := (a4.own Dl _ hA3 hR).2.mpr hB
            cases b with
            | true =>
              rw [if_pos rfl]
              obtain ⟨d, s6, e7, e4⟩ := Res.bind_eq e4
              cases e4
              refine dE_go (re4.mono a4) r4 e7 fun g5 H5 v a5 r5 rd5 => ?_
              have hR5 : Dl ∉ g5.ρ := Le.notρ a5.toLeN hA4 hR4
              have hA5 : H5 Dl = some (.lst acc) := (a5.own Dl _ hA4 hR4).1
              have hB5 : g5.B Dl := (a5.own Dl _ hA4 hR4).2.mpr hB4
              refine ⟨acc, hA5, by rw [rd2.length]; omega, by omega, g5, _, ds2 ++ [d], ys, acc ++ [v], le_at (((a2.trans a3).trans a4).trans a5) hD, r5.mutOut hB5 hR5, hB5, hR5, upd_same, ?_, by simp; omega, ?_, by simp⟩
              · exact RDs.mono (leN_mut hB5) _ _ ((RDs.mono ((a3.trans a4).trans a5).toLeN _ _ rd2).append (.one rd5.ff))
              · exact e5
            | false =>
              rw [if_neg Bool.false_ne_true]
              cases e4
              exact ⟨by omega, g4, _, ds2, ys, acc, (a2.trans a3).trans a4, r4, hB4, hR4, hA4, RDs.mono (a3.trans a4).toLeN _ _ rd2, by omega, e5, rfl⟩
        · cases e3
      · -- the end
        have hi2 : i = p.1.length := by omega
        subst hi2
        rw [List.drop_length] at e3
        simp only [lcGo] at e3
        split at e3
        · rename_i hck
          cases e3
          obtain ⟨st0, _⟩ := io g2 H2 _ a2.toLeN (fun _ => a2) r2 hck
          refine .inl ⟨st0, ?_⟩
          have hD0 : H Dl = none := free_back a1.toLeN hD
          have l1 : LeN g2 H2 ⟨fun b => g2.B b ∧ b ≠ Dl, g2.ρ⟩ H2 := ⟨fun b o e n => ⟨e, fun z => n z.1⟩, fun b o e => ⟨o, e⟩, [], by simp, fun _ z => by simp at z⟩
          have l2 : LeN g2 H2 (G.add ⟨fun b => g2.B b ∧ b ≠ Dl, g2.ρ⟩ Dl) H2 := ⟨fun b o e n => ⟨e, fun z => z.elim (fun q => n q.1) fun q => n (q ▸ hB)⟩, fun b o e => ⟨o, e⟩, [], by simp [G.add], fun _ z => by simp at z⟩
          have rA : Rel K ⟨fun b => g2.B b ∧ b ≠ Dl, g2.ρ⟩ H2 st' := ⟨r2.len, fun l q o e1 e2 => (r2.obj l q o e1 e2).mono l1 rfl, r2.nd, fun q hq => ⟨r2.mt q hq, fun z => hR (z ▸ hq)⟩, fun b hb => r2.trk b hb.1⟩
          have rB : Rel K (G.add ⟨fun b => g2.B b ∧ b ≠ Dl, g2.ρ⟩ Dl) H2 st' := ⟨r2.len, fun l q o e1 e2 => (r2.obj l q o e1 e2).mono l2 rfl, r2.nd, fun q hq => .inl ⟨r2.mt q hq, fun z => hR (z ▸ hq)⟩, fun b hb => hb.elim (fun z => r2.trk b z.1) fun z => ⟨.lst acc, by rw [show b = Dl from z]; exact hA⟩⟩
          refine k ⟨fun b => g2.B b ∧ b ≠ Dl, g2.ρ⟩ H2 (.ref Dl) (a1.trans ?_) rA (.inl ?_) fun _ o ho => ?_
          · refine ⟨⟨fun b o e n => ?_, a2.trk, a2.pre⟩, fun b o e n => ?_⟩
            · obtain ⟨k1, k2⟩ := a2.keep b o e n
              exact ⟨k1, fun z => k2 z.1⟩
            · obtain ⟨k1, k2⟩ := a2.own b o e n
              exact ⟨k1, ⟨fun z => k2.mp z.1, fun z => ⟨k2.mpr z, ne_of_none e hD⟩⟩⟩
          · unfold RD
            rw [List.append_nil]
            exact ⟨Dl, acc, rfl, fun z => z.2 rfl, hA, RDs.mono l1 _ _ rd2⟩
          · cases ho
            rw [List.append_nil]
            exact ⟨Dl, rfl, hD0, fun z => z.2 rfl, ⟨acc, hA, RDs.mono l2 _ _ rd2⟩, rB⟩
        · cases e3
  · cases e0
theorem dc_imp {K : PySem.W.Frag} {vs : List Nat} {cg : CG} {ci : CI} {c : CO2} {ck cv : CE} {w : Bool} (hsub : ∀ i, i ∈ cgIx cg → i ∈ vs) {σ : L2.St} {H : Hp} {Q : VK} (h : dE K (ev cl gl w (.dc vs cg ci c ck cv)) w true σ H Q) :
    tDc (dI K (evI cl gl ci)) (toTG K cg) (dT K (evC cl gl c)) (dE K (ev cl gl false ck) false false) (dE K (ev cl gl false cv) false false) vs σ H Q := by
  obtain ⟨g, env, st, d, st', re, r, e0, k⟩ := h
  simp only [ev] at e0
  obtain ⟨p, s1, e1, e0⟩ := Res.bind_eq e0
  obtain ⟨ds, s2, e2, e0⟩ := Res.bind_eq e0
  cases e0
  refine ⟨g, env, st, p, s1, re, r, e1, fun g1 H1 J a1 r1 io Dl hD => ?_⟩
  generalize hb : (fun x st => match assignG cg x (wipeE env vs) with
    | none => Res.bad
    | some env1 => (evC cl gl c env1 st).bind fun b st => match b with
      | true => (ev cl gl false ck env1 st).bind fun d st => (ev cl gl false cv env1 st).bind fun y st => .ok (some (d, y)) st
      | false => .ok none st) = body at e2
  refine ⟨fun i m H => m + i = p.1.length ∧ ∃ g2 st2 ds2 acc, Le g1 H1 g2 H ∧ Rel K g2 H st2 ∧ g2.B Dl ∧ Dl ∉ g2.ρ ∧ H Dl = some (.dK acc) ∧ RKf K g2 H ds2 acc ∧ dcGo body p.2.ok (p.1.drop i) ds2 st2 = .ok ds st', ?_, fun i m H2 hW => ?_⟩
  · exact ⟨p.1.length, by omega, g1.add Dl, s1, [], [], le_add (le_new hD r1.trk) hD, r1.addNew hD, .inr rfl, r1.nr hD, upd_same, by unfold RKf; rfl, by simpa using e2⟩
  · obtain ⟨hm, g2, st2, ds2, acc, a2, r2, hB, hR, hA, rd2, e3⟩ := hW
    by_cases hi : i < p.1.length
    · -- one more item
      have hx : p.1[i]? = some (p.1[i]) := List.getElem?_eq_getElem hi
      rw [List.drop_eq_getElem_cons hi] at e3
      simp only [dcGo] at e3
      split at e3
      · rename_i hck
        obtain ⟨y, s3, e4, e3⟩ := Res.bind_eq e3
        obtain ⟨_, it2⟩ := io g2 H2 st2 a2.toLeN (fun _ => a2) r2 hck
        obtain ⟨go, yl⟩ := it2 i _ hx
        refine .inr ⟨go, fun H' => m - 1 + (i + 1) = p.1.length ∧ _, fun H' hN => ⟨m - 1, by omega, hN⟩, fun x H3 hy => ?_⟩
        obtain ⟨a3, r3, rd3⟩ := yl x H3 hy
        have hA3 : H3 Dl = some (.dK acc) := (a3.own Dl _ hA hR).1
        have re3 : RE K g2 H3 env σ := ((re.mono a1).mono a2).mono a3
        rw [← hb] at e4
        simp only at e4
        cases has : assignG cg (p.1[i]) (wipeE env vs) with
        | none =>
          rw [has] at e4
          cases e4
        | some env1 =>
          rw [has] at e4
          simp only at e4
          obtain ⟨σ1, re4, hw, kq⟩ := assign_ok has (re_wipe re3 vs) rd3
          refine kq _ ⟨by rw [hw vs (hsub), wipe_wipe], ?_⟩
          obtain ⟨b, s5, e6, e4⟩ := Res.bind_eq e4
          refine dT_go re4 r3 e6 fun g4 H4 a4 r4 => ?_
          have hR4 : Dl ∉ g4.ρ := Le.notρ a4.toLeN hA3 hR
          have hA4 : H4 Dl = some (.dK acc) := (a4.own Dl _ hA3 hR).1
          have hB4 : g4.B Dl := (a4.own Dl _ hA3 hR).2.mpr hB
          cases b with
          | true =>
            rw [if_pos rfl]
            obtain ⟨d, s6, e7, e4⟩ := Res.bind_eq e4
            obtain ⟨d2, s7, e8, e4⟩ := Res.bind_eq e4
            cases e4
            simp only at e3
            split at e3
            · rename_i hko
              obtain ⟨hk, hz⟩ := hko
              simp only [keyOk, Option.isSome_iff_exists] at hk
              obtain ⟨kk, hk1⟩ := hk
              refine dE_go (re4.mono a4) r4 e7 fun g5 H5 v a5 r5 rd5 => ?_
              have hR5 : Dl ∉ g5.ρ := Le.notρ a5.toLeN hA4 hR4
              have hA5 : H5 Dl = some (.dK acc) := (a5.own Dl _ hA4 hR4).1
              have hB5 : g5.B Dl := (a5.own Dl _ hA4 hR4).2.mpr hB4
              refine dE_go ((re4.mono a4).mono a5) r5 e8 fun g6 H6 v2 a6 r6 rd6 => ?_
              have hR6 : Dl ∉ g6.ρ := Le.notρ a6.toLeN hA5 hR5
              have hA6 : H6 Dl = some (.dK acc) := (a6.own Dl _ hA5 hR5).1
              have hB6 : g6.B Dl := (a6.own Dl _ hA5 hR5).2.mpr hB5
              have rk : RKf K g6 H6 ds2 acc := RKf.mono (((a3.trans a4).trans a5).trans a6).toLeN _ _ rd2
              refine ⟨acc, kk, key1_v rd5.ff hk1, hA6, by rw [rkf_len rd2]; exact hz, by omega, g6, _, putD ds2 d d2, L2.putK acc kk v2, le_at ((((a2.trans a3).trans a4).trans a5).trans a6) hD, r6.mutOut hB6 hR6, hB6, hR6, upd_same, ?_, e3⟩
              exact RKf.mono (leN_mut hB6) _ _ (put_f hk1 rd6.ff rk)
            · cases e3
          | false =>
            rw [if_neg Bool.false_ne_true]
            cases e4
            simp only at e3
            exact ⟨by omega, g4, _, ds2, acc, (a2.trans a3).trans a4, r4, hB4, hR4, hA4, RKf.mono (a3.trans a4).toLeN _ _ rd2, e3⟩
      · cases e3
    · -- the end
      have hi2 : i = p.1.length := by omega
      subst hi2
      rw [List.drop_length] at e3
      simp only [dcGo] at e3
      split at e3
      · rename_i hck
        cases e3
        obtain ⟨st0, _⟩ := io g2 H2 _ a2.toLeN (fun _ => a2) r2 hck
        refine .inl ⟨st0, ?_⟩
        have hD0 : H Dl = none := free_back a1.toLeN hD
        have l1 : LeN g2 H2 ⟨fun b => g2.B b ∧ b ≠ Dl, g2.ρ⟩ H2 := ⟨fun b o e n => ⟨e, fun z => n z.1⟩, fun b o e => ⟨o, e⟩, [], by simp, fun _ z => by simp at z⟩
        have l2 : LeN g2 H2 (G.add ⟨fun b => g2.B b ∧ b ≠ Dl, g2.ρ⟩ Dl) H2 := ⟨fun b o e n => ⟨e, fun z => z.elim (fun q => n q.1) fun q => n (q ▸ hB)⟩, fun b o e => ⟨o, e⟩, [], by simp [G.add], fun _ z => by simp at z⟩
        have rA : Rel K ⟨fun b => g2.B b ∧ b ≠ Dl, g2.ρ⟩ H2 st' := ⟨r2.len, fun l q o e1 e2 => (r2.obj l q o e1 e2).mono l1 rfl, r2.nd, fun q hq => ⟨r2.mt q hq, fun z => hR (z ▸ hq)⟩, fun b hb => r2.trk b hb.1⟩
        have rB : Rel K (G.add ⟨fun b => g2.B b ∧ b ≠ Dl, g2.ρ⟩ Dl) H2 st' := ⟨r2.len, fun l q o e1 e2 => (r2.obj l q o e1 e2).mono l2 rfl, r2.nd, fun q hq => .inl ⟨r2.mt q hq, fun z => hR (z ▸ hq)⟩, fun b hb => hb.elim (fun z => r2.trk b z.1) fun z => ⟨.dK acc, by rw [show b = Dl from z]; exact hA⟩⟩
        refine k ⟨fun b => g2.B b ∧ b ≠ Dl, g2.ρ⟩ H2 (.ref Dl) (a1.trans ?_) rA (.inl ?_) fun _ o ho => ?_
        · refine ⟨⟨fun b o e n => ?_, a2.trk, a2.pre⟩, fun b o e n => ?_⟩
          · obtain ⟨k1, k2⟩ := a2.keep b o e n
            exact ⟨k1, fun z => k2 z.1⟩
          · obtain ⟨k1, k2⟩ := a2.own b o e n
            exact ⟨k1, ⟨fun z => k2.mp z.1, fun z => ⟨k2.mpr z, ne_of_none e hD⟩⟩⟩
        · unfold RD
          exact ⟨Dl, rfl, fun z => z.2 rfl, .inl ⟨rfl, acc, hA, RKf.mono l1 _ _ rd2⟩⟩
        · cases ho
          exact ⟨Dl, rfl, hD0, fun z => z.2 rfl, .inl ⟨rfl, acc, hA, RKf.mono l2 _ _ rd2⟩, rB⟩
      · cases e3
theorem dc_ok {e v tg it : Expr} {ifs : List Expr} {scope : Scope} {own : List (Str × Nat)} {cg : CG} {ci : CI} {c : CO2} {ce cv : CE} {pos : Pos} {w : Bool} (hc : X.calm = true) (hN : X.N.Nodup) (hns : notSet it = true) (hI : PI X tg it (dI X.K (evI cl gl ci)))
    (ok : BlkOk X.N X.env.scope scope own) (hsub : ∀ i, i ∈ cgIx cg → i ∈ own.map (·.2))
    (hg : ∀ (s : Shared) (H : Hp) (C : Addr) (cl : List (Str × Addr)) (fp : List Addr), PG (X.blk s H scope (compEnvC scope cl C X.env) fp) tg (toTG X.K cg))
    (ht : ∀ (s : Shared) (H : Hp) (C : Addr) (cl0 : List (Str × Addr)) (fp : List Addr), PTs (X.blk s H scope (compEnvC scope cl0 C X.env) fp) ifs (dT X.K (evC cl gl c)))
    (he : ∀ (s : Shared) (H : Hp) (C : Addr) (cl0 : List (Str × Addr)) (fp : List Addr), PE (X.blk s H scope (compEnvC scope cl0 C X.env) fp) e (dE X.K (ev cl gl false ce) false false))
    (hv : ∀ (s : Shared) (H : Hp) (C : Addr) (cl0 : List (Str × Addr)) (fp : List Addr), PE (X.blk s H scope (compEnvC scope cl0 C X.env) fp) v (dE X.K (ev cl gl false cv) false false)) :
    PE X (.DictComp e v [⟨tg, it, ifs, 0⟩] scope pos) (dE X.K (ev cl gl w (.dc (own.map (·.2)) cg ci c ce cv)) w true) := (pe_dc hc hN hI ok hg ht he hv (fold_ok hns)).imp fun _ _ _ h => dc_imp hsub h
theorem lc_ok {e tg it : Expr} {ifs : List Expr} {scope : Scope} {own : List (Str × Nat)} {cg : CG} {ci : CI} {c : CO2} {ce : CE} {pos : Pos} {w : Bool} (hc : X.calm = true) (hN : X.N.Nodup) (hns : notSet it = true) (hI : PI X tg it (dI X.K (evI cl gl ci)))
    (ok : BlkOk X.N X.env.scope scope own) (hsub : ∀ i, i ∈ cgIx cg → i ∈ own.map (·.2))
    (hg : ∀ (s : Shared) (H : Hp) (C : Addr) (cl : List (Str × Addr)) (fp : List Addr), PG (X.blk s H scope (compEnvC scope cl C X.env) fp) tg (toTG X.K cg))
    (ht : ∀ (s : Shared) (H : Hp) (C : Addr) (cl0 : List (Str × Addr)) (fp : List Addr), PTs (X.blk s H scope (compEnvC scope cl0 C X.env) fp) ifs (dT X.K (evC cl gl c)))
    (he : ∀ (s : Shared) (H : Hp) (C : Addr) (cl0 : List (Str × Addr)) (fp : List Addr), PE (X.blk s H scope (compEnvC scope cl0 C X.env) fp) e (dE X.K (ev cl gl false ce) false false)) :
    PE X (.ListComp e [⟨tg, it, ifs, 0⟩] scope pos) (dE X.K (ev cl gl w (.lc (own.map (·.2)) cg ci c ce)) w true) := (pe_lc hc hN hI ok hg ht he (fold_ok hns)).imp fun _ _ _ h => lc_imp hsub h
/-! ### all expressions -/
theorem Sd.blk (S : Sd X T cl gl) (s : Shared) (H : Hp) (scope : Scope) (C : Addr) (cl0 : List (Str × Addr)) (fp : List Addr) : Sd (X.blk s H scope (compEnvC scope cl0 C X.env) fp) T cl gl :=
  ⟨S.nN, S.nd, S.calm, S.gd, S.hu, S.sm, S.blt, S.glb, S.fns, S.cls, S.mts, S.nat⟩
theorem PT.bad {e : Expr} : PT X e (dT X.K fun env st => tst (ev cl gl false .bad env st)) := ⟨fun pins s σ H Q I h => by
  obtain ⟨g, env, st, b, st', _, _, e, _⟩ := h
  exact (ev_bad (tst_eq e)).elim⟩
theorem ev_w {c : CE} (h : ∀ i, c ≠ .var i) (w : Bool) : ev cl gl w c = ev cl gl false c := by
  cases c <;> first | rfl | exact absurd rfl (h _)
/-- what stands at a place where no own thing is looked at -/
theorem pe_w {e : Expr} {c : CE} {w fr : Bool} (h : PE X e (dE X.K (ev cl gl w c) w fr)) : PE X e (dE X.K (ev cl gl w c) w false) := h.imp fun σ H Q z => by
  obtain ⟨g, env, st, d, st', re, r, e, k⟩ := z
  exact ⟨g, env, st, d, st', re, r, e, k.noFr⟩
theorem isTrue_plain' {e : Expr} {env : PySem.Env} (h1 : notIf e = true) (h2 : ∀ op l p, e ≠ .BoolOp op l p) (h3 : ∀ a p, e ≠ .UnaryOp .Not a p) (h4 : ∀ a o c p, e ≠ .Compare a o c p) (whole : Sem Value) : isTrue e env whole = (do let v ← whole; standAt e.pos; holding [v] (truthy v)) := by
  cases e with
  | BoolOp op l p => exact absurd rfl (h2 op l p)
  | UnaryOp op a p =>
    cases op with
    | Not => exact absurd rfl (h3 a p)
    | _ => rfl
  | IfExp _ _ _ _ => cases h1
  | Compare a o c p => exact absurd rfl (h4 a o c p)
  | _ => rfl
theorem relS_eq {scope : Scope} {env : PySem.Env} : relabel scope env = relS scope env.scope := rfl
theorem and_tail {f : Expr → CE} (hf : ∀ e, PE X e (dE X.K (ev cl gl false (f e)) false false)) {pos : Pos} : ∀ (es : List Expr), es ≠ [] → PE X (.BoolOp .And es pos) (dE X.K (ev cl gl false (erAnd f es)) false false)
  | [], h => absurd rfl h
  | [e], _ => pe_one (peGd fun _ => hf e)
  | e :: e2 :: r, _ => and_ok (peGd fun _ => hf e) (and_tail hf (e2 :: r) (List.cons_ne_nil _ _))
theorem or_tail {f : Expr → CE} (hf : ∀ e, PE X e (dE X.K (ev cl gl false (f e)) false false)) {pos : Pos} : ∀ (es : List Expr), es ≠ [] → PE X (.BoolOp .Or es pos) (dE X.K (ev cl gl false (erOr f es)) false false)
  | [], h => absurd rfl h
  | [e], _ => pe_one (peGd fun _ => hf e)
  | e :: e2 :: r, _ => or_ok (peGd fun _ => hf e) (or_tail hf (e2 :: r) (List.cons_ne_nil _ _))
theorem ptGd {e : Expr} {b : Bool} {c : CE} (h : b = true → PT X e (dT X.K fun env st => tst (ev cl gl false c env st))) : PT X e (dT X.K fun env st => tst (ev cl gl false (gd b c) env st)) := by
  cases b with
  | true => exact h rfl
  | false => exact PT.bad
theorem andT_tail {f : Expr → CE} (hf : ∀ e, notIf e = true → PT X e (dT X.K fun env st => tst (ev cl gl false (f e) env st))) {pos : Pos} : ∀ (es : List Expr), es ≠ [] → PW X (.BoolOp .And es pos) (dT X.K fun env st => tst (ev cl gl false (erAnd f es) env st))
  | [], h => absurd rfl h
  | [e], _ => pw_and1 (ptGd fun h => hf e h)
  | e :: e2 :: r, _ => andT_ok (ptGd fun h => hf e h) (andT_tail hf (e2 :: r) (List.cons_ne_nil _ _))
theorem orT_tail {f : Expr → CE} (hf : ∀ e, notIf e = true → PT X e (dT X.K fun env st => tst (ev cl gl false (f e) env st))) {pos : Pos} : ∀ (es : List Expr), es ≠ [] → PW X (.BoolOp .Or es pos) (dT X.K fun env st => tst (ev cl gl false (erOr f es) env st))
  | [], h => absurd rfl h
  | [e], _ => pw_or1 (ptGd fun h => hf e h)
  | e :: e2 :: r, _ => orT_ok (ptGd fun h => hf e h) (orT_tail hf (e2 :: r) (List.cons_ne_nil _ _))
theorem mut_imp {K : PySem.W.Frag} {i : Nat} {m : String} {es : CEs} {w : Bool} {σ : L2.St} {H : Hp} {Q : VK} (z : dE K (ev cl gl w (.mut m i es)) w false σ H Q) : tMut K i m (evEs cl gl false es) σ H Q := by
  obtain ⟨g, env, st, d, st', re, r, e, k⟩ := z
  simp only [ev] at e
  split at e
  · rename_i l hl
    split at e
    · rename_i o0 ho0
      obtain ⟨ds, s1, e1, e⟩ := Res.bind_eq e
      split at e
      · rename_i o ho
        obtain ⟨pp, s2, e2, e⟩ := Res.bind_eq e
        cases e
        cases hd : mthW m o ds s1 with
        | none =>
          rw [hd] at e2
          cases e2
        | some p' =>
          rw [hd] at e2
          cases e2
          obtain ⟨v, h1, h2⟩ := re.val _ _ hl
          unfold RD at h2
          obtain ⟨a, rfl, ha⟩ := h2
          obtain ⟨vs0, h3, _⟩ := r.obj l a _ ha ho0
          refine ⟨g, env, st, ds, _, a, vs0, o, pp.1, pp.2, re, r, h1, h3, e1, hd, fun g1 H1 a1 r1 => ?_⟩
          have ha1 := a1.toLeN.get ha
          obtain ⟨vs, h4, h5⟩ := r1.obj l a _ ha1 ho
          refine ⟨vs, h4, h5, fun v vs' h6 h7 => ?_⟩
          have hmem : a ∈ g1.ρ := List.mem_of_getElem? ha1
          have hB := r1.mt a hmem
          have lm : LeN g1 H1 g1 (upd H1 a (.lst vs')) := leN_mut hB
          have ll : Le g H g1 (upd H1 a (.lst vs')) := by
            refine ⟨a1.toLeN.trans lm, fun b u e n => ?_⟩
            have nb : b ≠ a := fun z => n (z ▸ List.mem_of_getElem? ha)
            rw [upd_ne nb]
            exact a1.own b u e n
          refine k g1 _ v ll ⟨by rw [List.length_set]; exact r1.len, fun j q u e5 e6 => ?_, r1.nd, r1.mt, fun b hb => ?_⟩ (.inl (RD.mono lm _ _ h6)) fun z => by cases z
          · rw [set_get] at e6
            by_cases hj : l = j
            · rw [if_pos hj] at e6
              subst hj
              rw [ha1] at e5
              cases e5
              rw [ho] at e6
              cases e6
              exact ⟨vs', upd_same, RDs.mono lm _ _ h7⟩
            · rw [if_neg hj] at e6
              have nq : q ≠ a := fun z => by
                subst z
                obtain ⟨i1, i2⟩ := List.getElem?_eq_some_iff.mp e5
                obtain ⟨i3, i4⟩ := List.getElem?_eq_some_iff.mp ha1
                exact hj ((List.getElem?_inj i3 r1.nd).mp (ha1.trans e5.symm))
              exact (r1.obj j q u e5 e6).mono lm (upd_ne nq)
          · obtain ⟨u, e⟩ := r1.trk b hb
            exact lm.trk b u e
      · cases e
    · cases e
  · cases e
theorem mut_fin {K : PySem.W.Frag} {g g1 : G} {H H1 : Hp} {s1 : Store} {l a : Nat} {o l' : List D} {d : D} {w : Bool} {Q : VK} (k : Post K w false g H d (s1.set l (.lst l')) Q) (a1 : Le g H g1 H1) (r1 : Rel K g1 H1 s1) (hx : a ∈ g.ρ) (ha1 : g1.ρ[l]? = some a) (ho : s1[l]? = some (.lst o)) :
    ∃ vs, H1 a = some (.lst vs) ∧ RDs K g1 H1 o vs ∧ ∀ v vs', RD K g1 H1 d v → RDs K g1 H1 l' vs' → Q v (upd H1 a (.lst vs')) := by
  obtain ⟨vs, h4, h5⟩ := r1.obj l a _ ha1 ho
  refine ⟨vs, h4, h5, fun v vs' h6 h7 => ?_⟩
  have hmem : a ∈ g1.ρ := List.mem_of_getElem? ha1
  have hB := r1.mt a hmem
  have lm : LeN g1 H1 g1 (upd H1 a (.lst vs')) := leN_mut hB
  have ll : Le g H g1 (upd H1 a (.lst vs')) := by
    refine ⟨a1.toLeN.trans lm, fun b u e n => ?_⟩
    have nb : b ≠ a := fun z => n (z ▸ hx)
    rw [upd_ne nb]
    exact a1.own b u e n
  refine k g1 _ v ll ⟨by rw [List.length_set]; exact r1.len, fun j q u e5 e6 => ?_, r1.nd, r1.mt, fun b hb => ?_⟩ (.inl (RD.mono lm _ _ h6)) fun z => by cases z
  · rw [set_get] at e6
    by_cases hj : l = j
    · rw [if_pos hj] at e6
      subst hj
      rw [ha1] at e5
      cases e5
      rw [ho] at e6
      cases e6
      exact ⟨vs', upd_same, RDs.mono lm _ _ h7⟩
    · rw [if_neg hj] at e6
      have nq : q ≠ a := fun z => by
        subst z
        obtain ⟨i1, i2⟩ := List.getElem?_eq_some_iff.mp e5
        obtain ⟨i3, i4⟩ := List.getElem?_eq_some_iff.mp ha1
        exact hj ((List.getElem?_inj i3 r1.nd).mp (ha1.trans e5.symm))
      exact (r1.obj j q u e5 e6).mono lm (upd_ne nq)
  · obtain ⟨u, e⟩ := r1.trk b hb
    exact lm.trk b u e
theorem mutX_ok {o : Expr} {co : CE} {m : String} {f : Expr → CE} {es : List Expr} {apos cpos : Pos} {w : Bool} (hm : m ∈ mutNames) (hl : apos.endLine = cpos.line) (hb : attributeBase o (Str.ofString m) X.env (eval o X.env) = eval o X.env) (ho : PE X o (dE X.K (ev cl gl false co) false false)) (hz : es.length < 20) (hf : ∀ e, PE X e (dE X.K (ev cl gl false (f e)) false false)) :
    PE X (.Call (.Attribute o (Str.ofString m) apos) es [] cpos) (dE X.K (ev cl gl w (.mutX m co (erEs f es))) w false) := by
  obtain ⟨id, r, R⟩ := mt_rule (X := X) m hm
  refine ⟨fun pins s σ H Q I h => ?_⟩
  obtain ⟨g, env, st, d, st', re, rr, e0, k⟩ := h
  simp only [ev] at e0
  obtain ⟨x, s0, e1, e0⟩ := Res.bind_eq e0
  split at e0
  · rename_i l
    split at e0
    · rename_i o0 ho0
      obtain ⟨ds, s1, e3, e0⟩ := Res.bind_eq e0
      split at e0
      · rename_i o1 ho1
        obtain ⟨pp, s2, e4, e0⟩ := Res.bind_eq e0
        cases e0
        obtain ⟨hd, rfl⟩ := ofO_eq e4
        cases es with
        | nil =>
          simp only [erEs, evEs] at e3
          cases e3
          refine (pe_bm0 PySem.F.plainAttrs_list R.slot R.ty R.mt ho hb (by simp [hl])).run pins s σ H Q I (dE_go re rr e1 fun g1 H1 v1 a1 r1 rd1 => ?_)
          have h2 := rd1.ff
          unfold RD at h2
          obtain ⟨a, rfl, ha⟩ := h2
          obtain ⟨vs0, h3, _⟩ := r1.obj l a _ ha ho0
          refine ⟨.inl ⟨rfl, _, .inl (.inl h3)⟩, ?_⟩
          obtain ⟨vs, h4, h5, kk⟩ := mut_fin (k.shift a1) (.refl _ _) r1 (List.mem_of_getElem? ha) ha ho1
          exact R.ok o1 [] _ pp.1 pp.2 hd g1 H1 a vs [] Q h4 h5 RDs.nil r1 kk
        | cons e es =>
          have pl := evEs_plain e3
          have pl2 := pl
          rw [List.all_cons, Bool.and_eq_true] at pl
          refine (pe_bm PySem.F.plainAttrs_list R.slot R.ty R.mt ho (pa_ok hf (e :: es)) hb (few_ok pl2 hz) (by simp [hl]) (star_ok pl.1) (plain_any (e := e) pl.2)).run pins s σ H Q I (dE_go re rr e1 fun g1 H1 v1 a1 r1 rd1 => ?_)
          have h2 := rd1.ff
          unfold RD at h2
          obtain ⟨a, rfl, ha⟩ := h2
          obtain ⟨vs0, h3, _⟩ := r1.obj l a _ ha ho0
          refine ⟨.inl ⟨rfl, _, .inl (.inl h3)⟩, ?_⟩
          refine dA_go (re.mono a1) r1 e3 fun g2 H2 args a2 r2 rd2 => ?_
          obtain ⟨vs, h4, h5, kk⟩ := mut_fin (k.shift a1) a2 r2 (List.mem_of_getElem? ha) (a2.toLeN.get ha) ho1
          exact R.ok o1 ds _ pp.1 pp.2 hd g2 H2 a vs args Q h4 h5 rd2.ds r2 kk
      · cases e0
    · cases e0
  · cases e0
theorem mut_e {x : Str} {m : String} {f : Expr → CE} {es : List Expr} {p apos cpos : Pos} {w : Bool} (hm : m ∈ mutNames) (hl : apos.endLine = cpos.line) (hx : okN x = true) (hv : visB X.env.scope x = true) (hN : X.N[ixOf T.N x]? = some x) (hz : es.length < 20) (hf : ∀ e, PE X e (dE X.K (ev cl gl false (f e)) false false)) :
    PE X (.Call (.Attribute (.Name x p) (Str.ofString m) apos) es [] cpos) (dE X.K (ev cl gl w (.mut m (ixOf T.N x) (erEs f es))) w false) := (mutE_ok hm hl hx hv hN hz hf).imp fun _ _ _ z => mut_imp z
end
end Ev
/-! Ev12: every expression -/
namespace Ev
open PySem L2 PySem.Spec PyProof.Rows
section
variable {T : Tab} {cl : String → List D → Store → Res D} {gl : String → Option D}
theorem erE_sub {n : Nat} {sc : Scope} {a i : Expr} {p : Pos} (h : notSl i = true) : erE T (n + 1) sc (.Subscript a i p) = .idx (erE T n sc a) (erE T n sc i) := by
  cases i <;> first | rfl | cases h
theorem erI_seq {X : Cx} (S : Sd X T cl gl) {n : Nat} (hf : ∀ w e, PE X e (dE X.K (ev cl gl w (erE T n X.env.scope e)) w false)) (tg it : Expr) (hns : notSet it = true) : PI X tg it (dI X.K (evI cl gl (erI T X.env.scope (erE T n X.env.scope) tg it))) := by
  have sq : ∀ it, PI X tg it (dI X.K (evI cl gl (.seq (erE T n X.env.scope it)))) := fun it => seqI_ok (hf false it)
  cases it with
  | Name x p =>
    simp only [erI]
    split
    · rename_i h
      rw [Bool.and_eq_true, Bool.and_eq_true, Bool.and_eq_true] at h
      exact ownI_ok S h.2 h.1.1.2 h.1.2
    · exact sq _
  | Call fn args kws q =>
    cases fn with
    | Name x p =>
      cases kws with
      | nil =>
        simp only [erI]
        split
        · rename_i h
          rw [Bool.and_eq_true, Bool.and_eq_true, Bool.and_eq_true] at h
          have pl := h.2
          have hg := h.1.1.1
          split
          · rename_i hx
            exact (rng_ok S hx hg (fun e => hf false e) pl).1 _ rfl
          · rename_i hx
            exact (rng_ok S hx hg (fun e => hf false e) pl).2.1 _ _ rfl
          · rename_i hx
            exact (rng_ok S hx hg (fun e => hf false e) pl).2.2 _ _ _ _ _ rfl
          · rename_i hx
            split
            · rename_i ht
              simp at pl
              exact enum_ok S hx hg (fun e => hf false e) pl ht
            · exact piBad
          · rename_i hx
            split
            · rename_i ht
              simp at pl
              exact zip_ok S hx hg (fun e => hf false e) pl.1 pl.2 ht
            · exact piBad
          · exact sq _
        · exact sq _
      | cons _ _ => exact sq _
    | _ => exact sq _
  | Set _ _ _ => cases hns
  | _ => exact sq _
theorem and3 {a b c : Bool} (h : (a && !b && !c) = true) : a = true ∧ b = false ∧ c = false := by
  cases a <;> cases b <;> cases c <;> simp_all
theorem peGdF {X : Cx} {e : Expr} {w b : Bool} {c : CE} (h : b = true → PE X e (dE X.K (ev cl gl w c) w (isFr c))) : PE X e (dE X.K (ev cl gl w (gd b c)) w (isFr (gd b c))) := by
  cases b with
  | true => exact h rfl
  | false => exact peBad
def LcP (X : Cx) (cl : String → List D → Store → Res D) (gl : String → Option D) (e tg it : Expr) (ifs : List Expr) (scope : Scope) (c : CE) : Prop := c = .bad ∨ ∃ (own : List (Str × Nat)) (cg : CG) (ci : CI) (cc : CO2) (ce : CE), c = .lc (own.map (·.2)) cg ci cc ce ∧ notSet it = true ∧ PI X tg it (dI X.K (evI cl gl ci)) ∧ BlkOk X.N X.env.scope scope own ∧ (∀ i, i ∈ cgIx cg → i ∈ own.map (·.2)) ∧
  (∀ (s : Shared) (H : Hp) (C : Addr) (cl0 : List (Str × Addr)) (fp : List Addr), PG (X.blk s H scope (compEnvC scope cl0 C X.env) fp) tg (toTG X.K cg)) ∧
  (∀ (s : Shared) (H : Hp) (C : Addr) (cl0 : List (Str × Addr)) (fp : List Addr), PTs (X.blk s H scope (compEnvC scope cl0 C X.env) fp) ifs (dT X.K (evC cl gl cc))) ∧
  (∀ (s : Shared) (H : Hp) (C : Addr) (cl0 : List (Str × Addr)) (fp : List Addr), PE (X.blk s H scope (compEnvC scope cl0 C X.env) fp) e (dE X.K (ev cl gl false ce) false false))
theorem comp_parts {X : Cx} (S : Sd X T cl gl) {n : Nat} (hf : ∀ w e, PE X e (dE X.K (ev cl gl w (erE T n X.env.scope e)) w false)) {e tg it : Expr} {ifs : List Expr} {scope : Scope} {p : Pos}
    (ih : ∀ (s : Shared) (H : Hp) (C : Addr) (cl0 : List (Str × Addr)) (fp : List Addr), (∀ w e, PE (X.blk s H scope (compEnvC scope cl0 C X.env) fp) e (dE X.K (ev cl gl w (erE T n (relS scope X.env.scope) e)) w (isFr (erE T n (relS scope X.env.scope) e)))) ∧
      ∀ e, notIf e = true → PT (X.blk s H scope (compEnvC scope cl0 C X.env) fp) e (dT X.K fun env st => tst (ev cl gl false (erE T n (relS scope X.env.scope) e) env st))) :
    LcP X cl gl e tg it ifs scope (erE T (n + 1) X.env.scope (.ListComp e [⟨tg, it, ifs, 0⟩] scope p)) := by
  simp only [erE]
  split
  · exact .inl rfl
  · rename_i cg hcg
    cases hgd : (notSet it && blkC T.N X.env.scope scope ((tgNames tg).map fun x => (x, ixOf T.N x)) && ((cgIx cg).all fun i => decide (i ∈ ((tgNames tg).map fun x => (x, ixOf T.N x)).map (·.2)))) with
    | false => exact .inl rfl
    | true =>
      have h := hgd
      rw [Bool.and_eq_true, Bool.and_eq_true] at h
      obtain ⟨⟨hns, hb⟩, hs⟩ := h
      have ok : BlkOk X.N X.env.scope scope ((tgNames tg).map fun x => (x, ixOf T.N x)) := by
        rw [S.nN]
        exact blkOk_by hb
      have hsub : ∀ i, i ∈ cgIx cg → i ∈ ((tgNames tg).map fun x => (x, ixOf T.N x)).map (·.2) := fun i hi => of_decide_eq_true (List.all_eq_true.mp hs i hi)
      have hg : ∀ (s : Shared) (H : Hp) (C : Addr) (cl0 : List (Str × Addr)) (fp : List Addr), PG (X.blk s H scope (compEnvC scope cl0 C X.env) fp) tg (toTG X.K cg) := fun s H C cl0 fp =>
        pg_of (X := X.blk s H scope (compEnvC scope cl0 C X.env) fp) S.calm S.nd (by
          show erG X.N (relS scope X.env.scope) (fun x => scope.names.lookup x == some .cell) tg = some cg
          rw [S.nN]
          exact hcg)
      have hI := erI_seq S hf tg it hns
      match ifs with
      | [] => exact .inr ⟨_, cg, _, _, _, rfl, hns, hI, ok, hsub, hg, fun s H C cl0 fp => ⟨fun pins sh σ H Q I z => pts_nil.run pins sh σ H Q I (by
          obtain ⟨g, env, st, b, st', re, r, e, k⟩ := z
          simp only [evC] at e
          cases e
          exact k g H (.refl g H) r)⟩, fun s H C cl0 fp => pe_w ((ih s H C cl0 fp).1 false e)⟩
      | [c] => exact .inr ⟨_, cg, _, _, _, rfl, hns, hI, ok, hsub, hg, fun s H C cl0 fp => pts_one (ptGd fun h => (ih s H C cl0 fp).2 c h), fun s H C cl0 fp => pe_w ((ih s H C cl0 fp).1 false e)⟩
      | _ :: _ :: _ => exact .inl rfl
theorem comp_ok {X : Cx} (S : Sd X T cl gl) {e tg it : Expr} {ifs : List Expr} {scope : Scope} {p : Pos} {w : Bool} {c : CE} (h : LcP X cl gl e tg it ifs scope c) :
    PE X (.ListComp e [⟨tg, it, ifs, 0⟩] scope p) (dE X.K (ev cl gl w c) w (isFr c)) := by
  rcases h with rfl | ⟨own, cg, ci, cc, ce, rfl, h1, h2, h3, h4, h5, h6, h7⟩
  · exact peBad
  · exact lc_ok S.calm S.nd h1 h2 h3 h4 h5 h6 h7
def DcP (X : Cx) (cl : String → List D → Store → Res D) (gl : String → Option D) (e v tg it : Expr) (ifs : List Expr) (scope : Scope) (c : CE) : Prop := c = .bad ∨ ∃ (own : List (Str × Nat)) (cg : CG) (ci : CI) (cc : CO2) (ce cv : CE), c = .dc (own.map (·.2)) cg ci cc ce cv ∧ notSet it = true ∧ PI X tg it (dI X.K (evI cl gl ci)) ∧ BlkOk X.N X.env.scope scope own ∧ (∀ i, i ∈ cgIx cg → i ∈ own.map (·.2)) ∧
  (∀ (s : Shared) (H : Hp) (C : Addr) (cl0 : List (Str × Addr)) (fp : List Addr), PG (X.blk s H scope (compEnvC scope cl0 C X.env) fp) tg (toTG X.K cg)) ∧
  (∀ (s : Shared) (H : Hp) (C : Addr) (cl0 : List (Str × Addr)) (fp : List Addr), PTs (X.blk s H scope (compEnvC scope cl0 C X.env) fp) ifs (dT X.K (evC cl gl cc))) ∧
  (∀ (s : Shared) (H : Hp) (C : Addr) (cl0 : List (Str × Addr)) (fp : List Addr), PE (X.blk s H scope (compEnvC scope cl0 C X.env) fp) e (dE X.K (ev cl gl false ce) false false)) ∧
  (∀ (s : Shared) (H : Hp) (C : Addr) (cl0 : List (Str × Addr)) (fp : List Addr), PE (X.blk s H scope (compEnvC scope cl0 C X.env) fp) v (dE X.K (ev cl gl false cv) false false))
theorem dcomp_parts {X : Cx} (S : Sd X T cl gl) {n : Nat} (hf : ∀ w e, PE X e (dE X.K (ev cl gl w (erE T n X.env.scope e)) w false)) {e v tg it : Expr} {ifs : List Expr} {scope : Scope} {p : Pos}
    (ih : ∀ (s : Shared) (H : Hp) (C : Addr) (cl0 : List (Str × Addr)) (fp : List Addr), (∀ w e, PE (X.blk s H scope (compEnvC scope cl0 C X.env) fp) e (dE X.K (ev cl gl w (erE T n (relS scope X.env.scope) e)) w (isFr (erE T n (relS scope X.env.scope) e)))) ∧
      ∀ e, notIf e = true → PT (X.blk s H scope (compEnvC scope cl0 C X.env) fp) e (dT X.K fun env st => tst (ev cl gl false (erE T n (relS scope X.env.scope) e) env st))) :
    DcP X cl gl e v tg it ifs scope (erE T (n + 1) X.env.scope (.DictComp e v [⟨tg, it, ifs, 0⟩] scope p)) := by
  simp only [erE]
  split
  · exact .inl rfl
  · rename_i cg hcg
    cases hgd : (notSet it && blkC T.N X.env.scope scope ((tgNames tg).map fun x => (x, ixOf T.N x)) && ((cgIx cg).all fun i => decide (i ∈ ((tgNames tg).map fun x => (x, ixOf T.N x)).map (·.2)))) with
    | false => exact .inl rfl
    | true =>
      have h := hgd
      rw [Bool.and_eq_true, Bool.and_eq_true] at h
      obtain ⟨⟨hns, hb⟩, hs⟩ := h
      have ok : BlkOk X.N X.env.scope scope ((tgNames tg).map fun x => (x, ixOf T.N x)) := by
        rw [S.nN]
        exact blkOk_by hb
      have hsub : ∀ i, i ∈ cgIx cg → i ∈ ((tgNames tg).map fun x => (x, ixOf T.N x)).map (·.2) := fun i hi => of_decide_eq_true (List.all_eq_true.mp hs i hi)
      have hg : ∀ (s : Shared) (H : Hp) (C : Addr) (cl0 : List (Str × Addr)) (fp : List Addr), PG (X.blk s H scope (compEnvC scope cl0 C X.env) fp) tg (toTG X.K cg) := fun s H C cl0 fp =>
        pg_of (X := X.blk s H scope (compEnvC scope cl0 C X.env) fp) S.calm S.nd (by
          show erG X.N (relS scope X.env.scope) (fun x => scope.names.lookup x == some .cell) tg = some cg
          rw [S.nN]
          exact hcg)
      have hI := erI_seq S hf tg it hns
      match ifs with
      | [] => exact .inr ⟨_, cg, _, _, _, _, rfl, hns, hI, ok, hsub, hg, fun s H C cl0 fp => ⟨fun pins sh σ H Q I z => pts_nil.run pins sh σ H Q I (by
          obtain ⟨g, env, st, b, st', re, r, e, k⟩ := z
          simp only [evC] at e
          cases e
          exact k g H (.refl g H) r)⟩, fun s H C cl0 fp => pe_w ((ih s H C cl0 fp).1 false e), fun s H C cl0 fp => pe_w ((ih s H C cl0 fp).1 false v)⟩
      | [c] => exact .inr ⟨_, cg, _, _, _, _, rfl, hns, hI, ok, hsub, hg, fun s H C cl0 fp => pts_one (ptGd fun h => (ih s H C cl0 fp).2 c h), fun s H C cl0 fp => pe_w ((ih s H C cl0 fp).1 false e), fun s H C cl0 fp => pe_w ((ih s H C cl0 fp).1 false v)⟩
      | _ :: _ :: _ => exact .inl rfl
theorem dcomp_ok {X : Cx} (S : Sd X T cl gl) {e v tg it : Expr} {ifs : List Expr} {scope : Scope} {p : Pos} {w : Bool} {c : CE} (h : DcP X cl gl e v tg it ifs scope c) :
    PE X (.DictComp e v [⟨tg, it, ifs, 0⟩] scope p) (dE X.K (ev cl gl w c) w (isFr c)) := by
  rcases h with rfl | ⟨own, cg, ci, cc, ce, cv, rfl, h1, h2, h3, h4, h5, h6, h7, h8⟩
  · exact peBad
  · exact dc_ok S.calm S.nd h1 h2 h3 h4 h5 h6 h7 h8
theorem callN_ok {X : Cx} (S : Sd X T cl gl) {n : Nat} (hf : ∀ w e, PE X e (dE X.K (ev cl gl w (erE T n X.env.scope e)) w false)) {x : Str} {args : List Expr} {q p : Pos} {w : Bool} :
    PE X (.Call (.Name x q) args [] p) (dE X.K (ev cl gl w (erE T (n + 1) X.env.scope (.Call (.Name x q) args [] p))) w (isFr (erE T (n + 1) X.env.scope (.Call (.Name x q) args [] p)))) := by
  simp only [erE]
  refine peGdF fun h => ?_
  rw [Bool.and_eq_true] at h
  split
  · rename_i s hs
    obtain ⟨hm, rfl⟩ := lk_some hs
    match args with
    | [] => exact peBad
    | e :: es =>
      simp only
      split
      · exact callO_ok S rfl hm h.1 h.2 (fun e => hf true e)
      · rename_i hb
        exact callF_ok S hb hm h.1 h.2 (fun e => hf false e)
      · exact call_ok S hm h.1 h.2 (fun e => hf false e)
  · split
    · rename_i c hs
      obtain ⟨hm, rfl⟩ := lk_some hs
      exact mkI_ok S hm h.1 h.2 (fun e => hf false e)
    split
    · rename_i a hs
      unfold lsArg at hs
      split at hs
      · rename_i y py a' q'
        split at hs
        · rename_i hb
          cases hs
          simp only [Bool.and_eq_true, decide_eq_true_eq] at hb
          obtain ⟨⟨⟨⟨rfl, rfl⟩, h2⟩, h3⟩, h4⟩ := hb
          exact lset_ok S (glo_of h.1) (glo_of h2) h4 (hf true _)
        · cases hs
      · cases hs
    · split
      · rename_i s hs
        obtain ⟨hm, rfl⟩ := lk_some hs
        match args with
        | [] => exact peBad
        | e :: es => exact blt_ok S hm h.1 h.2 (fun e => hf true e)
      · split
        · rename_i a ty q2 hs _
          obtain ⟨hm, rfl⟩ := lk_some hs
          refine peGdF fun h2 => ?_
          rw [Bool.and_eq_true, Bool.and_eq_true] at h2
          split
          · rename_i t ht
            obtain ⟨hm2, rfl⟩ := lk_some ht
            exact isi_ok S hm2 h.1 h2.1.2 h2.2 h2.1.1 (hf true a)
          · exact peBad
        · rename_i a hs _
          obtain ⟨hm, rfl⟩ := lk_some hs
          exact peGdF fun h2 => dcp_ok S (glo_of h.1) h2 (hf true a)
        · exact peBad
section
variable {K : PySem.W.Frag} {g g' g0 : G} {H H' H0 : Hp} {env : Env} {σ : L2.St} {st st' : Store}
/-- a thing of the store changes -/
theorem rel_setAtS {l : Nat} {a : Addr} {o' : O} {ho : HO} (r : Rel K g H st) (ha : g.ρ[l]? = some a) (ro : RS K g (upd H a ho) o' a) : Rel K g (upd H a ho) (st.set l o') ∧ Le g H g (upd H a ho) := by
  have hm : a ∈ g.ρ := List.mem_of_getElem? ha
  have lm : LeN g H g (upd H a ho) := leN_mut (r.mt a hm)
  refine ⟨⟨by rw [List.length_set]; exact r.len, fun j q u e5 e6 => ?_, r.nd, r.mt, fun b hb => ?_⟩, lm, fun b u e n => ⟨?_, Iff.rfl⟩⟩
  · rw [set_get] at e6
    by_cases hj : l = j
    · rw [if_pos hj] at e6
      subst hj
      rw [ha] at e5
      cases e5
      cases hx : st[l]? with
      | none =>
        rw [hx] at e6
        cases e6
      | some _ =>
        rw [hx] at e6
        cases e6
        exact ro
    · rw [if_neg hj] at e6
      have nq : q ≠ a := fun z => by
        subst z
        obtain ⟨i3, i4⟩ := List.getElem?_eq_some_iff.mp ha
        exact hj ((List.getElem?_inj i3 r.nd).mp (ha.trans e5.symm))
      exact (r.obj j q u e5 e6).mono lm (upd_ne nq)
  · obtain ⟨u, e⟩ := r.trk b hb
    exact lm.trk b u e
  · rw [upd_ne (show b ≠ a from fun z => n (z ▸ hm))]
    exact e
theorem rel_setAt {l : Nat} {a : Addr} {o' : O} {ho : HO} (r : Rel K g H st) (ha : g.ρ[l]? = some a) (ro : RO K g (upd H a ho) o' a) : Rel K g (upd H a ho) (st.set l o') ∧ Le g H g (upd H a ho) := rel_setAtS r ha ro.rs
theorem rel_pushNew {p : Addr} {o : O} {ho : HO} (r : Rel K g H st) (hp : H p = none) (ro : RS K (g.add p) (upd H p ho) o p) : Rel K (g.push p) (upd H p ho) (st ++ [o]) := by
  have hn : p ∉ (g.add p).ρ := fun z => by
    have := r.mt p z
    obtain ⟨o, ho⟩ := r.trk p this
    rw [hp] at ho
    cases ho
  have h := rel_pushS (p := p) (o := o) (r.addNew (o := ho) hp) (.inr rfl) ro hn
  have e : (g.add p).push p = g.push p := by
    show G.mk _ _ = G.mk _ _
    congr 1
    funext b
    exact propext ⟨fun z => z.elim id .inr, fun z => z.elim (fun y => .inl (.inl y)) .inr⟩
  rw [← e]
  exact h
end
theorem setd_ok {X : Cx} (S : Sd X T cl gl) {o e : Expr} {co ck : CE} {lp apos cpos : Pos} {w : Bool} (hb : isNA o = true) (hl : apos.endLine = cpos.line) (hs : notStar e = true) (ho : PE X o (dE X.K (ev cl gl false co) false false)) (he : PE X e (dE X.K (ev cl gl false ck) false false)) :
    PE X (.Call (.Attribute o "setdefault" apos) [e, .List [] lp] [] cpos) (dE X.K (ev cl gl w (.setd co ck)) w false) := by
  have hm : M2 X o "setdefault" apos e (.List [] lp) cpos := ⟨base_NA hb, few_ok (by rw [List.all_cons, hs]; rfl) (by simp), by simp [hl], by rw [star_ok hs, star_ok (e := .List [] lp) rfl]; rfl⟩
  refine ⟨fun pins s σ H Q I h => ?_⟩
  obtain ⟨g, env, st, d, st', re, r, e0, k⟩ := h
  simp only [ev] at e0
  obtain ⟨x, s1, e1, e0⟩ := Res.bind_eq e0
  split at e0
  · rename_i l
    split at e0
    · rename_i t0 kv0 h0
      obtain ⟨y, s2, e2, e0⟩ := Res.bind_eq e0
      split at e0
      · rename_i t kvs hk
        split at e0
        · rename_i hc
          obtain ⟨rfl, hkey, hz⟩ := hc
          refine (pe_dsetd ho he (pe_lst pa_nil) hm).run pins s σ H Q I (dE_go re r e1 fun g1 H1 v1 a1 r1 rd1 => ?_)
          have h2 := rd1.ff
          unfold RD at h2
          obtain ⟨a, rfl, ha⟩ := h2
          refine ⟨a, rfl, isD_ok (r1.obj l a _ ha h0), dE_go (re.mono a1) r1 e2 fun g2 H2 v2 a2 r2 rd2 => ?_⟩
          refine ⟨Nat.zero_le _, fun p hp => ?_⟩
          have ha2 := a2.toLeN.get ha
          have ro2 : RO X.K g2 H2 (.dct false kvs) a := r2.obj l a _ ha2 hk
          have l3 : Le g2 H2 g2 (upd H2 p (.lst [])) := le_new hp r2.trk
          have r3 : Rel X.K g2 (upd H2 p (.lst [])) s2 := r2.new (o := .lst []) hp
          rcases ro2 with ⟨_, ks, h3, h4⟩ | ⟨hf, _⟩
          · have hne : a ≠ p := fun z => by
              subst z
              rw [hp] at h3
              cases h3
            have hk3 : upd H2 p (.lst []) a = some (.dK ks) := by
              rw [upd_ne hne]
              exact h3
            simp only [keyOk, Option.isSome_iff_exists] at hkey
            obtain ⟨kk, hk1⟩ := hkey
            have hv2 : v2 = kV kk := key1_v rd2.ff hk1
            have look := look_f hk1 h4
            refine ⟨ks, kk, hk3, hv2, by rw [rkf_len h4]; exact hz, fun v hv => ?_, fun hn => ?_⟩
            · cases hlk : lookK kvs y with
              | some d0 =>
                rw [hlk] at e0
                cases e0
                rw [hlk, hv] at look
                have look : RD X.K g2 H2 _ v := look
                exact (k.shift ((a1.trans a2).trans l3)) g2 _ v (.refl _ _) r3 (.inl (RD.mono l3.toLeN _ _ look)) fun z => by cases z
              | none =>
                rw [hlk, hv] at look
                exact look.elim
            · cases hlk : lookK kvs y with
              | some d0 =>
                rw [hlk, hn] at look
                exact look.elim
              | none =>
                rw [hlk] at e0
                cases e0
                have a4 : Le g2 H2 (g2.push p) (upd H2 p (.lst [])) := le_push l3 hp
                have r4 : Rel X.K (g2.push p) (upd H2 p (.lst [])) (s2 ++ [.lst []]) := rel_pushNew r2 hp ⟨[], upd_same, RDs.nil⟩
                have ha4 : (g2.push p).ρ[l]? = some a := a4.toLeN.get ha2
                have hB : (g2.push p).B a := .inl (r2.mt a (List.mem_of_getElem? ha2))
                have rr : RD X.K (g2.push p) (upd H2 p (.lst [])) (.ref s2.length) (.ref p) := push_ref r2
                have ro' : RO X.K (g2.push p) (upd (upd H2 p (.lst [])) a (.dK (L2.putK ks kk (.ref p)))) (.dct false (putD kvs y (.ref s2.length))) a :=
                  .inl ⟨rfl, _, upd_same, RKf.mono (leN_mut hB) _ _ (put_f hk1 rr (RKf.mono a4.toLeN _ _ h4))⟩
                obtain ⟨r5, a5⟩ := rel_setAt r4 ha4 ro'
                exact (k.shift ((a1.trans a2).trans (a4.trans a5))) _ _ _ (.refl _ _) r5 (.inl (push_ref r2)) fun z => by cases z
          · cases hf
        · cases e0
      · cases e0
    · cases e0
  · cases e0
theorem callM_ok {X : Cx} (S : Sd X T cl gl) {n : Nat} (hf : ∀ w e, PE X e (dE X.K (ev cl gl w (erE T n X.env.scope e)) w false)) {o : Expr} {m : Str} {args : List Expr} {ap p : Pos} {w : Bool} :
    PE X (.Call (.Attribute o m ap) args [] p) (dE X.K (ev cl gl w (erE T (n + 1) X.env.scope (.Call (.Attribute o m ap) args [] p))) w (isFr (erE T (n + 1) X.env.scope (.Call (.Attribute o m ap) args [] p)))) := by
  simp only [erE]
  refine peGdF fun h => ?_
  have hl := of_decide_eq_true h
  split
  · rename_i s hs
    obtain ⟨hm, rfl⟩ := lk_some hs
    refine peGdF fun h2 => ?_
    rw [Bool.and_eq_true] at h2
    exact meth_ok S hl h2.1 (of_decide_eq_true h2.2) (hf false _) (fun e => hf false e)
  cases o with
  | Attribute a0 f0 q0 =>
    simp only
    split
    · rename_i s a hs
      obtain ⟨hm, rfl⟩ := lk_some hs
      simp at hm
      subst hm
      exact get1_ok S rfl hl (hf true _) (fun e => hf false e)
    · rename_i s a b hs
      obtain ⟨hm, rfl⟩ := lk_some hs
      simp at hm
      subst hm
      exact get2_ok S rfl hl (hf true _) (fun e => hf false e)
    · split
      · rename_i s hs
        obtain ⟨hm, rfl⟩ := lk_some hs
        refine peGdF fun h2 => ?_
        exact mutX_ok hm hl rfl (hf false _) (of_decide_eq_true h2) (fun e => hf false e)
      · split
        · rename_i s lp hs _ _
          obtain ⟨hm, e⟩ := lk_some hs
          simp at hm
          subst hm
          subst e
          exact peGdF fun h2 => setd_ok S rfl hl h2 (hf false _) (hf false _)
        · exact peBad
  | Call fx as ks p =>
    cases fx with
    | Attribute a f p1 =>
      simp only
      split
      · rename_i s hs
        obtain ⟨hm, rfl⟩ := lk_some hs
        refine peGdF fun h2 => ?_
        exact mutX_ok hm hl rfl (hf false _) (of_decide_eq_true h2) (fun e => hf false e)
      · exact peBad
    | _ => exact peBad
  | Name x q =>
    simp only
    split
    · rename_i s a hs
      obtain ⟨hm, rfl⟩ := lk_some hs
      simp at hm
      rcases hm with rfl | rfl
      · exact index_ok S hl (hf true _) (fun e => hf false e)
      · exact count_ok S hl (hf true _) (fun e => hf false e)
    rename_i hneg
    clear hneg
    split
    · rename_i s a hs
      obtain ⟨hm, rfl⟩ := lk_some hs
      simp at hm
      subst hm
      exact get1_ok S rfl hl (hf true _) (fun e => hf false e)
    · rename_i s a b hs
      obtain ⟨hm, rfl⟩ := lk_some hs
      simp at hm
      subst hm
      exact get2_ok S rfl hl (hf true _) (fun e => hf false e)
    · split
      · rename_i s hs
        obtain ⟨hm, rfl⟩ := lk_some hs
        refine peGdF fun h2 => ?_
        rw [Bool.and_eq_true, Bool.and_eq_true, Bool.and_eq_true] at h2
        exact mut_e hm hl h2.1.2 h2.1.1.1 (by rw [S.nN]; exact of_decide_eq_true h2.1.1.2) (of_decide_eq_true h2.2) (fun e => hf false e)
      · exact peBad
  | Subscript a i p =>
    simp only
    split
    · rename_i s hs
      obtain ⟨hm, rfl⟩ := lk_some hs
      refine peGdF fun h2 => ?_
      exact mutX_ok hm hl rfl (hf false _) (of_decide_eq_true h2) (fun e => hf false e)
    · exact peBad
  | _ => exact peBad
theorem minD_ok {X : Cx} (S : Sd X T cl gl) {ca : CE} {a : Expr} {kk : Nat} {p pos cp kp : Pos} {w : Bool} (hg : gloB X.env.scope "min" = true) (hs : notStar a = true) (ha : PE X a (dE X.K (ev cl gl true ca) true false)) :
    PE X (.Call (.Name "min" p) [a] [⟨some "default", .Constant .none kk cp, kp⟩] pos) (dE X.K (ev cl gl w (.minD ca)) w false) := by
  have hmg : X.mg (Str.ofString "min") = none := S.blt "min" (by decide)
  have hb : bootBuiltins (Str.ofString "min") = some (.builtin "min") := by decide +kernel
  have hk : PK X [⟨some "default", .Constant .none kk cp, kp⟩] (tCons (tC .non) tNil) := pk_cons (pe_non (j := kk)) pk_nil
  have hp := pe_callBK (pos := pos) (p := p) (cr_minD S.calm) (glo_of hg) hmg hb (pa_cons ha pa_nil (hs := star_ok hs)) hk (by decide) (by decide) (by
    show backTo pos (starEach (a :: []) X.env) = _
    rw [star_ok hs]
    rfl) (by
    rw [star_ok hs]
    rfl) rfl rfl rfl
  refine hp.imp fun σ H Q h => ?_
  obtain ⟨g, env, st, d, st', re, r, e0, k⟩ := h
  simp only [ev] at e0
  obtain ⟨x, s1, e1, e0⟩ := Res.bind_eq e0
  split at e0
  · rename_i l hl
    cases hn : allI l with
    | none =>
      rw [hn] at e0
      cases e0
    | some ns =>
      rw [hn] at e0
      have e0 : Res.ok (minO ns) s1 = .ok d st' := e0
      cases e0
      refine dE_go re r e1 fun g1 H1 v1 a1 r1 rd1 => ?_
      obtain ⟨q, vs, rfl, h1, h2⟩ := asL_ok r1 rd1 hl
      rw [ints_v h2 hn] at h1
      refine ⟨q, ns, rfl, rfl, SqL.of h1, fun hz => ?_, fun m hm hle => ?_⟩
      · subst hz
        exact (k.shift a1).non r1
      · have e3 : ns.min? = some m := List.min?_eq_some_iff.mpr ⟨hm, hle⟩
        have e4 : minO ns = .int m := by
          unfold minO
          rw [e3]
        rw [e4] at k
        exact (k.shift a1).int r1
  · cases e0
theorem callK_ok {X : Cx} (S : Sd X T cl gl) {n : Nat} (hf : ∀ w e, PE X e (dE X.K (ev cl gl w (erE T n X.env.scope e)) w false)) {x : Str} {q p : Pos} {args : List Expr} {kw : Keyword} {kws : List Keyword} {w : Bool} :
    PE X (.Call (.Name x q) args (kw :: kws) p) (dE X.K (ev cl gl w (erE T (n + 1) X.env.scope (.Call (.Name x q) args (kw :: kws) p))) w (isFr (erE T (n + 1) X.env.scope (.Call (.Name x q) args (kw :: kws) p)))) := by
  cases args with
  | nil =>
    simp only [erE]
    exact peBad
  | cons a r =>
    cases r with
    | cons _ _ =>
      simp only [erE]
      exact peBad
    | nil =>
      obtain ⟨ko, v, kp⟩ := kw
      cases ko with
      | none => exact peBad
      | some k =>
        cases v with
        | Constant c kk cp =>
          cases c with
          | none =>
            cases kws with
            | cons _ _ => exact peBad
            | nil =>
              simp only [erE]
              refine peGdF fun h => ?_
              simp only [Bool.and_eq_true, decide_eq_true_eq] at h
              obtain ⟨rfl, rfl, hg, hs⟩ := h
              exact minD_ok S hg hs (hf true a)
          | _ => exact peBad
        | _ => exact peBad
theorem snd_e : ∀ (n : Nat) (X : Cx) (S : Sd X T cl gl), (∀ w e, PE X e (dE X.K (ev cl gl w (erE T n X.env.scope e)) w (isFr (erE T n X.env.scope e)))) ∧ ∀ e, notIf e = true → PT X e (dT X.K fun env st => tst (ev cl gl false (erE T n X.env.scope e) env st))
  | 0, X, S => ⟨fun _ _ => peBad, fun _ _ => PT.bad⟩
  | n + 1, X, S => by
    obtain ⟨ih, ihT⟩ := snd_e n X S
    have hf : ∀ w e, PE X e (dE X.K (ev cl gl w (erE T n X.env.scope e)) w false) := fun w e => pe_w (ih w e)
    have main : ∀ w e, PE X e (dE X.K (ev cl gl w (erE T (n + 1) X.env.scope e)) w (isFr (erE T (n + 1) X.env.scope e))) := by
      intro w e
      cases e with
      | Constant c k p => exact const_ok
      | Name x p => exact name_ok S
      | BinOp a o b p =>
        simp only [erE]
        split
        · rename_i o' ho
          exact bin_ok ho (hf true a) (hf true b)
        · exact peBad
      | UnaryOp o a p =>
        cases o with
        | Not => exact not_ok (peGd fun _ => hf false a)
        | USub => exact neg_ok (hf false a)
        | _ => exact peBad
      | BoolOp o es p =>
        cases o with
        | And => match es with
          | [] => exact peBad
          | [_] => exact peBad
          | a :: b :: r => exact and_ok (peGd fun _ => hf false a) (and_tail (fun e => hf false e) (b :: r) (List.cons_ne_nil _ _))
        | Or => match es with
          | [] => exact peBad
          | [_] => exact peBad
          | a :: b :: r => exact or_ok (peGd fun _ => hf false a) (or_tail (fun e => hf false e) (b :: r) (List.cons_ne_nil _ _))
      | Compare a os cs p => match os, cs with
        | [o], [b] => exact peGdF fun h => cmp_ok S h (hf true a) (hf true b)
        | [o, o'], [b, c] => exact peGdF fun h => cmp2_ok S (and3 h).1 (and3 h).2.1 (and3 h).2.2 (hf true a) (hf true b) (hf true c)
        | [], _ => exact peBad
        | [_], [] => exact peBad
        | [_], _ :: _ :: _ => exact peBad
        | [_, _], [] => exact peBad
        | [_, _], [_] => exact peBad
        | [_, _], _ :: _ :: _ :: _ => exact peBad
        | _ :: _ :: _ :: _, _ => exact peBad
      | IfExp c a b p => exact ife_ok (ptGd fun h => ihT c h) (hf false a) (hf false b)
      | Subscript a i p =>
        by_cases hs : notSl i = true
        · rw [erE_sub hs]
          exact idx_ok S hs (hf true a) (hf false i)
        · cases i with
          | Slice lo hi step p2 =>
            cases step with
            | none => exact slc_ok (hf true a) (fun e => hf false e)
            | some st =>
              have e0 : erE T (n + 1) X.env.scope (.Subscript a (.Slice lo hi (some st) p2) p) = match isRev (.Slice lo hi (some st) p2) with
                | true => .rev (erE T n X.env.scope a)
                | false => .bad := rfl
              rw [e0]
              cases hr : isRev (.Slice lo hi (some st) p2) with
              | false => exact peBad
              | true =>
                obtain ⟨k, p1, p2, p3, e1⟩ := isRev_eq hr
                cases e1
                exact rev_ok (hf true a)
          | _ => exact absurd rfl hs
      | Tuple es k p => exact tup_ok (fun e => hf false e)
      | List es p => exact lst_ok (fun e => hf false e)
      | Dict ks vs p => match ks, vs with
        | [], [] => exact dnew_ok
        | [], _ :: _ => exact peBad
        | _ :: _, _ => exact peBad
      | ListComp e gens scope p => match gens with
        | [] => exact peBad
        | ⟨_, _, _, .negSucc _⟩ :: _ :: _ => exact peBad
        | ⟨_, _, _, .ofNat 0⟩ :: _ :: _ => exact peBad
        | ⟨_, _, _, .ofNat (_ + 1)⟩ :: _ :: _ => exact peBad
        | [⟨tg, it, ifs, .negSucc _⟩] => exact peBad
        | [⟨tg, it, ifs, .ofNat (_ + 1)⟩] => exact peBad
        | [⟨tg, it, ifs, .ofNat 0⟩] => exact comp_ok S (comp_parts S hf fun s H C cl0 fp => snd_e n (X.blk s H scope (compEnvC scope cl0 C X.env) fp) (S.blk s H scope C cl0 fp))
      | Attribute a f p =>
        simp only [erE]
        split
        · rename_i s hs
          obtain ⟨hm, rfl⟩ := lk_some hs
          exact peGdF fun h => fld_ok h (hf false a)
        · exact peBad
      | DictComp ke ve gens scope p => match gens with
        | [] => exact peBad
        | ⟨_, _, _, .negSucc _⟩ :: _ :: _ => exact peBad
        | ⟨_, _, _, .ofNat 0⟩ :: _ :: _ => exact peBad
        | ⟨_, _, _, .ofNat (_ + 1)⟩ :: _ :: _ => exact peBad
        | [⟨tg, it, ifs, .negSucc _⟩] => exact peBad
        | [⟨tg, it, ifs, .ofNat (_ + 1)⟩] => exact peBad
        | [⟨tg, it, ifs, .ofNat 0⟩] => exact dcomp_ok S (dcomp_parts S hf fun s H C cl0 fp => snd_e n (X.blk s H scope (compEnvC scope cl0 C X.env) fp) (S.blk s H scope C cl0 fp))
      | Call fn args kws p =>
        cases kws with
        | cons kw kws =>
          cases fn with
          | Name x q => exact callK_ok S hf
          | Attribute _ _ _ => exact peBad
          | _ => exact peBad
        | nil =>
          cases fn with
          | Name x q => exact callN_ok S hf
          | Attribute o m ap => exact callM_ok S hf
          | _ => exact peBad
      | _ => exact peBad
    refine ⟨main, fun e he => ?_⟩
    cases e with
    | BoolOp o es p =>
      cases o with
      | And => match es with
        | [] => exact PT.bad
        | [_] => exact PT.bad
        | a :: b :: r => exact (andT_ok (ptGd fun h => ihT a h) (andT_tail (fun e h => ihT e h) (b :: r) (List.cons_ne_nil _ _))).pt
      | Or => match es with
        | [] => exact PT.bad
        | [_] => exact PT.bad
        | a :: b :: r => exact (orT_ok (ptGd fun h => ihT a h) (orT_tail (fun e h => ihT e h) (b :: r) (List.cons_ne_nil _ _))).pt
    | UnaryOp o a p =>
      cases o with
      | Not => exact notT_ok (ptGd fun h => ihT a h)
      | USub => exact tv_ok (pe_w (main false _)) fun _ => rfl
      | _ => exact PT.bad
    | Compare a os cs p => match os, cs with
      | [o], [b] => exact ptGd fun h => cmpT_ok S h (hf true a) (hf true b)
      | [o, o'], [b, c] => exact ptGd fun h => cmp2T_ok S (and3 h).1 (and3 h).2.1 (and3 h).2.2 (hf true a) (hf true b) (hf true c)
      | [], _ => exact PT.bad
      | [_], [] => exact PT.bad
      | [_], _ :: _ :: _ => exact PT.bad
      | [_, _], [] => exact PT.bad
      | [_, _], [_] => exact PT.bad
      | [_, _], _ :: _ :: _ :: _ => exact PT.bad
      | _ :: _ :: _ :: _, _ => exact PT.bad
    | IfExp _ _ _ _ => cases he
    | _ => exact tv_ok (pe_w (main false _)) fun _ => rfl
end
end Ev
/-! Ev13: a frame's things through its statements -/
namespace Ev
open PySem L2 PySem.Spec PyProof.Rows
def G.del (g : G) (p : Addr) : G := ⟨fun b => g.B b ∧ b ≠ p, g.ρ⟩
section
variable (K : PySem.W.Frag)
structure RF (g0 : G) (H0 : Hp) (g : G) (H : Hp) (env : Env) (σ : L2.St) (st : Store) : Prop where
  re : RE K g H env σ
  rel : Rel K g H st
  le : Le g0 H0 g H
  fr : ∀ (i : Nat) (o : O) (p : Addr), env[i]? = some (.own o) → σ[i]? = some (some (.ref p)) → H0 p = none
def OutOk (fl : Bool) (g0 : G) (H0 : Hp) (g : G) (H : Hp) (En : Ends) (o : Out) (st : Store) : Prop := match o with
  | .nx e => ∀ g' H' σ', LeN g H g' H' → RF K g0 H0 g' H' e σ' st → En.nx σ' H'
  | .brk e => ∀ g' H' σ', LeN g H g' H' → RF K g0 H0 g' H' e σ' st → En.bk σ' H'
  | .cont e => ∀ g' H' σ', LeN g H g' H' → RF K g0 H0 g' H' e σ' st → En.ct σ' H'
  | .ret d => ∀ g' H' v, Le g0 H0 g' H' → Rel K g' H' st → RD K g' H' d v → (fl = true → FrV K H0 g' H' st d v) → En.rt v H'
def dS (fl : Bool) (f : Env → Store → Res Out) : TS := fun D σ H => ∃ g0 H0 g env st o st', RF K g0 H0 g H env σ st ∧ f env st = .ok o st' ∧ OutOk K fl g0 H0 g H D o st'
end
theorem _root_.L2.PS.imp {X : Cx} {s : Stmt} {t t' : TS} (h : PS X s t) (k : ∀ D σ H, t' D σ H → t D σ H) : PS X s t' := ⟨fun pins sh σ H D I z => h.run pins sh σ H D I (k D σ H z)⟩
theorem _root_.L2.PSs.imp {X : Cx} {s : List Stmt} {t t' : TS} (h : PSs X s t) (k : ∀ D σ H, t' D σ H → t D σ H) : PSs X s t' := ⟨fun pins sh σ H D I z => h.run pins sh σ H D I (k D σ H z)⟩
section
variable {K : PySem.W.Frag} {g g' g0 : G} {H H' H0 : Hp} {env : Env} {σ : L2.St} {st st' : Store} {En : Ends} {ot : Out}
theorem OutOk.shift {fl : Bool} (a : LeN g H g' H') (h : OutOk K fl g0 H0 g H En ot st) : OutOk K fl g0 H0 g' H' En ot st := by
  cases ot with
  | ret d => exact h
  | _ => exact fun g2 H2 σ2 l r => h g2 H2 σ2 (a.trans l) r
theorem RF.mono (h : RF K g0 H0 g H env σ st) (a : Le g H g' H') (r : Rel K g' H' st') : RF K g0 H0 g' H' env σ st' := ⟨h.re.mono a, r, h.le.trans a, h.fr⟩
theorem own_of_set {env : Env} {i j : Nat} {d : D} {u : O} (e : (env.set i (.v d))[j]? = some (.own u)) : i ≠ j ∧ env[j]? = some (.own u) := by
  rw [set_get] at e
  by_cases h : i = j
  · rw [if_pos h] at e
    cases hx : env[j]? with
    | none =>
      rw [hx] at e
      cases e
    | some _ =>
      rw [hx] at e
      cases e
  · rw [if_neg h] at e
    exact ⟨h, e⟩
theorem RF.setV {d : D} {v : V} (h : RF K g0 H0 g H env σ st) (rd : RD K g H d v) (i : Nat) : RF K g0 H0 g H (env.set i (.v d)) (σ.set i (some v)) st :=
  ⟨re_set h.re rd i, h.rel, h.le, fun j u p e1 e2 => by
    obtain ⟨n, e1⟩ := own_of_set e1
    rw [set_get, if_neg n] at e2
    exact h.fr j u p e1 e2⟩
/-- an own thing in a slot -/
theorem re_setO {o : O} {p : Addr} (h : RE K g H env σ) (ro : RO K g H o p) (hB : g.B p) (hn : p ∉ g.ρ) (hne : ∀ (j : Nat) (u : O), env[j]? = some (EV.own u) → σ[j]? ≠ some (some (V.ref p))) (i : Nat) : RE K g H (env.set i (.own o)) (σ.set i (some (.ref p))) := by
  have at_i : ∀ {j : Nat} {e : EV}, (env.set i (.own o))[j]? = some e → (i = j ∧ e = .own o ∧ (σ.set i (some (.ref p)))[j]? = some (some (.ref p))) ∨ (i ≠ j ∧ env[j]? = some e ∧ (σ.set i (some (V.ref p)))[j]? = σ[j]?) := fun {j e} z => by
    rw [set_get] at z ⊢
    by_cases hj : i = j
    · rw [if_pos hj] at z ⊢
      cases hx : env[j]? with
      | none =>
        rw [hx] at z
        cases z
      | some w =>
        rw [hx] at z
        cases z
        have := some_lt hx
        rw [h.len] at this
        exact .inl ⟨hj, rfl, by rw [List.getElem?_eq_getElem this]; rfl⟩
    · rw [if_neg hj] at z ⊢
      exact .inr ⟨hj, z, rfl⟩
  refine ⟨by simp [h.len], fun j d e => ?_, fun j u e => ?_, fun j k u w q e1 e2 e3 e4 => ?_⟩
  · rcases at_i e with ⟨_, z, _⟩ | ⟨_, z, w⟩
    · cases z
    · rw [w]
      exact h.val j d z
  · rcases at_i e with ⟨_, z, w⟩ | ⟨_, z, w⟩
    · cases z
      exact ⟨p, w, ro, hB, hn⟩
    · rw [w]
      exact h.own j u z
  · rcases at_i e1 with ⟨n1, z1, w1⟩ | ⟨n1, z1, w1⟩ <;> rcases at_i e2 with ⟨n2, z2, w2⟩ | ⟨n2, z2, w2⟩
    · rw [← n1, ← n2]
    · rw [w1] at e3
      rw [w2] at e4
      cases e3
      exact absurd e4 (hne k w z2)
    · rw [w1] at e3
      rw [w2] at e4
      cases e4
      exact absurd e3 (hne j u z1)
    · rw [w1] at e3
      rw [w2] at e4
      exact h.one j k u w q z1 z2 e3 e4
theorem RE.known (h : RE K g H env σ) {j : Nat} {u : O} {p : Addr} (e : env[j]? = some (.own u)) (e2 : σ[j]? = some (some (.ref p))) : ∃ w, H p = some w := by
  obtain ⟨q, e3, ro, _, _⟩ := h.own j u e
  rw [e3] at e2
  cases e2
  obtain ⟨w, hw, _⟩ := ro.some
  exact ⟨w, hw⟩
/-- a fresh thing becomes the frame's own -/
theorem RF.newO {o : O} {p : Addr} (h : RF K g0 H0 g H env σ st) (a : Le g H g' H') (hp : H p = none) (hB : ¬ g'.B p) (ro : RO K (g'.add p) H' o p) (r0 : Rel K g' H' st') (r : Rel K (g'.add p) H' st') (i : Nat) :
    RF K g0 H0 (g'.add p) H' (env.set i (.own o)) (σ.set i (some (.ref p))) st' ∧ LeN g H (g'.add p) H' := by
  have a2 := le_add a hp
  have hr : p ∉ (g'.add p).ρ := fun z => hB (r0.mt p z)
  have hne : ∀ (j : Nat) (u : O), env[j]? = some (EV.own u) → σ[j]? ≠ some (some (V.ref p)) := fun j u e1 e2 => by
    obtain ⟨w, hw⟩ := h.re.known e1 e2
    rw [hp] at hw
    cases hw
  refine ⟨⟨re_setO (h.re.mono a2) ro (.inr rfl) hr hne i, r, h.le.trans a2, fun j u q e1 e2 => ?_⟩, a2.toLeN⟩
  rw [set_get] at e1 e2
  by_cases hj : i = j
  · rw [if_pos hj] at e2
    cases hx : σ[j]? with
    | none =>
      rw [hx] at e2
      cases e2
    | some w =>
      rw [hx] at e2
      cases e2
      exact free_back h.le.toLeN hp
  · rw [if_neg hj] at e1 e2
    exact h.fr j u q e1 e2
/-! ### things given to the store -/
theorem add_push {o : O} {p : Addr} (r0 : Rel K g H st) (r : Rel K (g.add p) H st) (ro : RO K (g.add p) H o p) (hB : ¬ g.B p) : Rel K (g.push p) H (st ++ [o]) := by
  have h := rel_push (p := p) r (.inr rfl) ro (fun z => hB (r0.mt p z))
  have e : (g.add p).push p = g.push p := by
    show G.mk _ _ = G.mk _ _
    congr 1
    funext b
    exact propext ⟨fun z => z.elim id .inr, fun z => .inl z⟩
  rw [e] at h
  exact h
/-- a fresh thing goes to the store -/
theorem RF.newR {o : O} {p : Addr} (h : RF K g0 H0 g H env σ st) (a : Le g H g' H') (hp : H p = none) (hB : ¬ g'.B p) (ro : RO K (g'.add p) H' o p) (r0 : Rel K g' H' st') (r : Rel K (g'.add p) H' st') (i : Nat) :
    RF K g0 H0 (g'.push p) H' (env.set i (.v (.ref st'.length))) (σ.set i (some (.ref p))) (st' ++ [o]) ∧ LeN g H (g'.push p) H' := by
  have a2 := le_push a hp
  exact ⟨(h.mono a2 (add_push r0 r ro hB)).setV (push_ref r0) i, a2.toLeN⟩
/-- an own thing becomes a value -/
theorem le_del {p : Addr} (hn : H0 p = none) (a : Le g0 H0 g H) : Le g0 H0 (g.del p) H := by
  refine ⟨⟨fun b o e n => ?_, a.trk, a.pre⟩, fun b o e n => ?_⟩
  · obtain ⟨k1, k2⟩ := a.keep b o e n
    exact ⟨k1, fun z => k2 z.1⟩
  · obtain ⟨k1, k2⟩ := a.own b o e n
    exact ⟨k1, ⟨fun z => k2.mp z.1, fun z => ⟨k2.mpr z, ne_of_none e hn⟩⟩⟩
theorem leN_del {p : Addr} : LeN g H (g.del p) H := ⟨fun b o e n => ⟨e, fun z => n z.1⟩, fun b o e => ⟨o, e⟩, [], by simp [G.del], fun _ z => by simp at z⟩
theorem rd_of_ro {o : O} {p : Addr} (ro : RO K g H o p) (hB : ¬ g.B p) : RD K g H o.d (.ref p) := by
  cases o with
  | lst ds =>
    obtain ⟨vs, h1, h2⟩ := ro
    show RD K g H (.lst ds) _
    unfold RD
    exact ⟨p, vs, rfl, hB, h1, h2⟩
  | dct t kvs =>
    show RD K g H (.dct t kvs) _
    unfold RD
    exact ⟨p, rfl, hB, ro⟩
  | ins c fs => exact False.elim ro
theorem RF.frz {o : O} {i : Nat} (h : RF K g0 H0 g H env σ st) (e : env[i]? = some (.own o)) : ∃ p, RF K g0 H0 (g.del p) H (env.set i (.v o.d)) σ st := by
  obtain ⟨p, e1, ro, hB, hn⟩ := h.re.own i o e
  have l : LeN g H (g.del p) H := leN_del
  refine ⟨p, ⟨⟨by rw [List.length_set]; exact h.re.len, fun j d e2 => ?_, fun j u e2 => ?_, fun j k u w q e2 e3 e4 e5 => ?_⟩, ⟨h.rel.len, fun l2 q u e2 e3 => (h.rel.obj l2 q u e2 e3).mono l rfl, h.rel.nd, fun q hq => ⟨h.rel.mt q hq, fun z => hn (z ▸ hq)⟩, fun b hb => h.rel.trk b hb.1⟩, le_del (h.fr i o p e e1) h.le, fun j u q e2 e3 => h.fr j u q (own_of_set e2).2 e3⟩⟩
  · rw [set_get] at e2
    by_cases hj : i = j
    · subst hj
      rw [if_pos rfl, e] at e2
      cases e2
      exact ⟨_, e1, rd_of_ro (ro.mono l rfl) fun z => z.2 rfl⟩
    · rw [if_neg hj] at e2
      obtain ⟨v, e3, rd⟩ := h.re.val j d e2
      exact ⟨v, e3, RD.mono l _ _ rd⟩
  · obtain ⟨hj, e2⟩ := own_of_set e2
    obtain ⟨q, e3, ro2, hB2, hn2⟩ := h.re.own j u e2
    refine ⟨q, e3, ro2.mono l rfl, ⟨hB2, fun z => ?_⟩, hn2⟩
    subst z
    exact hj (h.re.one i j o u q e e2 e1 e3)
  · exact h.re.one j k u w q (own_of_set e2).2 (own_of_set e3).2 e4 e5
/-! ### blocks -/
variable {X : Cx} {T : Tab} {fl : Bool} {cl : String → List D → Store → Res D} {gl : String → Option D} {wf : Nat}
theorem ss_nil : PSs X [] (dS X.K fl (evSs cl gl wf .nil)) := pss_nil.imp fun D σ H z => by
  obtain ⟨g0, H0, g, env, st, o, st', rf, e, k⟩ := z
  simp only [evSs] at e
  cases e
  exact k g H σ (.refl g H) rf
theorem ss_cons {s : Stmt} {ss : List Stmt} {c : CS} {cs : CSs} (h : PS X s (dS X.K fl (evS cl gl wf c))) (h2 : PSs X ss (dS X.K fl (evSs cl gl wf cs))) : PSs X (s :: ss) (dS X.K fl (evSs cl gl wf (.cons c cs))) := (pss_cons h h2).imp fun D σ H z => by
  obtain ⟨g0, H0, g, env, st, o, st', rf, e, k⟩ := z
  simp only [evSs] at e
  obtain ⟨o1, s1, e1, e⟩ := Res.bind_eq e
  refine ⟨g0, H0, g, env, st, o1, s1, rf, e1, ?_⟩
  cases o1 with
  | nx env1 => exact fun g' H' σ' l r => ⟨g0, H0, g', env1, s1, o, st', r, e, k.shift l⟩
  | _ =>
    cases e
    exact k
theorem ss_frz {ss : List Stmt} {cs : CSs} {i : Nat} (h : PSs X ss (dS X.K fl (evSs cl gl wf cs))) : PSs X ss (dS X.K fl (evSs cl gl wf (.frz i cs))) := h.imp fun D σ H z => by
  obtain ⟨g0, H0, g, env, st, o, st', rf, e, k⟩ := z
  simp only [evSs] at e
  split at e
  · rename_i u hu
    obtain ⟨p, rf2⟩ := rf.frz hu
    exact ⟨g0, H0, g.del p, _, st, o, st', rf2, e, k.shift leN_del⟩
  · exact ⟨g0, H0, g, _, st, o, st', rf, e, k⟩
  · cases e
theorem ps_bad {s : Stmt} : PS X s (dS X.K fl (evS cl gl wf .bad)) := ⟨fun pins sh σ H D I z => by
  obtain ⟨g0, H0, g, env, st, o, st', rf, e, k⟩ := z
  simp only [evS] at e
  cases e⟩
theorem ss_bad {s : List Stmt} {cs : CSs} : PSs X s (dS X.K fl (evSs cl gl wf (.cons .bad cs))) := ⟨fun pins sh σ H D I z => by
  obtain ⟨g0, H0, g, env, st, o, st', rf, e, k⟩ := z
  simp only [evSs, evS] at e
  cases e⟩
/-! ### one statement -/
theorem s_pass {pos : Pos} : PS X (.Pass pos) (dS X.K fl (evS cl gl wf .pass)) := ps_pass.imp fun D σ H z => by
  obtain ⟨g0, H0, g, env, st, o, st', rf, e, k⟩ := z
  simp only [evS] at e
  cases e
  exact k g H σ (.refl g H) rf
theorem s_brk {pos : Pos} : PS X (.Break pos) (dS X.K fl (evS cl gl wf .brk)) := ps_break.imp fun D σ H z => by
  obtain ⟨g0, H0, g, env, st, o, st', rf, e, k⟩ := z
  simp only [evS] at e
  cases e
  exact k g H σ (.refl g H) rf
theorem s_cont {pos : Pos} : PS X (.Continue pos) (dS X.K fl (evS cl gl wf .cont)) := ps_continue.imp fun D σ H z => by
  obtain ⟨g0, H0, g, env, st, o, st', rf, e, k⟩ := z
  simp only [evS] at e
  cases e
  exact k g H σ (.refl g H) rf
theorem s_retN {pos : Pos} : PS X (.Return none pos) (dS X.K fl (evS cl gl wf .retN)) := ps_retN.imp fun D σ H z => by
  obtain ⟨g0, H0, g, env, st, o, st', rf, e, k⟩ := z
  simp only [evS] at e
  cases e
  exact k g H .non rf.le rf.rel rd_non fun _ o z => by cases z
theorem s_ret {e : Expr} {c : CE} {fr : Bool} {pos : Pos} (h : PE X e (dE X.K (ev cl gl false c) false fr)) : PS X (.Return (some e) pos) (dS X.K false (evS cl gl wf (.ret c))) := (ps_ret h).imp fun D σ H z => by
  obtain ⟨g0, H0, g, env, st, o, st', rf, e, k⟩ := z
  simp only [evS] at e
  obtain ⟨d, s1, e1, e⟩ := Res.bind_eq e
  cases e
  exact dE_go rf.re rf.rel e1 fun g1 H1 v a1 r1 rd1 => k g1 H1 v (rf.le.trans a1) r1 rd1.ff fun z => by cases z
theorem FrV.back {g : G} {H H0 H' : Hp} {g0 g' : G} {d : D} {v : V} {st : Store} (l : LeN g0 H0 g H) (f : FrV X.K H g' H' st d v) : FrV X.K H0 g' H' st d v := fun o ho => by
  obtain ⟨p, e, n, q⟩ := f o ho
  exact ⟨p, e, free_back l n, q⟩
/-- what is returned is new -/
theorem s_retF {e : Expr} {c : CE} {pos : Pos} (h : PE X e (dE X.K (ev cl gl false c) false true)) : PS X (.Return (some e) pos) (dS X.K fl (evS cl gl wf (.ret c))) := (ps_ret h).imp fun D σ H z => by
  obtain ⟨g0, H0, g, env, st, o, st', rf, e, k⟩ := z
  simp only [evS] at e
  obtain ⟨d, s1, e1, e⟩ := Res.bind_eq e
  cases e
  exact dE_go' rf.re rf.rel e1 fun g1 H1 v a1 r1 rd1 f => k g1 H1 v (rf.le.trans a1) r1 rd1.ff fun _ => (f rfl).back rf.le.toLeN
/-- what is returned is no list, no dict -/
theorem s_retC {e : Expr} {d0 : D} {fr : Bool} {pos : Pos} (hd : oOf d0 = none) (h : PE X e (dE X.K (ev cl gl false (.cst d0)) false fr)) : PS X (.Return (some e) pos) (dS X.K fl (evS cl gl wf (.ret (.cst d0)))) := (ps_ret h).imp fun D σ H z => by
  obtain ⟨g0, H0, g, env, st, o, st', rf, e, k⟩ := z
  simp only [evS] at e
  obtain ⟨d, s1, e1, e⟩ := Res.bind_eq e
  cases e
  have e2 := e1
  simp only [ev, Res.ok.injEq] at e2
  obtain ⟨rfl, rfl⟩ := e2
  exact dE_go rf.re rf.rel e1 fun g1 H1 v a1 r1 rd1 => k g1 H1 v (rf.le.trans a1) r1 rd1.ff fun _ o ho => by
    rw [hd] at ho
    cases ho
theorem s_retR {e : Expr} {c : CE} {pos : Pos} (h : PE X e (dE X.K (ev cl gl false c) false true)) : PS X (.Return (some e) pos) (dS X.K fl (evS cl gl wf (.retR c))) := (ps_ret h).imp fun D σ H z => by
  obtain ⟨g0, H0, g, env, st, o, st', rf, e, k⟩ := z
  simp only [evS] at e
  obtain ⟨d, s1, e1, e⟩ := Res.bind_eq e
  obtain ⟨u, s2, e2, e⟩ := Res.bind_eq e
  cases e
  cases hd : oOf d with
  | none =>
    rw [hd] at e2
    cases e2
  | some u' =>
    rw [hd] at e2
    cases e2
    refine dE_go' rf.re rf.rel e1 fun g1 H1 v a1 r1 rd1 f => ?_
    obtain ⟨p, rfl, hp, hB, ro, r2⟩ := f rfl _ hd
    exact k (g1.push p) H1 _ (rf.le.trans (le_push a1 hp)) (add_push r1 r2 ro hB) (push_ref r1) fun _ o z => by cases z
theorem s_ex {e : Expr} {c : CE} {fr : Bool} {pos : Pos} (hs : swapsWith e none pos.line X.env = pure false) (h : PE X e (dE X.K (ev cl gl false c) false fr)) : PS X (.Expr e pos) (dS X.K fl (evS cl gl wf (.ex c))) := (ps_expr h hs).imp fun D σ H z => by
  obtain ⟨g0, H0, g, env, st, o, st', rf, e, k⟩ := z
  simp only [evS] at e
  obtain ⟨d, s1, e1, e⟩ := Res.bind_eq e
  cases e
  exact dE_go rf.re rf.rel e1 fun g1 H1 v a1 r1 rd1 => k g1 H1 σ a1.toLeN (rf.mono a1 r1)
theorem s_ite {c : Expr} {a b : List Stmt} {cc : CE} {ca cb : CSs} {pos : Pos} (hc : PT X c (dT X.K fun env st => tst (ev cl gl false cc env st))) (ha : PSs X a (dS X.K fl (evSs cl gl wf ca))) (hb : PSs X b (dS X.K fl (evSs cl gl wf cb))) :
    PS X (.If c a b pos) (dS X.K fl (evS cl gl wf (.ite cc ca cb))) := (ps_if hc ha hb).imp fun D σ H z => by
  obtain ⟨g0, H0, g, env, st, o, st', rf, e, k⟩ := z
  simp only [evS] at e
  obtain ⟨r, s1, e1, e⟩ := Res.bind_eq e
  refine dT_go rf.re rf.rel e1 fun g1 H1 a1 r1 => ?_
  cases r with
  | true =>
    rw [if_pos rfl]
    exact ⟨g0, H0, g1, env, s1, o, st', rf.mono a1 r1, e, k.shift a1.toLeN⟩
  | false =>
    rw [if_neg Bool.false_ne_true]
    exact ⟨g0, H0, g1, env, s1, o, st', rf.mono a1 r1, e, k.shift a1.toLeN⟩
/-- a while loop -/
theorem s_while {c : Expr} {b : List Stmt} {cc : CE} {cb : CSs} {pos : Pos} (hp : PassesOwn (model X.prog X.w) X.A X.env X.xe) (hc : PT X c (dT X.K fun env st => tst (ev cl gl false cc env st))) (hb : PSs X b (dS X.K fl (evSs cl gl wf cb))) :
    PS X (.While c b [] pos) (dS X.K fl (evS cl gl wf (.while_ cc cb))) := (ps_while hp hc hb).imp fun D σ H z => by
  obtain ⟨g0, H0, g, env, st, o, st', rf, e, k⟩ := z
  simp only [evS] at e
  refine ⟨fun m σ1 H1 => ∃ g1 env1 st1, LeN g H g1 H1 ∧ RF X.K g0 H0 g1 H1 env1 σ1 st1 ∧ whileGo (fun e s => tst (ev cl gl false cc e s)) (fun e s => evSs cl gl wf cb e s) m env1 st1 = .ok o st', ⟨wf, g, env, st, .refl g H, rf, e⟩, fun m σ1 H1 hW => ?_⟩
  obtain ⟨g1, env1, st1, l1, rf1, e1⟩ := hW
  cases m with
  | zero =>
    simp only [whileGo] at e1
    cases e1
  | succ m =>
    simp only [whileGo] at e1
    obtain ⟨r, s2, e2, e1⟩ := Res.bind_eq e1
    refine dT_go rf1.re rf1.rel e2 fun g2 H2 a2 r2 => ?_
    have rf2 := rf1.mono a2 r2
    have l2 := l1.trans a2.toLeN
    cases r with
    | false =>
      rw [if_neg Bool.false_ne_true]
      cases e1
      exact k g2 H2 σ1 l2 rf2
    | true =>
      rw [if_pos rfl]
      obtain ⟨o2, s3, e3, e1⟩ := Res.bind_eq e1
      refine ⟨fun σ3 H3 => ∃ g3 env3, LeN g H g3 H3 ∧ RF X.K g0 H0 g3 H3 env3 σ3 s3 ∧ whileGo (fun e s => tst (ev cl gl false cc e s)) (fun e s => evSs cl gl wf cb e s) m env3 s3 = .ok o st', fun σ3 H3 h3 => ?_, g0, H0, g2, env1, s2, o2, s3, rf2, e3, ?_⟩
      · obtain ⟨g3, env3, l3, rf3, e4⟩ := h3
        exact ⟨m, Nat.lt_succ_self m, g3, env3, s3, l3, rf3, e4⟩
      · cases o2 with
        | nx env3 => exact fun g3 H3 σ3 l3 rf3 => ⟨g3, env3, l2.trans l3, rf3, e1⟩
        | cont env3 => exact fun g3 H3 σ3 l3 rf3 => ⟨g3, env3, l2.trans l3, rf3, e1⟩
        | brk env3 =>
          cases e1
          exact fun g3 H3 σ3 l3 rf3 => k g3 H3 σ3 (l2.trans l3) rf3
        | ret d =>
          cases e1
          exact k
end
end Ev
/-! Ev14: stores, loops -/
namespace Ev
open PySem L2 PySem.Spec PyProof.Rows
section
variable {K : PySem.W.Frag} {g g' g0 : G} {H H' H0 : Hp} {env : Env} {σ : L2.St} {st st' : Store}
theorem setAll_own : ∀ {is : List Nat} {ds : List D} {env env1 : Env}, setAll is ds env = some env1 → ∀ {j : Nat} {u : O}, env1[j]? = some (EV.own u) → j ∉ is ∧ env[j]? = some (EV.own u)
  | [], ds, env, env1, e, j, u, h => by
    cases ds with
    | nil =>
      cases e
      exact ⟨by simp, h⟩
    | cons _ _ => cases e
  | i :: is, ds, env, env1, e, j, u, h => by
    cases ds with
    | nil => cases e
    | cons d ds =>
      obtain ⟨h1, h2⟩ := setAll_own (show setAll is ds (env.set i (.v d)) = some env1 from e) h
      obtain ⟨h3, h4⟩ := own_of_set h2
      exact ⟨fun z => (List.mem_cons.mp z).elim (fun q => h3 q.symm) h1, h4⟩
theorem assign_own {cg : CG} {d : D} {env env1 : Env} (e : assignG cg d env = some env1) {j : Nat} {u : O} (h : env1[j]? = some (EV.own u)) : j ∉ cgIx cg ∧ env[j]? = some (EV.own u) := by
  cases cg with
  | nm i =>
    cases e
    obtain ⟨h1, h2⟩ := own_of_set h
    exact ⟨fun z => h1 (List.mem_singleton.mp z).symm, h2⟩
  | tup is =>
    cases d with
    | tup ds => exact setAll_own (show setAll is ds env = some env1 from e) h
    | _ => cases e
theorem RF.assign {cg : CG} {d : D} {env1 : Env} {x : V} (h : RF K g0 H0 g H env σ st) (e : assignG cg d env = some env1) (rd : RD K g H d x) : ∃ σ1, RF K g0 H0 g H env1 σ1 st ∧ ∀ Q : L2.St → Hp → Prop, Q σ1 H → toTG K cg x σ H Q := by
  obtain ⟨σ1, h1, h2, h3⟩ := assign_ok e h.re rd
  refine ⟨σ1, ⟨h1, h.rel, h.le, fun j u p e1 e2 => ?_⟩, h3⟩
  obtain ⟨h4, h5⟩ := assign_own e e1
  have w := h2 (cgIx cg) fun _ z => z
  have w1 : (wipe σ1 (cgIx cg))[j]? = (wipe σ (cgIx cg))[j]? := by rw [w]
  rw [wipe_get, wipe_get, if_neg h4, if_neg h4] at w1
  exact h.fr j u p h5 (w1 ▸ e2)
/-- an own thing changes -/
theorem RF.mutO {i : Nat} {u o' : O} {p : Addr} {ho : HO} (h : RF K g0 H0 g H env σ st) (e : env[i]? = some (.own u)) (e1 : σ[i]? = some (some (.ref p))) (ro : RO K g (upd H p ho) o' p) : RF K g0 H0 g (upd H p ho) (env.set i (.own o')) σ st ∧ LeN g H g (upd H p ho) := by
  obtain ⟨q, e2, _, hB, hn⟩ := h.re.own i u e
  rw [e1] at e2
  cases e2
  have l : LeN g H g (upd H p ho) := leN_mut hB
  have hp0 := h.fr i u p e e1
  have at_i : ∀ {j : Nat} {w : EV}, (env.set i (.own o'))[j]? = some w → (i = j ∧ w = .own o') ∨ (i ≠ j ∧ env[j]? = some w) := fun {j w} z => by
    rw [set_get] at z
    by_cases hj : i = j
    · rw [if_pos hj, ← hj, e] at z
      cases z
      exact .inl ⟨hj, rfl⟩
    · rw [if_neg hj] at z
      exact .inr ⟨hj, z⟩
  refine ⟨⟨⟨by rw [List.length_set]; exact h.re.len, fun j d z => ?_, fun j w z => ?_, fun j k w w2 q z1 z2 z3 z4 => ?_⟩, h.rel.mutOut hB hn, ⟨h.le.toLeN.trans l, fun b o z n => ?_⟩, fun j w q z z2 => ?_⟩, l⟩
  · rcases at_i z with ⟨_, z⟩ | ⟨_, z⟩
    · cases z
    · obtain ⟨v, z1, rd⟩ := h.re.val j d z
      exact ⟨v, z1, RD.mono l _ _ rd⟩
  · rcases at_i z with ⟨hj, z⟩ | ⟨hj, z⟩
    · cases z
      subst hj
      exact ⟨p, e1, ro, hB, hn⟩
    · obtain ⟨q, z1, r1, b1, n1⟩ := h.re.own j w z
      refine ⟨q, z1, r1.mono l (upd_ne fun y => ?_), b1, n1⟩
      subst y
      exact hj (h.re.one i j u w q e z e1 z1)
  · have f : ∀ {j : Nat} {w : O}, (env.set i (.own o'))[j]? = some (EV.own w) → ∃ w', env[j]? = some (EV.own w') := fun {j w} z => by
      rcases at_i z with ⟨hj, _⟩ | ⟨_, z⟩
      · exact ⟨u, hj ▸ e⟩
      · exact ⟨w, z⟩
    obtain ⟨w', z1⟩ := f z1
    obtain ⟨w2', z2⟩ := f z2
    exact h.re.one j k w' w2' q z1 z2 z3 z4
  · rw [upd_ne (show b ≠ p from ne_of_none z hp0)]
    exact h.le.own b o z n
  · rcases at_i z with ⟨hj, _⟩ | ⟨_, z⟩
    · subst hj
      rw [e1] at z2
      cases z2
      exact hp0
    · exact h.fr j w q z z2
/-- o[k] = v -/
def rPut : TSet := fun o i v H Q => rSetL o i v H Q ∨ ∃ a H4, o = .ref a ∧ DPut H a i v H4 ∧ Q H4
theorem set_put {X : Cx} (hu : X.A.units + 1 < cLine) : PSet X rPut := by
  intro pins s σ H o i v ov iv u Q I ro ri rv h
  rcases h with h | ⟨a, H4, rfl, h, q⟩
  · exact set_list pins s σ H o i v ov iv u Q I ro ri rv h
  · obtain rfl : ov = Value.ref a := ro
    exact d_setItem hu I h ri rv fun s4 I4 => ⟨H4, I4, q⟩
theorem put_ok {o o' : O} {x d : D} {p : Addr} {vi v : V} (e : setW o x d = some o') (hB : g.B p) (ro : RO K g H o p) (rx : RD K g H x vi) (rd : RD K g H d v) : ∃ ho, RO K g (upd H p ho) o' p ∧ ∀ Q : Hp → Prop, Q (upd H p ho) → rPut (.ref p) vi v H Q := by
  cases o with
  | lst l =>
    cases x with
    | int k =>
      have e : (ixN l.length k).map (fun j => O.lst (l.set j d)) = some o' := e
      rw [Option.map_eq_some_iff] at e
      obtain ⟨j, hj, rfl⟩ := e
      obtain ⟨vs, h1, h2⟩ := ro
      unfold RD at rx
      subst rx
      refine ⟨.lst (vs.set j v), ⟨_, upd_same, RDs.mono (leN_mut hB) _ _ (h2.set j rd)⟩, fun Q q => .inl ⟨p, vs, _, j, rfl, rfl, h1, by rw [h2.length]; exact hj, q⟩⟩
    | _ => cases e
  | dct t l =>
    simp only [setW] at e
    split at e
    · rename_i hk
      cases e
      obtain ⟨hk, hz⟩ := hk
      rcases ro with ⟨rfl, ks, h1, h2⟩ | ⟨rfl, ks, h1, h2⟩
      · simp only [keyOk, Option.isSome_iff_exists] at hk
        obtain ⟨k, hk1⟩ := hk
        rw [key1_v rx hk1]
        exact ⟨.dK (L2.putK ks k v), .inl ⟨rfl, _, upd_same, RKf.mono (leN_mut hB) _ _ (put_f hk1 rd h2)⟩, fun Q q => .inr ⟨p, _, rfl, .k h1 (by rw [rkf_len h2]; exact hz), q⟩⟩
      · cases x with
        | tup x =>
          simp only [keyOk, Option.isSome_iff_exists] at hk
          obtain ⟨k, hk1⟩ := hk
          unfold RD at rx
          obtain ⟨b, vs, rfl, _, h3, h4⟩ := rx
          rw [keys1_v h4 hk1] at h3
          exact ⟨.dT (L2.putK ks k v), .inr ⟨rfl, _, upd_same, RKt.mono (leN_mut hB) _ _ (put_t hk1 rd h2)⟩, fun Q q => .inr ⟨p, _, rfl, .t h1 h3 (by rw [rkt_len h2]; exact hz), q⟩⟩
        | _ => cases hk
    · cases e
  | ins c fs => exact False.elim ro
theorem put_okS {o o' : O} {x d : D} {p : Addr} {vi v : V} (e : setW o x d = some o') (hB : g.B p) (ro : RS K g H o p) (rx : RD K g H x vi) (rd : RD K g H d v) : ∃ ho, RO K g (upd H p ho) o' p ∧ ∀ Q : Hp → Prop, Q (upd H p ho) → rPut (.ref p) vi v H Q := by
  cases o with
  | lst l => exact put_ok e hB (o := .lst l) ro rx rd
  | dct t l => exact put_ok e hB (o := .dct t l) ro rx rd
  | ins c fs => cases e
end
end Ev
/-! Ev15: statements that store -/
namespace Ev
open PySem L2 PySem.Spec PyProof.Rows
section
variable {X : Cx} {T : Tab} {fl : Bool} {cl : String → List D → Store → Res D} {gl : String → Option D} {wf : Nat}
/-! ### target = value -/
theorem s_asg {tg e : Expr} {cg : CG} {c : CE} {fr : Bool} {pos : Pos} (h : PS X (.Assign [tg] e pos) (tAsg (dE X.K (ev cl gl false c) false fr) (toTG X.K cg))) : PS X (.Assign [tg] e pos) (dS X.K fl (evS cl gl wf (.asg cg c))) := h.imp fun En σ H z => by
  obtain ⟨g0, H0, g, env, st, o, st', rf, e, k⟩ := z
  simp only [evS] at e
  obtain ⟨d, s1, e1, e⟩ := Res.bind_eq e
  obtain ⟨env1, s2, e2, e⟩ := Res.bind_eq e
  cases e
  cases ha : assignG cg d env with
  | none =>
    rw [ha] at e2
    cases e2
  | some env2 =>
    rw [ha] at e2
    cases e2
    refine dE_go rf.re rf.rel e1 fun g1 H1 v a1 r1 rd1 => ?_
    obtain ⟨σ1, rf1, kq⟩ := (rf.mono a1 r1).assign ha rd1.ff
    exact kq _ (k g1 H1 σ1 a1.toLeN rf1)
theorem s_asgO {tg e : Expr} {i : Nat} {c : CE} {pos : Pos} (h : PS X (.Assign [tg] e pos) (tAsg (dE X.K (ev cl gl false c) false true) (gName i))) : PS X (.Assign [tg] e pos) (dS X.K fl (evS cl gl wf (.asgO i c))) := h.imp fun En σ H z => by
  obtain ⟨g0, H0, g, env, st, o, st', rf, e, k⟩ := z
  simp only [evS] at e
  obtain ⟨d, s1, e1, e⟩ := Res.bind_eq e
  cases e
  unfold ownV at k
  cases hd : oOf d with
  | none =>
    rw [hd] at k
    exact dE_go rf.re rf.rel e1 fun g1 H1 v a1 r1 rd1 => k g1 H1 _ a1.toLeN ((rf.mono a1 r1).setV rd1.ff i)
  | some u' =>
    rw [hd] at k
    refine dE_go' rf.re rf.rel e1 fun g1 H1 v a1 r1 rd1 f => ?_
    obtain ⟨p, rfl, hp, hB, ro, r2⟩ := f rfl _ hd
    obtain ⟨rf2, l2⟩ := rf.newO a1 hp hB ro r1 r2 i
    exact k _ H1 _ l2 rf2
theorem s_asgR {tg e : Expr} {i : Nat} {c : CE} {pos : Pos} (h : PS X (.Assign [tg] e pos) (tAsg (dE X.K (ev cl gl false c) false true) (gName i))) : PS X (.Assign [tg] e pos) (dS X.K fl (evS cl gl wf (.asgR i c))) := h.imp fun En σ H z => by
  obtain ⟨g0, H0, g, env, st, o, st', rf, e, k⟩ := z
  simp only [evS] at e
  obtain ⟨d, s1, e1, e⟩ := Res.bind_eq e
  obtain ⟨u, s2, e2, e⟩ := Res.bind_eq e
  cases e
  cases hd : oOf d with
  | none =>
    rw [hd] at e2
    cases e2
  | some u' =>
    rw [hd] at e2
    cases e2
    refine dE_go' rf.re rf.rel e1 fun g1 H1 v a1 r1 rd1 f => ?_
    obtain ⟨p, rfl, hp, hB, ro, r2⟩ := f rfl _ hd
    obtain ⟨rf2, l2⟩ := rf.newR a1 hp hB ro r1 r2 i
    exact k _ H1 _ l2 rf2
/-! ### name op= value -/
theorem add_int {x y : D} {z : Int} {st s1 : Store} (h : binop .add x y st = .ok (.int z) s1) : ∃ a b, x = .int a ∧ y = .int b ∧ z = a + b ∧ s1 = st := by
  unfold binop at h
  split at h <;> first
    | (rename_i z1; cases z1; done)
    | (rename_i z1 _; cases z1; done)
    | (rename_i z1 _ _; cases z1; done)
    | (cases h; exact ⟨_, _, rfl, rfl, rfl, rfl⟩)
    | cases h
    | ((repeat' split at h) <;> cases h)
    | skip
theorem sub_int {x y : D} {z : Int} {st s1 : Store} (h : binop .sub x y st = .ok (.int z) s1) : ∃ a b, x = .int a ∧ y = .int b ∧ z = a - b ∧ s1 = st := by
  unfold binop at h
  split at h <;> first
    | (rename_i z1; cases z1; done)
    | (rename_i z1 _; cases z1; done)
    | (rename_i z1 _ _; cases z1; done)
    | (cases h; exact ⟨_, _, rfl, rfl, rfl, rfl⟩)
    | cases h
    | ((repeat' split at h) <;> cases h)
    | skip
def augB : Operator → Bool
  | .Add => true
  | .Sub => true
  | _ => false
theorem aug_ok {op : Operator} {o : BO} (ha : augB op = true) (ho : boOf op = some o) : ∃ f : Int → Int → Int, PIp X op (ipI f) ∧ ∀ {x y : D} {z : Int} {st s1 : Store}, binop o x y st = .ok (.int z) s1 → ∃ a b, x = .int a ∧ y = .int b ∧ z = f a b ∧ s1 = st := by
  cases op with
  | Add =>
    obtain rfl : BO.add = o := Option.some.inj ho
    exact ⟨_, ip_add, add_int⟩
  | Sub =>
    obtain rfl : BO.sub = o := Option.some.inj ho
    exact ⟨_, ip_sub, sub_int⟩
  | _ => cases ha
theorem s_aug {x : Str} {op : Operator} {o : BO} {e : Expr} {c : CE} {fr : Bool} {p pos : Pos} (hN : X.N.Nodup) (ha : augB op = true) (ho : boOf op = some o) (hs : stoB X.N X.env.scope X.fn x = true) (h : PE X e (dE X.K (ev cl gl true c) true fr)) :
    PS X (.AugAssign (.Name x p) op e pos) (dS X.K fl (evS cl gl wf (.aug (ixOf X.N x) o c))) := by
  obtain ⟨f, h1, h2⟩ := aug_ok (X := X) ha ho
  obtain ⟨s1, s2, s3⟩ := sto_of hs
  refine (ps_aug hN s1 s2 h h1 s3).imp fun En σ H z => ?_
  obtain ⟨g0, H0, g, env, st, o, st', rf, e, k⟩ := z
  simp only [evS] at e
  obtain ⟨d, t1, e1, e⟩ := Res.bind_eq e
  obtain ⟨y, t2, e2, e⟩ := Res.bind_eq e
  obtain ⟨zz, t3, e3, e⟩ := Res.bind_eq e
  split at e
  · rename_i z
    cases e
    obtain ⟨a, b, rfl, rfl, rfl, rfl⟩ := h2 e3
    cases hv : varE true (ixOf X.N x) env with
    | none =>
      rw [hv] at e1
      cases e1
    | some d' =>
      rw [hv] at e1
      cases e1
      unfold varE at hv
      split at hv
      · rename_i d2 hd2
        cases hv
        obtain ⟨v, h4, h5⟩ := rf.re.val _ _ hd2
        unfold RD at h5
        subst h5
        refine ⟨_, h4, dE_go rf.re rf.rel e2 fun g1 H1 v a1 r1 rd1 => ?_⟩
        exact ⟨a, b, rfl, rdw_int rd1, k g1 H1 _ a1.toLeN ((rf.mono a1 r1).setV rd_int _)⟩
      · rename_i o' ho'
        rw [if_pos rfl] at hv
        cases o' <;> cases hv
      · cases hv
  · cases e
/-! ### x.m(..) -/
theorem s_mcall {x : Str} {m : String} {f : Expr → CE} {es : List Expr} {p apos cpos pos : Pos} (hm : m ∈ mutNames) (hl : apos.endLine = cpos.line) (hx : okN x = true) (hv : visB X.env.scope x = true) (hN : X.N[ixOf T.N x]? = some x) (hz : es.length < 20) (hf : ∀ e, PE X e (dE X.K (ev cl gl false (f e)) false false)) :
    PS X (.Expr (.Call (.Attribute (.Name x p) (Str.ofString m) apos) es [] cpos) pos) (dS X.K fl (evS cl gl wf (.mcall (ixOf T.N x) m (erEs f es)))) := (ps_expr (mutE_ok hm hl hx hv hN hz hf) rfl).imp fun En σ H z => by
  obtain ⟨g0, H0, g, env, st, o, st', rf, e, k⟩ := z
  generalize ixOf T.N x = i at *
  cases hi : env[i]? with
  | none =>
    simp only [evS, hi] at e
    cases e
  | some w =>
    cases w with
    | un =>
      simp only [evS, hi] at e
      cases e
    | own u =>
      cases u with
      | dct t l =>
        simp only [evS, hi] at e
        cases e
      | ins c fs =>
        simp only [evS, hi] at e
        cases e
      | lst l =>
        simp only [evS, hi] at e
        obtain ⟨ds, s1, e1, e⟩ := Res.bind_eq e
        obtain ⟨q, s2, e2, e⟩ := Res.bind_eq e
        cases e
        cases hq : mthW m l ds s1 with
        | none =>
          rw [hq] at e2
          cases e2
        | some q' =>
          rw [hq] at e2
          cases e2
          obtain ⟨a, h1, ro, hB, hn⟩ := rf.re.own i _ hi
          obtain ⟨vs0, h2, _⟩ := ro
          refine ⟨g, env, st, ds, _, a, vs0, l, q.1, q.2, rf.re, rf.rel, h1, h2, e1, hq, fun g1 H1 a1 r1 => ?_⟩
          have rf1 := rf.mono a1 r1
          obtain ⟨a', h1', ro1, hB1, hn1⟩ := rf1.re.own i _ hi
          rw [h1] at h1'
          cases h1'
          obtain ⟨vs, h3, h4⟩ := ro1
          refine ⟨vs, h3, h4, fun v vs' h5 h6 => ?_⟩
          obtain ⟨rf2, l2⟩ := rf1.mutO (o' := .lst q.2) (ho := .lst vs') hi h1 ⟨vs', upd_same, RDs.mono (leN_mut hB1) _ _ h6⟩
          exact k g1 _ σ (a1.toLeN.trans l2) rf2
    | v d =>
      cases d with
      | ref l =>
        have e2 : ∃ d, ev cl gl false (.mut m i (erEs f es)) env st = .ok d st' ∧ o = .nx env := by
          simp only [evS, hi] at e
          simp only [ev, hi]
          split at e
          · obtain ⟨ds, s1, e1, e⟩ := Res.bind_eq e
            rw [e1]
            simp only [Res.bind_ok]
            split at e
            · obtain ⟨q, s2, e2, e⟩ := Res.bind_eq e
              cases e
              rw [e2]
              exact ⟨q.1, rfl, rfl⟩
            · cases e
          · cases e
        obtain ⟨d, e2, rfl⟩ := e2
        exact mut_imp (w := false) (dE_go (K := X.K) (w := false) (fr := false) (f := ev cl gl false (.mut m i (erEs f es))) rf.re rf.rel e2 fun g1 H1 v a1 r1 rd1 => k g1 H1 σ a1.toLeN (rf.mono a1 r1))
      | _ =>
        simp only [evS, hi] at e
        cases e
theorem s_mcallTo {x y : Str} {m : String} {f : Expr → CE} {es : List Expr} {py p apos cpos pos : Pos} (hm : m ∈ mutNames) (hl : apos.endLine = cpos.line) (hx : okN x = true) (hv : visB X.env.scope x = true) (hN : X.N[ixOf T.N x]? = some x) (hz : es.length < 20) (hf : ∀ e, PE X e (dE X.K (ev cl gl false (f e)) false false))
    (hd : X.N.Nodup) (hs : stoB X.N X.env.scope X.fn y = true) :
    PS X (.Assign [.Name y py] (.Call (.Attribute (.Name x p) (Str.ofString m) apos) es [] cpos) pos) (dS X.K fl (evS cl gl wf (.mcallTo (ixOf X.N y) (ixOf T.N x) m (erEs f es)))) := by
  obtain ⟨s1, s2, s3⟩ := sto_of hs
  refine (ps_set hd s1 s2 (mutE_ok hm hl hx hv hN hz hf) rfl s3).imp fun En σ H z => ?_
  obtain ⟨g0, H0, g, env, st, o, st', rf, e, k⟩ := z
  generalize ixOf T.N x = i at *
  generalize ixOf X.N y = j at *
  cases hi : env[i]? with
  | none =>
    simp only [evS, hi] at e
    cases e
  | some w =>
    cases w with
    | un =>
      simp only [evS, hi] at e
      cases e
    | own u =>
      cases u with
      | dct t l =>
        simp only [evS, hi] at e
        cases e
      | ins c fs =>
        simp only [evS, hi] at e
        cases e
      | lst l =>
        simp only [evS, hi] at e
        obtain ⟨ds, s1, e1, e⟩ := Res.bind_eq e
        obtain ⟨q, s2, e2, e⟩ := Res.bind_eq e
        cases e
        cases hq : mthW m l ds s1 with
        | none =>
          rw [hq] at e2
          cases e2
        | some q' =>
          rw [hq] at e2
          cases e2
          obtain ⟨a, h1, ro, hB, hn⟩ := rf.re.own i _ hi
          obtain ⟨vs0, h2, _⟩ := ro
          refine ⟨g, env, st, ds, _, a, vs0, l, q.1, q.2, rf.re, rf.rel, h1, h2, e1, hq, fun g1 H1 a1 r1 => ?_⟩
          have rf1 := rf.mono a1 r1
          obtain ⟨a', h1', ro1, hB1, hn1⟩ := rf1.re.own i _ hi
          rw [h1] at h1'
          cases h1'
          obtain ⟨vs, h3, h4⟩ := ro1
          refine ⟨vs, h3, h4, fun v vs' h5 h6 => ?_⟩
          have lm : LeN g1 H1 g1 (upd H1 a (.lst vs')) := leN_mut hB1
          obtain ⟨rf2, l2⟩ := rf1.mutO (o' := .lst q.2) (ho := .lst vs') hi h1 ⟨vs', upd_same, RDs.mono lm _ _ h6⟩
          exact k g1 _ _ (a1.toLeN.trans l2) (rf2.setV (RD.mono lm _ _ h5) j)
    | v d =>
      cases d <;> (simp only [evS, hi] at e; cases e)
/-! ### o[k] = v -/
/-- the interpreter's step at one slot -/
def putAt (i : Nat) (x d : D) (env : Env) (st : Store) : Option (Env × Store) := match env[i]? with
  | some (.own o) => (setW o x d).map fun p => (env.set i (.own p), st)
  | some (.v (.ref l)) => match st[l]? with
    | some o => (setW o x d).map fun p => (env, st.set l p)
    | none => none
  | _ => none
theorem putAt_ok {K : PySem.W.Frag} {g g0 : G} {H H0 : Hp} {env env1 : Env} {σ : L2.St} {st st1 : Store} {i : Nat} {x d : D} {vi v : V} (e : putAt i x d env st = some (env1, st1)) (rf : RF K g0 H0 g H env σ st) (rx : RD K g H x vi) (rd : RD K g H d v) :
    ∃ a H1, σ[i]? = some (some (.ref a)) ∧ RF K g0 H0 g H1 env1 σ st1 ∧ LeN g H g H1 ∧ ∀ Q : Hp → Prop, Q H1 → rPut (.ref a) vi v H Q := by
  unfold putAt at e
  split at e
  · rename_i o ho
    rw [Option.map_eq_some_iff] at e
    obtain ⟨p, hp, e⟩ := e
    cases e
    obtain ⟨a, h1, ro, hB, hn⟩ := rf.re.own i o ho
    obtain ⟨u, ro2, kq⟩ := put_ok hp hB ro rx rd
    obtain ⟨rf2, l2⟩ := rf.mutO ho h1 ro2
    exact ⟨a, _, h1, rf2, l2, kq⟩
  · rename_i l hl
    split at e
    · rename_i o ho
      rw [Option.map_eq_some_iff] at e
      obtain ⟨p, hp, e⟩ := e
      cases e
      obtain ⟨v1, h1, h2⟩ := rf.re.val i _ hl
      unfold RD at h2
      obtain ⟨a, rfl, ha⟩ := h2
      obtain ⟨u, ro2, kq⟩ := put_okS hp (rf.rel.mt a (List.mem_of_getElem? ha)) (rf.rel.obj l a o ha ho) rx rd
      obtain ⟨r2, a2⟩ := rel_setAt rf.rel ha ro2
      exact ⟨a, _, h1, rf.mono a2 r2, a2.toLeN, kq⟩
    · cases e
  · cases e
theorem setI_eq {i : Nat} {k e : CE} {env : Env} {st st' : Store} {o : Out} (h : evS cl gl wf (.setI i k e) env st = .ok o st') :
    ∃ d s1 x s2 env1, ev cl gl false e env st = .ok d s1 ∧ ev cl gl false k env s1 = .ok x s2 ∧ putAt i x d env s2 = some (env1, st') ∧ o = .nx env1 := by
  simp only [evS] at h
  obtain ⟨d, s1, e1, h⟩ := Res.bind_eq h
  split at h
  · rename_i u hu
    obtain ⟨x, s2, e2, h⟩ := Res.bind_eq h
    obtain ⟨p, s3, e3, h⟩ := Res.bind_eq h
    cases h
    cases hp : setW u x d with
    | none =>
      rw [hp] at e3
      cases e3
    | some p' =>
      rw [hp] at e3
      cases e3
      exact ⟨d, s1, x, _, _, e1, e2, by simp only [putAt, hu, hp]; rfl, rfl⟩
  · rename_i l hl
    obtain ⟨x, s2, e2, h⟩ := Res.bind_eq h
    split at h
    · rename_i u hu
      obtain ⟨p, s3, e3, h⟩ := Res.bind_eq h
      cases h
      cases hp : setW u x d with
      | none =>
        rw [hp] at e3
        cases e3
      | some p' =>
        rw [hp] at e3
        cases e3
        exact ⟨d, s1, x, _, _, e1, e2, by simp only [putAt, hl, hu, hp]; rfl, rfl⟩
    · cases h
  · cases h
theorem sub_assign {o i : Expr} {env : PySem.Env} {pos : Pos} (h : notSl i = true) (v : Value) : assign (.Subscript o i pos) env v = (do
      let ov ← holding [v] (eval o env)
      let iv ← holding [v, ov] (eval i env)
      standAt pos
      holding [v, ov, iv] (setItem ov iv v)
      release [v, ov, iv] []) := by
  cases i <;> first | rfl | cases h
theorem swN {e tg : Expr} {l : Nat} {env : PySem.Env} (h : ∀ x p, tg ≠ .Name x p) : swapsWithSole [tg] e l env = pure false := by
  cases e <;> first
    | rfl
    | (cases tg <;> first | rfl | exact absurd rfl (h _ _))
theorem stN {e tg : Expr} {env : PySem.Env} (h : ∀ x k p, tg ≠ .Tuple x k p) (h2 : ∀ x p, tg ≠ .List x p) : swappedStores [tg] e env = pure none := by
  cases tg <;> first
    | rfl
    | exact absurd rfl (h _ _ _)
    | exact absurd rfl (h2 _ _)
theorem pg_put (S : Sd X T cl gl) {x : Str} {i : Expr} {ti : TE} {p pos : Pos} (hx : okN x = true) (hv : visB X.env.scope x = true) (hN : X.N[ixOf X.N x]? = some x) (hi : PE X i ti) (hs : notSl i = true) : PG X (.Subscript (.Name x p) i pos) (gSub (tVar (ixOf X.N x)) ti rPut) := by
  obtain ⟨x1, x2, x3⟩ := okN_dbg hx
  exact pg_sub (pe_var hN (vis_of hv) x1 x2) hi (set_put (by have := S.hu; omega)) (sub_assign hs)
theorem s_setI (S : Sd X T cl gl) {x : Str} {i e : Expr} {ck ce : CE} {fk fe : Bool} {p pos' pos : Pos} (hx : okN x = true) (hv : visB X.env.scope x = true) (hN : X.N[ixOf X.N x]? = some x) (hi : PE X i (dE X.K (ev cl gl false ck) false fk)) (hs : notSl i = true) (he : PE X e (dE X.K (ev cl gl false ce) false fe)) :
    PS X (.Assign [.Subscript (.Name x p) i pos'] e pos) (dS X.K fl (evS cl gl wf (.setI (ixOf X.N x) ck ce))) := (ps_asg he (pg_put S hx hv hN hi hs) (swN fun _ _ z => by cases z) (stN (fun _ _ _ z => by cases z) fun _ _ z => by cases z) rfl).imp fun En σ H z => by
  obtain ⟨g0, H0, g, env, st, o, st', rf, e, k⟩ := z
  obtain ⟨d, s1, y, s2, env1, e1, e2, e3, rfl⟩ := setI_eq e
  refine dE_go rf.re rf.rel e1 fun g1 H1 v a1 r1 rd1 => ?_
  have rf1 := rf.mono a1 r1
  have key : ∃ a, σ[ixOf X.N x]? = some (some (V.ref a)) := by
    unfold putAt at e3
    split at e3
    · rename_i u hu
      obtain ⟨a, h1, _⟩ := rf1.re.own _ _ hu
      exact ⟨a, h1⟩
    · rename_i l hl
      obtain ⟨v, h1, h2⟩ := rf1.re.val _ _ hl
      unfold RD at h2
      obtain ⟨a, rfl, _⟩ := h2
      exact ⟨a, h1⟩
    · cases e3
  obtain ⟨a, ha⟩ := key
  refine ⟨_, ha, dE_go rf1.re rf1.rel e2 fun g2 H2 vi a2 r2 rd2 => ?_⟩
  have rf2 := rf1.mono a2 r2
  obtain ⟨a', H3, h1, rf3, l3, kq⟩ := putAt_ok e3 rf2 rd2.ff (RD.mono a2.toLeN _ _ rd1.ff)
  rw [ha] at h1
  cases h1
  exact kq _ (k g2 H3 σ ((a1.trans a2).toLeN.trans l3) rf3)
/-! ### a[k] = v, o.f = v -/
theorem s_setX (S : Sd X T cl gl) {ox i e : Expr} {co ck ce : CE} {fk fe : Bool} {pos' pos : Pos} (ho : PE X ox (dE X.K (ev cl gl false co) false false)) (hi : PE X i (dE X.K (ev cl gl false ck) false fk)) (hs : notSl i = true) (he : PE X e (dE X.K (ev cl gl false ce) false fe)) :
    PS X (.Assign [.Subscript ox i pos'] e pos) (dS X.K fl (evS cl gl wf (.setX co ck ce))) := (ps_asg he (pg_sub ho hi (set_put (by have := S.hu; omega)) (sub_assign hs)) (swN fun _ _ z => by cases z) (stN (fun _ _ _ z => by cases z) fun _ _ z => by cases z) rfl).imp fun En σ H z => by
  obtain ⟨g0, H0, g, env, st, o, st', rf, e, k⟩ := z
  simp only [evS] at e
  obtain ⟨d, s1, e1, e⟩ := Res.bind_eq e
  obtain ⟨x, s2, e2, e⟩ := Res.bind_eq e
  obtain ⟨y, s3, e3, e⟩ := Res.bind_eq e
  split at e
  · rename_i l _
    split at e
    · rename_i u hu
      obtain ⟨q, s4, e4, e⟩ := Res.bind_eq e
      cases e
      cases hp : setW u y d with
      | none =>
        rw [hp] at e4
        cases e4
      | some q' =>
        rw [hp] at e4
        cases e4
        refine dE_go rf.re rf.rel e1 fun g1 H1 v a1 r1 rd1 => ?_
        have rf1 := rf.mono a1 r1
        refine dE_go rf1.re rf1.rel e2 fun g2 H2 w a2 r2 rd2 => ?_
        have rf2 := rf1.mono a2 r2
        refine dE_go rf2.re rf2.rel e3 fun g3 H3 vi a3 r3 rd3 => ?_
        have rf3 := rf2.mono a3 r3
        have hw := rd2.ff
        unfold RD at hw
        obtain ⟨a, rfl, ha⟩ := hw
        have ha3 := a3.toLeN.get ha
        obtain ⟨ho2, ro2, kq⟩ := put_okS hp (r3.mt a (List.mem_of_getElem? ha3)) (r3.obj l a u ha3 hu) rd3.ff (RD.mono (a2.trans a3).toLeN _ _ rd1.ff)
        obtain ⟨r4, a4⟩ := rel_setAt r3 ha3 ro2
        exact kq _ (k g3 _ σ (((a1.trans a2).trans a3).trans a4).toLeN (rf3.mono a4 r4))
    · cases e
  · cases e
theorem rfs_put {K : PySem.W.Frag} {C : Addr} {g : G} {H : Hp} {f : String} {d : D} {v : V} (n : NoAttr K C (Str.ofString f)) (rd : RD K g H d v) : ∀ {fs : List (String × D)} {vs : List (Str × V)}, RFs K C g H fs vs → RFs K C g H (putA fs f d) (putF (Str.ofString f) v vs)
  | [], vs, h => by
    have h : vs = [] := h
    rw [h]
    exact ⟨v, [], rfl, n, rd, rfl⟩
  | (y, x) :: r, vs, h => by
    obtain ⟨u, q, rfl, n1, h1, h2⟩ := h
    by_cases hy : y = f
    · subst hy
      have e1 : putA ((y, x) :: r) y d = (y, d) :: r := if_pos rfl
      have e2 : putF (Str.ofString y) v ((Str.ofString y, u) :: q) = (Str.ofString y, v) :: q := if_pos rfl
      rw [e1, e2]
      exact ⟨v, q, rfl, n1, rd, h2⟩
    · have e1 : putA ((y, x) :: r) f d = (y, x) :: putA r f d := if_neg hy
      have e2 : putF (Str.ofString f) v ((Str.ofString y, u) :: q) = (Str.ofString y, u) :: putF (Str.ofString f) v q := if_neg fun z => hy (ofS_inj z)
      rw [e1, e2]
      exact ⟨u, _, rfl, n1, h1, rfs_put n rd h2⟩
theorem rfs_len {K : PySem.W.Frag} {C : Addr} {g : G} {H : Hp} : ∀ {fs : List (String × D)} {vs : List (Str × V)}, RFs K C g H fs vs → vs.length = fs.length
  | [], vs, h => by
    have h : vs = [] := h
    rw [h]
    rfl
  | (y, x) :: r, vs, h => by
    obtain ⟨u, q, rfl, n1, h1, h2⟩ := h
    rw [List.length_cons, List.length_cons, rfs_len h2]
theorem s_setF (S : Sd X T cl gl) {ox e : Expr} {co ce : CE} {fr : Bool} {f : String} {pos' pos : Pos} (hme : T.me ≠ "") (hf : f ∈ T.at_) (ho : PE X ox (dE X.K (ev cl gl false co) false false)) (he : PE X e (dE X.K (ev cl gl false ce) false fr)) :
    PS X (.Assign [.Attribute ox (Str.ofString f) pos'] e pos) (dS X.K fl (evS cl gl wf (.setF fr T.me co f ce))) := (ps_fld ho he (by cases e <;> rfl)).imp fun En σ H z => by
  obtain ⟨g0, H0, g, env, st, o, st', rf, e, k⟩ := z
  simp only [evS] at e
  obtain ⟨d, s1, e1, e⟩ := Res.bind_eq e
  obtain ⟨x, s2, e2, e⟩ := Res.bind_eq e
  split at e
  · rename_i l
    split at e
    · rename_i c' fs hst
      split at e
      · rename_i hc
        obtain ⟨rfl, hz⟩ := hc
        cases e
        refine dE_go' rf.re rf.rel e1 fun g1 H1 v a1 r1 rd1 ff => ?_
        have key : ∃ g2, Le g H g2 H1 ∧ Rel X.K g2 H1 (stoV fr d s1).2 ∧ RD X.K g2 H1 (stoV fr d s1).1 v := by
          cases fr with
          | false => exact ⟨g1, a1, r1, rd1.ff⟩
          | true =>
            cases hd : oOf d with
            | none =>
              have e0 : stoV true d s1 = (d, s1) := by
                unfold stoV
                rw [hd]
              rw [e0]
              exact ⟨g1, a1, r1, rd1.ff⟩
            | some u =>
              have e0 : stoV true d s1 = (.ref s1.length, s1 ++ [u]) := by
                unfold stoV
                rw [hd]
              rw [e0]
              obtain ⟨p, rfl, hp, hB, ro, r2⟩ := ff rfl u hd
              exact ⟨g1.push p, le_push a1 hp, add_push r1 r2 ro hB, push_ref r1⟩
        obtain ⟨g2, a2, r2, rd2⟩ := key
        have rf2 := rf.mono a2 r2
        refine dE_go rf2.re rf2.rel e2 fun g3 H3 w a3 r3 rd3 => ?_
        have rf3 := rf2.mono a3 r3
        have hw := rd3.ff
        unfold RD at hw
        obtain ⟨p, rfl, hp⟩ := hw
        obtain ⟨dx, vs, h1, h2, h3⟩ := r3.obj l p _ hp hst
        have n := S.nat hme f hf
        refine ⟨p, _, dx, vs, rfl, h1, h2, n, by rw [rfs_len h3]; omega, ?_⟩
        have rp := rfs_put n (RD.mono a3.toLeN _ _ rd2) h3
        have lm : LeN g3 H3 g3 (upd H3 p (.ins (clsA X.K T.me) dx (putF (Str.ofString f) v vs))) := leN_mut (r3.mt p (List.mem_of_getElem? hp))
        obtain ⟨r4, a4⟩ := rel_setAtS (o' := .ins T.me (putA fs f (stoV fr d s1).1)) (ho := .ins (clsA X.K T.me) dx (putF (Str.ofString f) v vs)) r3 hp ⟨dx, _, upd_same, h2, RFs.monoC lm.c _ _ rp⟩
        exact k g3 _ σ ((a2.trans a3).trans a4).toLeN (rf3.mono a4 r4)
      · cases e
    · cases e
  · cases e
/-! ### for -/
theorem s_for {tg it : Expr} {b : List Stmt} {cg : CG} {ci : CI} {cb : CSs} {pos : Pos} (hp : PassesOwn (model X.prog X.w) X.A X.env X.xe) (hc : X.calm = true) (hns : notSet it = true) (hI : PI X tg it (dI X.K (evI cl gl ci))) (hg : PG X tg (toTG X.K cg)) (hb : PSs X b (dS X.K fl (evSs cl gl wf cb))) :
    PS X (.For tg it b [] pos) (dS X.K fl (evS cl gl wf (.for_ cg ci cb))) := (ps_for hp hc hI hg hb (fold_ok hns)).imp fun En σ H z => by
  obtain ⟨g0, H0, g, env, st, o, st', rf, e, k⟩ := z
  simp only [evS] at e
  obtain ⟨p, s1, e1, e⟩ := Res.bind_eq e
  split at e
  · cases e
  · rename_i how
    refine ⟨g, env, st, p, s1, rf.re, rf.rel, e1, fun g1 H1 J a1 r1 io => ?_⟩
    refine ⟨fun i m σ2 H2 => m + i = p.1.length ∧ ∃ g2 env2 st2, LeN g1 H1 g2 H2 ∧ RF X.K g0 H0 g2 H2 env2 σ2 st2 ∧ forGo (assignG cg) (fun e s => evSs cl gl wf cb e s) p.2.ok (p.1.drop i) env2 st2 = .ok o st', ⟨p.1.length, rfl, g1, env, s1, .refl g1 H1, rf.mono a1 r1, e⟩, fun i m σ2 H2 hW => ?_⟩
    obtain ⟨hm, g2, env2, st2, l2, rf2, e2⟩ := hW
    by_cases hi : i < p.1.length
    · have hx : p.1[i]? = some (p.1[i]) := List.getElem?_eq_getElem hi
      rw [List.drop_eq_getElem_cons hi] at e2
      simp only [forGo] at e2
      split at e2
      · rename_i hck
        obtain ⟨_, it2⟩ := io g2 H2 st2 l2 (fun z => absurd z how) rf2.rel hck
        obtain ⟨go, yl⟩ := it2 i _ hx
        split at e2
        · cases e2
        · rename_i env3 ha
          obtain ⟨o2, s3, e3, e2⟩ := Res.bind_eq e2
          refine .inr ⟨go, fun σ4 H4 => ∃ g4 env4, LeN g1 H1 g4 H4 ∧ RF X.K g0 H0 g4 H4 env4 σ4 s3 ∧ forGo (assignG cg) (fun e s => evSs cl gl wf cb e s) p.2.ok (p.1.drop (i + 1)) env4 s3 = .ok o st', fun σ4 H4 h4 => ⟨m - 1, by omega, by omega, ?_⟩, fun x H3 hy => ?_⟩
          · obtain ⟨g4, env4, l4, rf4, e4⟩ := h4
            exact ⟨g4, env4, s3, l4, rf4, e4⟩
          · obtain ⟨a3, r3, rd3⟩ := yl x H3 hy
            obtain ⟨σ3, rf3, kq⟩ := (rf2.mono a3 r3).assign ha rd3
            refine kq _ ⟨g0, H0, g2, env3, st2, o2, s3, rf3, e3, ?_⟩
            have l3 : LeN g1 H1 g2 H3 := l2.trans a3.toLeN
            cases o2 with
            | nx env4 => exact fun g4 H4 σ4 l4 rf4 => ⟨g4, env4, l3.trans l4, rf4, e2⟩
            | cont env4 => exact fun g4 H4 σ4 l4 rf4 => ⟨g4, env4, l3.trans l4, rf4, e2⟩
            | brk env4 =>
              cases e2
              exact fun g4 H4 σ4 l4 rf4 => k g4 H4 σ4 (a1.toLeN.trans (l3.trans l4)) rf4
            | ret d =>
              cases e2
              exact k
      · cases e2
    · have hi2 : i = p.1.length := by omega
      subst hi2
      rw [List.drop_length] at e2
      simp only [forGo] at e2
      split at e2
      · rename_i hck
        cases e2
        obtain ⟨st0, _⟩ := io g2 H2 _ l2 (fun z => absurd z how) rf2.rel hck
        exact .inl ⟨st0, k g2 H2 σ2 (a1.toLeN.trans l2) rf2⟩
      · cases e2
/-- return x, x an own thing, to the store -/
theorem s_giveO {x : Str} {p pos : Pos} (hx : okN x = true) (hv : visB X.env.scope x = true) (hN : X.N[ixOf X.N x]? = some x) : PS X (.Return (some (.Name x p)) pos) (dS X.K fl (evS cl gl wf (.giveO (ixOf X.N x)))) := by
  obtain ⟨x1, x2, x3⟩ := okN_dbg hx
  refine (ps_ret (pe_var hN (vis_of hv) x1 x2)).imp fun En σ H z => ?_
  obtain ⟨g0, H0, g, env, st, o, st', rf, e, k⟩ := z
  simp only [evS] at e
  split at e
  · rename_i u hu
    cases e
    obtain ⟨a, h1, ro, hB, hn⟩ := rf.re.own _ _ hu
    exact ⟨_, h1, k (g.push a) H _ (le_push rf.le (rf.fr _ _ _ hu h1)) (rel_push rf.rel hB ro hn) (push_ref rf.rel) fun _ o z => by cases z⟩
  · cases e
theorem del_add {g : G} {p : Addr} (hB : g.B p) : (g.del p).add p = g := by
  show G.mk _ _ = g
  obtain ⟨B, ρ⟩ := g
  congr 1
  funext b
  refine propext ⟨fun z => z.elim (fun y => y.1) fun y => y ▸ hB, fun z => ?_⟩
  by_cases hb : b = p
  · exact .inr hb
  · exact .inl ⟨z, hb⟩
/-- return x, x an own thing: it is new to the caller -/
theorem s_retO {x : Str} {p pos : Pos} (hx : okN x = true) (hv : visB X.env.scope x = true) (hN : X.N[ixOf X.N x]? = some x) : PS X (.Return (some (.Name x p)) pos) (dS X.K fl (evS cl gl wf (.retO (ixOf X.N x)))) := by
  obtain ⟨x1, x2, x3⟩ := okN_dbg hx
  refine (ps_ret (pe_var hN (vis_of hv) x1 x2)).imp fun En σ H z => ?_
  obtain ⟨g0, H0, g, env, st, o, st', rf, e, k⟩ := z
  simp only [evS] at e
  split at e
  · rename_i u hu
    cases e
    obtain ⟨a, h1, ro, hB, hn⟩ := rf.re.own _ _ hu
    have hnB : ¬ (g.del a).B a := fun z => z.2 rfl
    refine ⟨_, h1, k (g.del a) H _ (le_del (rf.fr _ _ _ hu h1) rf.le) ⟨rf.rel.len, fun l2 q u e2 e3 => (rf.rel.obj l2 q u e2 e3).mono leN_del rfl, rf.rel.nd, fun q hq => ⟨rf.rel.mt q hq, fun z => hn (z ▸ hq)⟩, fun b hb => rf.rel.trk b hb.1⟩ (rd_of_ro (ro.mono leN_del rfl) hnB) fun _ o ho => ?_⟩
    have ho2 : o = u := by
      cases u <;> simp [O.d, oOf] at ho <;> exact ho.symm
    subst ho2
    exact ⟨a, rfl, rf.fr _ _ _ hu h1, hnB, by rw [del_add hB]; exact ro, by rw [del_add hB]; exact rf.rel⟩
  · cases e
end
end Ev
/-! Ev16: several stores at once -/
namespace Ev
open PySem L2 PySem.Spec PyProof.Rows
section
variable {K : PySem.W.Frag} {g g' g0 gS : G} {H H' H0 HS : Hp} {env : Env} {σ : L2.St} {st st' : Store}
/-- slots taken from elsewhere -/
theorem RF.re_ix {env' : Env} {σ' : L2.St} (φ : Nat → Nat) (h : RF K g0 H0 g H env σ st) (hl : env'.length = σ'.length) (hφ : ∀ j e, env'[j]? = some e → env[φ j]? = some e ∧ σ'[j]? = σ[φ j]?) (hi : ∀ j k, φ j = φ k → j = k) : RF K g0 H0 g H env' σ' st := by
  refine ⟨⟨hl, fun j d e => ?_, fun j u e => ?_, fun j k u w q e1 e2 e3 e4 => ?_⟩, h.rel, h.le, fun j u q e1 e2 => ?_⟩
  · obtain ⟨h1, h2⟩ := hφ j _ e
    rw [h2]
    exact h.re.val _ d h1
  · obtain ⟨h1, h2⟩ := hφ j _ e
    rw [h2]
    exact h.re.own _ u h1
  · obtain ⟨h1, h2⟩ := hφ j _ e1
    obtain ⟨h3, h4⟩ := hφ k _ e2
    rw [h2] at e3
    rw [h4] at e4
    exact hi j k (h.re.one _ _ u w q h1 h3 e3 e4)
  · obtain ⟨h1, h2⟩ := hφ j _ e1
    rw [h2] at e2
    exact h.fr _ u q h1 e2
theorem RF.move {pe : Env} {pv : L2.St} {e : EV} {x : Option V} (h : RF K g0 H0 g H (env ++ e :: pe) (σ ++ x :: pv) st) (hl : env.length = σ.length) (i : Nat) : RF K g0 H0 g H (env.set i e ++ pe) (σ.set i x ++ pv) st := by
  have hl2 := h.re.len
  simp only [List.length_append, List.length_cons] at hl2
  refine h.re_ix (fun j => if j < env.length then (if j = i then env.length else j) else j + 1) (by simp; omega) (fun j w e1 => ?_) fun j k hjk => ?_
  · by_cases h1 : j < env.length
    · rw [if_pos h1]
      rw [List.getElem?_append_left (by simpa using h1)] at e1
      rw [List.getElem?_append_left (show j < (σ.set i x).length by rw [List.length_set, ← hl]; exact h1)]
      rw [set_get] at e1 ⊢
      by_cases h2 : j = i
      · rw [if_pos h2]
        rw [if_pos h2.symm] at e1 ⊢
        rw [List.getElem?_eq_getElem h1] at e1
        have e1 : some e = some w := e1
        cases e1
        rw [List.getElem?_append_right (Nat.le_refl _), List.getElem?_append_right (show σ.length ≤ env.length by omega), List.getElem?_eq_getElem (show j < σ.length by omega)]
        refine ⟨by rw [Nat.sub_self]; rfl, ?_⟩
        rw [show env.length - σ.length = 0 by omega]
        rfl
      · rw [if_neg h2]
        rw [if_neg (Ne.symm h2)] at e1 ⊢
        rw [List.getElem?_append_left h1, List.getElem?_append_left (by omega)]
        exact ⟨e1, rfl⟩
    · rw [if_neg h1]
      rw [List.getElem?_append_right (show (env.set i e).length ≤ j by rw [List.length_set]; omega), List.length_set] at e1
      rw [List.getElem?_append_right (show (σ.set i x).length ≤ j by rw [List.length_set]; omega), List.getElem?_append_right (show env.length ≤ j + 1 by omega), List.getElem?_append_right (show σ.length ≤ j + 1 by omega), List.length_set]
      rw [show j + 1 - env.length = (j - env.length) + 1 by omega, show j + 1 - σ.length = (j - σ.length) + 1 by omega, List.getElem?_cons_succ, List.getElem?_cons_succ]
      exact ⟨e1, rfl⟩
  · have hjk : (if j < env.length then (if j = i then env.length else j) else j + 1) = (if k < env.length then (if k = i then env.length else k) else k + 1) := hjk
    repeat' split at hjk
    all_goals omega
theorem RF.pre {pe : Env} {pv : L2.St} (h : RF K g0 H0 g H (env ++ pe) (σ ++ pv) st) (hl : env.length = σ.length) : RF K g0 H0 g H env σ st :=
  h.re_ix id hl (fun j w e => by
    have := some_lt e
    exact ⟨by show (env ++ pe)[j]? = _; rw [List.getElem?_append_left this]; exact e, by show _ = (σ ++ pv)[j]?; rw [List.getElem?_append_left (by omega)]⟩) fun _ _ z => z
theorem RF.appU (h : RF K g0 H0 g H env σ st) : RF K g0 H0 g H (env ++ [.un]) (σ ++ [none]) st :=
  have at_j : ∀ {j : Nat} {w : EV}, (env ++ [EV.un])[j]? = some w → w ≠ .un → env[j]? = some w ∧ (σ ++ [none])[j]? = σ[j]? := fun {j w} e n => by
    by_cases hj : j < env.length
    · rw [List.getElem?_append_left hj] at e
      exact ⟨e, List.getElem?_append_left (by rw [← h.re.len]; exact hj)⟩
    · rw [List.getElem?_append_right (by omega)] at e
      have hz : j - env.length = 0 := by
        have := some_lt e
        simp at this
        omega
      rw [hz] at e
      cases e
      exact absurd rfl n
  ⟨⟨by simp [h.re.len], fun j d e => by
    obtain ⟨h1, h2⟩ := at_j e (by simp)
    rw [h2]
    exact h.re.val j d h1, fun j u e => by
    obtain ⟨h1, h2⟩ := at_j e (by simp)
    rw [h2]
    exact h.re.own j u h1, fun j k u w q e1 e2 e3 e4 => by
    obtain ⟨h1, h2⟩ := at_j e1 (by simp)
    obtain ⟨h3, h4⟩ := at_j e2 (by simp)
    rw [h2] at e3
    rw [h4] at e4
    exact h.re.one j k u w q h1 h3 e3 e4⟩, h.rel, h.le, fun j u q e1 e2 => by
    obtain ⟨h1, h2⟩ := at_j e1 (by simp)
    rw [h2] at e2
    exact h.fr j u q h1 e2⟩
theorem set_end {α : Type} (l r : List α) (a b : α) : (l ++ a :: r).set l.length b = l ++ b :: r := by
  rw [List.set_append_right _ _ (Nat.le_refl _), Nat.sub_self]
  rfl
theorem RF.appV {d : D} {v : V} (h : RF K g0 H0 g H env σ st) (rd : RD K g H d v) : RF K g0 H0 g H (env ++ [.v d]) (σ ++ [some v]) st := by
  have := h.appU.setV rd env.length
  rw [set_end, h.re.len, set_end] at this
  exact this
theorem RF.appO {o : O} {p : Addr} (h : RF K g0 H0 g H env σ st) (a : Le g H g' H') (hp : H p = none) (hB : ¬ g'.B p) (ro : RO K (g'.add p) H' o p) (r0 : Rel K g' H' st') (r : Rel K (g'.add p) H' st') :
    RF K g0 H0 (g'.add p) H' (env ++ [.own o]) (σ ++ [some (.ref p)]) st' ∧ LeN g H (g'.add p) H' := by
  have := h.appU.newO a hp hB ro r0 r env.length
  rw [set_end, h.re.len, set_end] at this
  exact this
/-- an own thing goes to the store -/
theorem RF.give {o : O} {i : Nat} (h : RF K g0 H0 g H env σ st) (e : env[i]? = some (.own o)) : ∃ p, σ[i]? = some (some (.ref p)) ∧ RF K g0 H0 (g.push p) H (env.set i (.v (.ref st.length))) σ (st ++ [o]) := by
  obtain ⟨p, e1, ro, hB, hn⟩ := h.re.own i o e
  have l : LeC g H (g.push p) H := lec_push hB
  refine ⟨p, e1, ⟨⟨by rw [List.length_set]; exact h.re.len, fun j d e2 => ?_, fun j u e2 => ?_, fun j k u w q e2 e3 e4 e5 => ?_⟩, rel_push h.rel hB ro hn, le_push h.le (h.fr i o p e e1), fun j u q e2 e3 => h.fr j u q (own_of_set e2).2 e3⟩⟩
  · rw [set_get] at e2
    by_cases hj : i = j
    · subst hj
      rw [if_pos rfl, e] at e2
      cases e2
      exact ⟨_, e1, push_ref h.rel⟩
    · rw [if_neg hj] at e2
      obtain ⟨v, e3, rd⟩ := h.re.val j d e2
      exact ⟨v, e3, RD.monoC l _ _ rd⟩
  · obtain ⟨hj, e2⟩ := own_of_set e2
    obtain ⟨q, e3, ro2, hB2, hn2⟩ := h.re.own j u e2
    refine ⟨q, e3, ro2.monoC l rfl, .inl hB2, fun z => ?_⟩
    have z : q ∈ g.ρ ++ [p] := z
    rcases List.mem_append.mp z with z | z
    · exact hn2 z
    · rw [List.mem_singleton.mp z] at e3
      exact hj (h.re.one i j o u p e e2 e1 e3)
  · exact h.re.one j k u w q (own_of_set e2).2 (own_of_set e3).2 e4 e5
theorem leN_push {p : Addr} (a : LeN g H g' H') (h : H p = none) : LeN g H (g'.push p) H' := by
  refine ⟨fun b o e n => ?_, a.trk, ?_⟩
  · obtain ⟨k1, k2⟩ := a.keep b o e n
    exact ⟨k1, fun z => z.elim k2 (ne_of_none e h)⟩
  · obtain ⟨m, e, f⟩ := a.pre
    refine ⟨m ++ [p], by show g'.ρ ++ [p] = _; rw [e, List.append_assoc], fun q hq => ?_⟩
    rcases List.mem_append.mp hq with z | z
    · exact f q z
    · rw [List.mem_singleton.mp z]
      exact h
/-! ### the values of several names -/
def mk1 (k : Nat) (d : D) : Option EV := if k = 0 then some (.v d) else own1 d
def mkP : List Nat → List D → Option (List EV)
  | [], [] => some []
  | k :: ks, d :: ds => (mk1 k d).bind fun e => (mkP ks ds).map fun r => e :: r
  | _, _ => none
def FP (HS : Hp) (pe : Env) (pv : L2.St) : Prop := ∀ (j : Nat) (o : O) (p : Addr), pe[j]? = some (.own o) → pv[j]? = some (some (.ref p)) → HS p = none
theorem FP.app {pe : Env} {pv : L2.St} {e : EV} {x : Option V} (h : FP HS pe pv) (hl : pe.length = pv.length) (he : ∀ o p, e = .own o → x = some (.ref p) → HS p = none) : FP HS (pe ++ [e]) (pv ++ [x]) := fun j o p e1 e2 => by
  by_cases hj : j < pe.length
  · rw [List.getElem?_append_left hj] at e1
    rw [List.getElem?_append_left (by omega)] at e2
    exact h j o p e1 e2
  · have hz : j - pe.length = 0 := by
      have := some_lt e1
      simp at this
      omega
    rw [List.getElem?_append_right (by omega), hz] at e1
    rw [List.getElem?_append_right (by omega), ← hl, hz] at e2
    cases e1
    cases e2
    exact he o p rfl rfl
def dP (K : PySem.W.Frag) (ks : List Nat) (F : Env → Store → Res (List D)) : TA := fun σ H Q => ∃ gS HS g0 H0 g env pe pv st ds st' qe, RF K g0 H0 g H (env ++ pe) (σ ++ pv) st ∧ env.length = σ.length ∧ LeN gS HS g H ∧ FP HS pe pv ∧ F env st = .ok ds st' ∧ mkP ks ds = some qe ∧
  ∀ g' H' vs, LeN gS HS g' H' → RF K g0 H0 g' H' (env ++ (pe ++ qe)) (σ ++ (pv ++ vs.map some)) st' → FP HS (pe ++ qe) (pv ++ vs.map some) → Q vs H'
def kFr (f : Expr → CE) : List Nat → List Expr → Bool
  | [], [] => true
  | k :: ks, e :: es => (decide (k = 0) || isFr (f e)) && kFr f ks es
  | _, _ => false
theorem dP_imp {ks : List Nat} {F : Env → Store → Res (List D)} {Q Q' : List V → Hp → Prop} (h : dP K ks F σ H Q) (k : ∀ vs H, Q vs H → Q' vs H) : dP K ks F σ H Q' := by
  obtain ⟨gS, HS, g0, H0, g, env, pe, pv, st, ds, st', qe, h1, h2, h3, h4, h5, h6, h7⟩ := h
  exact ⟨gS, HS, g0, H0, g, env, pe, pv, st, ds, st', qe, h1, h2, h3, h4, h5, h6, fun g' H' vs a b c => k _ _ (h7 g' H' vs a b c)⟩
end
section
variable {X : Cx} {T : Tab} {fl : Bool} {cl : String → List D → Store → Res D} {gl : String → Option D} {wf : Nat}
theorem pa_par {f : Expr → CE} (hf : ∀ e, PE X e (dE X.K (ev cl gl false (f e)) false (isFr (f e)))) : ∀ (ks : List Nat) (es : List Expr), kFr f ks es = true → PA X es (dP X.K ks (evEs cl gl false (erEs f es)))
  | [], [], _ => pa_nil.imp fun σ H Q h => by
    obtain ⟨gS, HS, g0, H0, g, env, pe, pv, st, ds, st', qe, h1, h2, h3, h4, h5, h6, h7⟩ := h
    simp only [erEs, evEs] at h5
    cases h5
    cases h6
    have := h7 g H [] h3 (by simpa using h1) (by simpa using h4)
    exact this
  | k :: ks, e :: es, hk => by
    unfold kFr at hk
    rw [Bool.and_eq_true, Bool.or_eq_true] at hk
    by_cases hs : notStar e = true
    · refine (pa_cons (hf e) (pa_par hf ks es hk.2) (star_ok hs)).imp fun σ H Q h => ?_
      obtain ⟨gS, HS, g0, H0, g, env, pe, pv, st, ds, st', qe, h1, h2, h3, h4, h5, h6, h7⟩ := h
      simp only [erEs, hs, gd, evEs] at h5
      obtain ⟨d, s1, e2, h5⟩ := Res.bind_eq h5
      obtain ⟨ds', s2, e3, h5⟩ := Res.bind_eq h5
      cases h5
      unfold mkP at h6
      rw [Option.bind_eq_some_iff] at h6
      obtain ⟨e0, h8, h6⟩ := h6
      rw [Option.map_eq_some_iff] at h6
      obtain ⟨r, h9, rfl⟩ := h6
      have hpl : pe.length = pv.length := by
        have := h1.re.len
        simp only [List.length_append] at this
        omega
      refine dE_go' (h1.pre h2).re h1.rel e2 fun g1 H1 v a1 r1 rd1 fr => ?_
      have fin : ∀ g2 (x : V), x = v → LeN gS HS g2 H1 → RF X.K g0 H0 g2 H1 (env ++ (pe ++ [e0])) (σ ++ (pv ++ [some x])) s1 → FP HS (pe ++ [e0]) (pv ++ [some x]) → dP X.K ks (evEs cl gl false (erEs f es)) σ H1 (fun xs H2 => Q (v :: xs) H2) := fun g2 x hx l2 rf2 fp2 => by
        subst hx
        refine ⟨gS, HS, g0, H0, g2, env, pe ++ [e0], pv ++ [some x], s1, ds', _, r, rf2, h2, l2, fp2, e3, h9, fun g3 H3 vs l3 rf3 fp3 => ?_⟩
        exact h7 g3 H3 (x :: vs) l3 (by simpa using rf3) (by simpa using fp3)
      unfold mk1 at h8
      split at h8
      · cases h8
        refine fin g1 v rfl (h3.trans a1.toLeN) ?_ (h4.app hpl fun o p z => by cases z)
        have := (h1.mono a1 r1).appV rd1.ff
        rw [List.append_assoc, List.append_assoc] at this
        exact this
      · rename_i hk0
        unfold own1 at h8
        rw [Option.map_eq_some_iff] at h8
        obtain ⟨o, ho, rfl⟩ := h8
        obtain ⟨p, rfl, hp, hB, ro, r2⟩ := fr (hk.1.elim (fun z => absurd (of_decide_eq_true z) hk0) id) o ho
        obtain ⟨rf2, l2⟩ := h1.appO a1 hp hB ro r1 r2
        rw [List.append_assoc, List.append_assoc] at rf2
        refine fin (g1.add p) _ rfl (h3.trans l2) rf2 (h4.app hpl fun o' p' _ z => ?_)
        cases z
        exact free_back h3 hp
    · refine ⟨fun pos pins s σ H Q I h => ?_⟩
      obtain ⟨gS, HS, g0, H0, g, env, pe, pv, st, ds, st', qe, h1, h2, h3, h4, h5, h6, h7⟩ := h
      have hs' : notStar e = false := by simpa using hs
      simp [erEs, hs', gd, evEs, ev] at h5
  | [], _ :: _, h => by cases h
  | _ :: _, [], h => by cases h
def setsS : L2.St → List Nat → List V → L2.St
  | σ, i :: r, v :: q => setsS (σ.set i (some v)) r q
  | σ, _, _ => σ
theorem parGo_ok {K : PySem.W.Frag} {gS g0 : G} {HS H0 : Hp} : ∀ (gs : List (Nat × Nat)) {ds : List D} {env : Env} {σ : L2.St} {g : G} {H : Hp} {st st' : Store} {o : Out} {qe : List EV} {vs : List V}, parGo gs ds env st = .ok o st' → mkP (gs.map (·.1)) ds = some qe → env.length = σ.length →
    LeN gS HS g H → RF K g0 H0 g H (env ++ qe) (σ ++ vs.map some) st → FP HS qe (vs.map some) → vs.length = gs.length ∧ ∃ g' env', o = .nx env' ∧ LeN gS HS g' H ∧ RF K g0 H0 g' H env' (setsS σ (gs.map (·.2)) vs) st'
  | [], ds, env, σ, g, H, st, st', o, qe, vs, e, h1, h2, h3, h4, h5 => by
    cases ds with
    | cons _ _ => cases e
    | nil =>
      cases e
      cases h1
      have hl := h4.re.len
      simp only [List.length_append, List.length_nil, List.length_map] at hl
      have hv : vs = [] := List.eq_nil_of_length_eq_zero (by omega)
      subst hv
      exact ⟨rfl, g, env, rfl, h3, by simpa [setsS] using h4⟩
  | (k, i) :: r, ds, env, σ, g, H, st, st', o, qe, vs, e, h1, h2, h3, h4, h5 => by
    cases ds with
    | nil => cases e
    | cons d q =>
      have h1 : (mk1 k d).bind (fun e => (mkP (r.map (·.1)) q).map fun r => e :: r) = some qe := h1
      rw [Option.bind_eq_some_iff] at h1
      obtain ⟨e0, h6, h1⟩ := h1
      rw [Option.map_eq_some_iff] at h1
      obtain ⟨qr, h7, rfl⟩ := h1
      have hl := h4.re.len
      simp only [List.length_append, List.length_cons, List.length_map] at hl
      cases vs with
      | nil =>
        simp at hl
        omega
      | cons v vs =>
        have e : (ofO (putK k d st) st).bind (fun p _ => parGo r q (env.set i p.1) p.2) = .ok o st' := e
        obtain ⟨p, s1, e1, e⟩ := Res.bind_eq e
        have fp2 : FP HS qr (vs.map some) := fun j o p z1 z2 => h5 (j + 1) o p (by simpa using z1) (by simpa using z2)
        have go : ∀ g2, putK k d st = some p → LeN gS HS g2 H → RF K g0 H0 g2 H (env ++ p.1 :: qr) (σ ++ some v :: vs.map some) p.2 → (v :: vs).length = ((k, i) :: r).length ∧ ∃ g' env', o = .nx env' ∧ LeN gS HS g' H ∧ RF K g0 H0 g' H env' (setsS σ (((k, i) :: r).map (·.2)) (v :: vs)) st' := fun g2 _ l2 rf2 => by
          obtain ⟨h8, g', env', h9, h10, h11⟩ := parGo_ok r (σ := σ.set i (some v)) e h7 (by simp [h2]) l2 (rf2.move h2 i) fp2
          exact ⟨by simp [h8], g', env', h9, h10, h11⟩
        cases hp : putK k d st with
        | none =>
          rw [hp] at e1
          cases e1
        | some p' =>
          rw [hp] at e1
          cases e1
          rcases k with _ | _ | k
          · skip
            cases hp
            cases h6
            exact go g rfl h3 h4
          · skip
            have hq : (own1 d).map (fun e => (e, st)) = some p := hp
            rw [Option.map_eq_some_iff] at hq
            obtain ⟨e2, hq, hz⟩ := hq
            have h6 : own1 d = some e0 := h6
            rw [hq] at h6
            cases h6
            cases hz
            exact go g hp h3 h4
          · skip
            have hq : (oOf d).map (fun o => (EV.v (.ref st.length), st ++ [o])) = some p := hp
            rw [Option.map_eq_some_iff] at hq
            obtain ⟨u, hq, hz⟩ := hq
            have h6 : own1 d = some e0 := h6
            unfold own1 at h6
            rw [hq] at h6
            cases h6
            cases hz
            obtain ⟨a, ha, rf2⟩ := h4.give (i := env.length) (o := u) (by rw [List.getElem?_append_right (Nat.le_refl _), Nat.sub_self]; rfl)
            rw [set_end] at rf2
            rw [List.getElem?_append_right (by omega), h2, Nat.sub_self] at ha
            cases ha
            exact go (g.push a) hp (leN_push h3 (h5 0 u a rfl rfl)) rf2
/-- what a store to several names comes to -/
theorem par_imp {gs : List (Nat × Nat)} {es : CEs} {En : Ends} {σ : L2.St} {H : Hp} (z : dS X.K fl (evS cl gl wf (.par gs es)) En σ H) :
    dP X.K (gs.map (·.1)) (evEs cl gl false es) σ H (fun vs H1 => vs.length = gs.length ∧ En.nx (setsS σ (gs.map (·.2)) vs) H1 ∧ ∀ p, H1 p = none → En.nx (setsS σ (gs.map (·.2)) vs) (upd H1 p (.tup vs))) := by
  obtain ⟨g0, H0, g, env, st, o, st', rf, e, k⟩ := z
  simp only [evS] at e
  obtain ⟨ds, s1, e1, e⟩ := Res.bind_eq e
  have hq : ∀ (gs : List (Nat × Nat)) (ds : List D) (env : Env) (st st' : Store) (o : Out), parGo gs ds env st = .ok o st' → ∃ qe, mkP (gs.map (·.1)) ds = some qe := by
    intro gs
    induction gs with
    | nil =>
      intro ds env st st' o e
      cases ds with
      | nil => exact ⟨[], rfl⟩
      | cons _ _ => cases e
    | cons x r ih =>
      intro ds env st st' o e
      obtain ⟨k, i⟩ := x
      cases ds with
      | nil => cases e
      | cons d q =>
        have e : (ofO (putK k d st) st).bind (fun p _ => parGo r q (env.set i p.1) p.2) = .ok o st' := e
        obtain ⟨p, s1, e1, e⟩ := Res.bind_eq e
        obtain ⟨qe, hqe⟩ := ih _ _ _ _ _ e
        have h1 : ∃ e0, mk1 k d = some e0 := by
          cases hp : putK k d st with
          | none =>
            rw [hp] at e1
            cases e1
          | some p' =>
            rcases k with _ | _ | k
            · exact ⟨_, rfl⟩
            · skip
              have hp : (own1 d).map (fun e => (e, st)) = some p' := hp
              rw [Option.map_eq_some_iff] at hp
              obtain ⟨e2, hp, _⟩ := hp
              exact ⟨e2, hp⟩
            · skip
              have hp : (oOf d).map (fun o => (EV.v (.ref st.length), st ++ [o])) = some p' := hp
              rw [Option.map_eq_some_iff] at hp
              obtain ⟨u, hp, _⟩ := hp
              exact ⟨.own u, by show own1 d = _; unfold own1; rw [hp]; rfl⟩
        obtain ⟨e0, h1⟩ := h1
        exact ⟨e0 :: qe, by show (mk1 k d).bind _ = _; rw [h1]; show Option.map _ (mkP (r.map (·.1)) q) = _; rw [hqe]; rfl⟩
  obtain ⟨qe, hqe⟩ := hq gs ds env s1 st' o e
  refine ⟨g, H, g0, H0, g, env, [], [], st, ds, s1, qe, by simpa using rf, rf.re.len, .refl g H, fun j o p z => by simp at z, e1, hqe, fun g' H' vs l rf2 fp => ?_⟩
  obtain ⟨h1, g2, env', rfl, l2, rf3⟩ := parGo_ok gs e hqe rf.re.len l (by simpa using rf2) (by simpa using fp)
  refine ⟨h1, k g2 H' _ l2 rf3, fun p hp => k g2 _ _ (l2.trans (le_new hp rf3.rel.trk).toLeN) (rf3.mono (le_new hp rf3.rel.trk) (rf3.rel.new hp))⟩
theorem gNs_go : ∀ (is : List Nat) (vs : List V) (σ : L2.St) (H : Hp) (Q : L2.St → Hp → Prop), vs.length = is.length → Q (setsS σ is vs) H → gNs is vs σ H Q
  | [], vs, σ, H, Q, h, q => by
    have hv : vs = [] := List.eq_nil_of_length_eq_zero h
    subst hv
    exact ⟨rfl, q⟩
  | i :: is, vs, σ, H, Q, h, q => by
    cases vs with
    | nil => cases h
    | cons v vs => exact ⟨v, vs, rfl, gNs_go is vs _ H Q (by simpa using h) q⟩
end
end Ev
/-! Ev17: every statement -/
namespace Ev
open PySem L2 PySem.Spec PyProof.Rows
/-! ### from the text -/
def swNm (sc : Scope) (ts : List Expr) (l : Nat) : List Str := ts.filterMap fun
  | .Name x p => if sc.names.lookup x == some .local && p.line == l then some x else none
  | _ => none
def isSt (e : Expr) : Bool := match e with
  | .Starred .. => true
  | _ => false
/-- in which order are the names of a display stored; none: the model does not say -/
def swP (sc : Scope) (ts vs : List Expr) : Option (Option (List Str)) :=
  if (!(ts.length == 2 || ts.length == 3) || vs.length != ts.length) = true then some none
  else if (vs.any isSt) = true then some none
  else if ((swNm sc ts ((ts.head?.map (·.pos.line)).getD 0)).length != ts.length || (swNm sc ts ((ts.head?.map (·.pos.line)).getD 0)).eraseDups.length != (swNm sc ts ((ts.head?.map (·.pos.line)).getD 0)).length) = true then some none
  else if (vs.all (foldedForSure 8)) = true then some none
  else if (vs.all (constantsAlone 8)) = true then none
  else some (some (swNm sc ts ((ts.head?.map (·.pos.line)).getD 0)))
def isSubs (e : Expr) : Bool := match e with
  | .Subscript .. => true
  | _ => false
def notComp (e : Expr) : Bool := match e with
  | .ListComp .. => false
  | .SetComp .. => false
  | .DictComp .. => false
  | _ => true
def okSw (sc : Scope) (x : Str) (p : Pos) (e : Expr) : Bool := match e with
  | .ListComp _ _ s q => decide (sc.names.lookup x = some .local) && (p.line == q.line) && !(s.names.any fun (n, k) => n == x && (k == .local || k == .cell))
  | .SetComp .. => false
  | .DictComp .. => false
  | _ => true
def fnCall (T : Tab) (e : Expr) : Bool := match e with
  | .Call (.Name x _) _ _ _ => (lk T.fs x).isSome
  | _ => false
def kdOf (T : Tab) (x : Str) (e : Expr) : Nat := if T.own.contains x then 1 else if T.rfs.contains x && !fnCall T e then 2 else 0
def gdS (b : Bool) (c : CS) : CS := match b with
  | true => c
  | false => .bad
def isCst (e : Expr) : Bool := match e with
  | .Constant .. => true
  | _ => false
def frzs (l : List Nat) (c : CSs) : CSs := l.foldr (fun i c => .frz i c) c
def varB (T : Tab) (sc : Scope) (x : Str) : Bool := okN x && visB sc x && inN T.N x
def erSs (T : Tab) (f : Stmt → CS) : List Stmt → CSs
  | [] => .nil
  | s :: r => frzs ((T.frz.filter fun q => q.1 == s.pos.line).map fun q => ixOf T.N q.2) (.cons (f s) (erSs T f r))
def erNm (T : Tab) (sc : Scope) (f : Expr → CE) (x : Str) (p : Pos) (e : Expr) : CS :=
  gdS (stoB T.N sc (fun _ => true) x && okSw sc x p e) (match kdOf T x e with
    | 0 => .asg (.nm (ixOf T.N x)) (f e)
    | 1 => gdS (isFr (f e)) (.asgO (ixOf T.N x) (f e))
    | _ => gdS (isFr (f e)) (.asgR (ixOf T.N x) (f e)))
def parN (T : Tab) (ts es : List Expr) : List (Nat × Nat) := ((tgNames (.Tuple ts 0 ⟨0, 0, 0, 0⟩)).zip es).map fun q => (kdOf T q.1 q.2, ixOf T.N q.1)
def erPar (T : Tab) (sc : Scope) (f : Expr → CE) (ts es : List Expr) : CS :=
  gdS (onlyNames ts && ((tgNames (.Tuple ts 0 ⟨0, 0, 0, 0⟩)).all fun x => stoB T.N sc (fun _ => true) x) && decide (es.length = ts.length) && decide (es.length < 20) && kFr f ((parN T ts es).map (·.1)) es) (match swP sc ts es, ts with
    | some none, _ => .par (parN T ts es) (erEs f es)
    | some (some [x', y']), [.Name x _, .Name y _] => gdS (decide (x' = x) && decide (y' = y) && decide (ixOf T.N x ≠ ixOf T.N y) && decide (sc.names.lookup x = some .local) && decide (sc.names.lookup y = some .local)) (.par (parN T ts es) (erEs f es))
    | some (some [x', y', z']), [.Name x _, .Name y _, .Name z _] => gdS (decide (x' = x) && decide (y' = y) && decide (z' = z) && decide (ixOf T.N x ≠ ixOf T.N y) && decide (ixOf T.N x ≠ ixOf T.N z) && decide (ixOf T.N y ≠ ixOf T.N z) && decide (sc.names.lookup x = some .local) && decide (sc.names.lookup y = some .local) && decide (sc.names.lookup z = some .local)) (.par (parN T ts es) (erEs f es))
    | _, _ => .bad)
def erAsg (T : Tab) (sc : Scope) (f : Expr → CE) (tg e : Expr) : CS := match tg with
  | .Name x p => match e with
    | .Call (.Attribute (.Name y q) m ap) args [] cp => match lk mutNames m, T.own.contains y with
      | some s, true => gdS (stoB T.N sc (fun _ => true) x && varB T sc y && decide (ap.endLine = cp.line) && decide (args.length < 20)) (.mcallTo (ixOf T.N x) (ixOf T.N y) s (erEs f args))
      | _, _ => erNm T sc f x p (.Call (.Attribute (.Name y q) m ap) args [] cp)
    | e => erNm T sc f x p e
  | .Subscript (.Name x _) i _ => gdS (varB T sc x && notSl i) (.setI (ixOf T.N x) (f i) (f e))
  | .Subscript (.Attribute a b p) i _ => gdS (notSl i) (.setX (f (.Attribute a b p)) (f i) (f e))
  | .Attribute o b _ => match lk T.at_ b with
    | some s => gdS (decide (T.me ≠ "")) (.setF (isFr (f e)) T.me (f o) s (f e))
    | none => .bad
  | .Tuple ts k p => match e with
    | .Tuple es _ _ => match ts with
      | [.Subscript (.Name x _) i _, .Subscript (.Name y _) j _] => gdS (varB T sc x && varB T sc y && notSl i && notSl j && decide (es.length = 2)) (.setIs (.cons (ixOf T.N x) (f i) (.cons (ixOf T.N y) (f j) .nil)) (erEs f es))
      | _ => erPar T sc f ts es
    | e => match erG T.N sc (fun _ => true) (.Tuple ts k p) with
      | some cg => .asg cg (f e)
      | none => .bad
  | _ => .bad
def cstRet : CE → CS
  | .cst d => match oOf d with
    | none => .ret (.cst d)
    | some _ => .bad
  | _ => .bad
def erS (T : Tab) (n : Nat) (sc : Scope) : Nat → Stmt → CS
  | 0, _ => .bad
  | _ + 1, .Pass _ => .pass
  | _ + 1, .Break _ => .brk
  | _ + 1, .Continue _ => .cont
  | _ + 1, .Return none _ => .retN
  | _ + 1, .Return (some e) _ => match T.fresh with
    | true => match e with
      | .Name x p => match T.own.contains x && varB T sc x with
        | true => .retO (ixOf T.N x)
        | false => .bad
      | e => match isFr (erE T n sc e) with
        | true => .ret (erE T n sc e)
        | false => cstRet (erE T n sc e)
    | false => match e with
      | .Name x p => match T.give && T.own.contains x && varB T sc x with
        | true => .giveO (ixOf T.N x)
        | false => .ret (erE T n sc (.Name x p))
      | e => match T.give && isFr (erE T n sc e) with
        | true => .retR (erE T n sc e)
        | false => .ret (erE T n sc e)
  | _ + 1, .Expr e _ => match e with
    | .Call (.Attribute (.Name x p) m ap) args [] cp => match lk mutNames m with
      | some s => gdS (varB T sc x && decide (ap.endLine = cp.line) && decide (args.length < 20)) (.mcall (ixOf T.N x) s (erEs (erE T n sc) args))
      | none => .ex (erE T n sc (.Call (.Attribute (.Name x p) m ap) args [] cp))
    | e => gdS (notComp e) (.ex (erE T n sc e))
  | k + 1, .If c a b _ => gdS (notIf c) (.ite (erE T n sc c) (erSs T (erS T n sc k) a) (erSs T (erS T n sc k) b))
  | k + 1, .For tg it b [] _ => match erG T.N sc (fun _ => true) tg with
    | some cg => gdS (notSet it) (.for_ cg (erI T sc (erE T n sc) tg it) (erSs T (erS T n sc k) b))
    | none => .bad
  | k + 1, .While c b [] _ => gdS (notIf c) (.while_ (erE T n sc c) (erSs T (erS T n sc k) b))
  | _ + 1, .AugAssign (.Name x _) op e _ => match boOf op with
    | some o => gdS (augB op && stoB T.N sc (fun _ => true) x) (.aug (ixOf T.N x) o (erE T n sc e))
    | none => .bad
  | _ + 1, .Assign [tg] e _ => erAsg T sc (erE T n sc) tg e
  | _ + 1, _ => .bad
/-! ### the order of the stores -/
theorem swP_ok {ts vs : List Expr} {env : PySem.Env} {r : Option (List Str)} {k k2 : Nat} {p p2 : Pos} (hk : env.scope.kind = .function) (h : swP env.scope ts vs = some r) : swappedStores [.Tuple ts k p] (.Tuple vs k2 p2) env = pure r := by
  have hb : env.blockKind = .function := by
    unfold Env.blockKind
    rw [hk]
    rfl
  unfold swP at h
  unfold swappedStores
  simp only [hb, pure_bind]
  show (if (!(ts.length == 2 || ts.length == 3) || vs.length != ts.length || ScopeKind.function != ScopeKind.function) = true then (pure none : Sem (Option (List Str)))
    else if (vs.any isSt) = true then pure none
    else if ((swNm env.scope ts ((ts.head?.map (·.pos.line)).getD 0)).length != ts.length || (swNm env.scope ts ((ts.head?.map (·.pos.line)).getD 0)).eraseDups.length != (swNm env.scope ts ((ts.head?.map (·.pos.line)).getD 0)).length) = true then pure none
    else if (vs.all (foldedForSure 8)) = true then pure none
    else if (vs.all (constantsAlone 8)) = true then (do
      unsupported "assign.tuple-of-constant-expressions:order-of-the-stores"
      pure (some (swNm env.scope ts ((ts.head?.map (·.pos.line)).getD 0))))
    else pure (some (swNm env.scope ts ((ts.head?.map (·.pos.line)).getD 0)))) = pure r
  generalize swNm env.scope ts ((ts.head?.map (·.pos.line)).getD 0) = nm at *
  rw [show (ScopeKind.function != ScopeKind.function) = false from rfl, Bool.or_false]
  split at h
  · rename_i c
    cases h
    rw [if_pos c]
  · rename_i c
    rw [if_neg c]
    split at h
    · rename_i c2
      cases h
      rw [if_pos c2]
    · rename_i c2
      rw [if_neg c2]
      split at h
      · rename_i c3
        cases h
        rw [if_pos c3]
      · rename_i c3
        rw [if_neg c3]
        split at h
        · rename_i c4
          cases h
          rw [if_pos c4]
        · rename_i c4
          rw [if_neg c4]
          split at h
          · cases h
          · rename_i c5
            cases h
            rw [if_neg c5]
theorem stSub {a i b j : Expr} {es : List Expr} {p1 p2 p p' : Pos} {k k2 : Nat} {env : PySem.Env} (hk : env.scope.kind = .function) (hl : es.length = 2) : swappedStores [.Tuple [.Subscript a i p1, .Subscript b j p2] k p] (.Tuple es k2 p') env = pure none := by
  refine swP_ok hk ?_
  unfold swP
  split
  · rfl
  · split
    · rfl
    · rfl
/-! ### soundness -/
section
variable {X : Cx} {T : Tab} {fl : Bool} {cl : String → List D → Store → Res D} {gl : String → Option D} {wf : Nat}
structure Sb (X : Cx) (T : Tab) (cl : String → List D → Store → Res D) (gl : String → Option D) : Prop extends Sd X T cl gl where
  kind : X.env.scope.kind = .function
  fnT : X.fn = fun _ => true
  po : PassesOwn (model X.prog X.w) X.A X.env X.xe
theorem psGd {s : Stmt} {b : Bool} {c : CS} (h : b = true → PS X s (dS X.K fl (evS cl gl wf c))) : PS X s (dS X.K fl (evS cl gl wf (gdS b c))) := by
  cases b with
  | true => exact h rfl
  | false => exact ps_bad
theorem ss_frzs {ss : List Stmt} {cs : CSs} (h : PSs X ss (dS X.K fl (evSs cl gl wf cs))) : ∀ l : List Nat, PSs X ss (dS X.K fl (evSs cl gl wf (frzs l cs)))
  | [] => h
  | i :: l => ss_frz (ss_frzs h l)
theorem erSs_ok {f : Stmt → CS} (hf : ∀ s, PS X s (dS X.K fl (evS cl gl wf (f s)))) : ∀ ss : List Stmt, PSs X ss (dS X.K fl (evSs cl gl wf (erSs T f ss)))
  | [] => ss_nil
  | s :: r => ss_frzs (ss_cons (hf s) (erSs_ok hf r)) _
theorem varB_of (S : Sb X T cl gl) {x : Str} (h : varB T X.env.scope x = true) : okN x = true ∧ visB X.env.scope x = true ∧ X.N[ixOf T.N x]? = some x := by
  unfold varB at h
  rw [Bool.and_eq_true, Bool.and_eq_true] at h
  refine ⟨h.1.1, h.1.2, ?_⟩
  rw [S.nN]
  exact of_decide_eq_true h.2
theorem stoB_of (S : Sb X T cl gl) {x : Str} (h : stoB T.N X.env.scope (fun _ => true) x = true) : stoB X.N X.env.scope X.fn x = true := by
  rw [S.nN, S.fnT]
  exact h
theorem swW {e : Expr} {x : Str} {p : Pos} {l : Nat} {env : PySem.Env} (h : notComp e = true) : swapsWithSole [.Name x p] e l env = pure false := by
  cases e <;> first | rfl | cases h
theorem nm_asg {tg e : Expr} {c : CE} {i : Nat} {pos : Pos} (hi : isFr c = true → True) (h : PS X (.Assign [tg] e pos) (tAsg (dE X.K (ev cl gl false c) false (isFr c)) (gName i))) : PS X (.Assign [tg] e pos) (tAsg (dE X.K (ev cl gl false c) false (isFr c)) (toTG X.K (.nm i))) := h
theorem isFr_eq {c : CE} (h : isFr c = true) {tg e : Expr} {i : Nat} {pos : Pos} (z : PS X (.Assign [tg] e pos) (tAsg (dE X.K (ev cl gl false c) false (isFr c)) (gName i))) : PS X (.Assign [tg] e pos) (tAsg (dE X.K (ev cl gl false c) false true) (gName i)) := by
  rw [h] at z
  exact z
theorem erNm_ok (S : Sb X T cl gl) {n : Nat} {x : Str} {p pos : Pos} {e : Expr} (h : stoB T.N X.env.scope (fun _ => true) x = true → okSw X.env.scope x p e = true → PS X (.Assign [.Name x p] e pos) (tAsg (dE X.K (ev cl gl false (erE T n X.env.scope e)) false (isFr (erE T n X.env.scope e))) (gName (ixOf T.N x)))) :
    PS X (.Assign [.Name x p] e pos) (dS X.K fl (evS cl gl wf (erNm T X.env.scope (erE T n X.env.scope) x p e))) := by
  unfold erNm
  refine psGd fun hb => ?_
  rw [Bool.and_eq_true] at hb
  have h := h hb.1 hb.2
  split
  · exact s_asg (cg := .nm _) h
  · exact psGd fun hf => s_asgO (isFr_eq hf h)
  · exact psGd fun hf => s_asgR (isFr_eq hf h)
theorem nm_any (S : Sb X T cl gl) {n : Nat} {x : Str} {p pos : Pos} {e : Expr} (h1 : stoB T.N X.env.scope (fun _ => true) x = true) (h2 : okSw X.env.scope x p e = true) : PS X (.Assign [.Name x p] e pos) (tAsg (dE X.K (ev cl gl false (erE T n X.env.scope e)) false (isFr (erE T n X.env.scope e))) (gName (ixOf T.N x))) := by
  have hs := stoB_of S h1
  obtain ⟨s1, s2, s3⟩ := sto_of hs
  have hg : PG X (.Name x p) (gName (ixOf T.N x)) := by
    rw [← S.nN]
    exact pg_one S.nd hs
  by_cases hc : notComp e = true
  · exact ps_asg ((snd_e n X S.toSd).1 false e) hg (swW hc) (stN (fun _ _ _ z => by cases z) fun _ _ z => by cases z) rfl
  · cases e with
    | ListComp elt gs sc q =>
      unfold okSw at h2
      rw [Bool.and_eq_true, Bool.and_eq_true] at h2
      have hl : X.env.scope.names.lookup x = some .local := of_decide_eq_true h2.1.1
      have hsw : swapsWith (.ListComp elt gs sc q) (some (.Name x p)) pos.line X.env = pure true := sw_true S.kind hl h2.1.2 (by simpa using h2.2)
      cases n with
      | zero => exact ⟨fun pins sh σ H D I z => by
          obtain ⟨g, env, st, d, st', _, _, e, _⟩ := z
          exact (ev_bad e).elim⟩
      | succ n =>
        have bad : PS X (.Assign [.Name x p] (.ListComp elt gs sc q) pos) (tAsg (dE X.K (ev cl gl false .bad) false (isFr .bad)) (gName (ixOf T.N x))) := ⟨fun pins sh σ H D I z => by
          obtain ⟨g, env, st, d, st', _, _, e, _⟩ := z
          exact (ev_bad e).elim⟩
        match gs, hsw with
        | [], _ => exact bad
        | ⟨_, _, _, .negSucc _⟩ :: _ :: _, _ => exact bad
        | ⟨_, _, _, .ofNat 0⟩ :: _ :: _, _ => exact bad
        | ⟨_, _, _, .ofNat (_ + 1)⟩ :: _ :: _, _ => exact bad
        | [⟨tg, it, ifs, .negSucc _⟩], _ => exact bad
        | [⟨tg, it, ifs, .ofNat (_ + 1)⟩], _ => exact bad
        | [⟨tg, it, ifs, .ofNat 0⟩], hsw =>
          have hf : ∀ w e, PE X e (dE X.K (ev cl gl w (erE T n X.env.scope e)) w false) := fun w e => pe_w ((snd_e n X S.toSd).1 w e)
          have hp := comp_parts (p := q) (e := elt) (tg := tg) (it := it) (ifs := ifs) (scope := sc) S.toSd hf fun s H C cl0 fp => snd_e n (X.blk s H sc (compEnvC sc cl0 C X.env) fp) (S.toSd.blk s H sc C cl0 fp)
          have e0 : erE T (n + 1) X.env.scope (.ListComp elt [⟨tg, it, ifs, .ofNat 0⟩] sc q) = erE T (n + 1) X.env.scope (.ListComp elt [⟨tg, it, ifs, 0⟩] sc q) := rfl
          rw [e0]
          rcases hp with hp | ⟨own, cg, ci, cc, ce, hp, i1, i2, i3, i4, i5, i6, i7⟩
          · rw [hp]
            exact bad
          · rw [hp]
            refine (ps_setLc S.calm S.nd (show X.N[ixOf T.N x]? = some x by rw [← S.nN]; exact s1) hl hsw i2 i3 i5 i6 i7 (fold_ok i1)).imp fun D σ H z => ?_
            exact lc_imp i4 z
    | SetComp _ _ _ _ => cases h2
    | DictComp _ _ _ _ _ => cases h2
    | _ => exact absurd rfl hc
/-! several names -/
theorem tgNames_len : ∀ {ts : List Expr}, onlyNames ts = true → (tgNames (.Tuple ts 0 ⟨0, 0, 0, 0⟩)).length = ts.length
  | [], _ => rfl
  | .Name x p :: ts, h => by
    show (tgNames (.Tuple ts 0 ⟨0, 0, 0, 0⟩)).length + 1 = ts.length + 1
    rw [tgNames_len (ts := ts) h]
  | .Tuple _ _ _ :: _, h | .List _ _ :: _, h | .Subscript _ _ _ :: _, h | .Attribute _ _ _ :: _, h | .Starred _ _ :: _, h | .BoolOp _ _ _ :: _, h | .NamedExpr _ _ _ :: _, h | .BinOp _ _ _ _ :: _, h | .UnaryOp _ _ _ :: _, h
  | .Lambda _ _ _ _ :: _, h | .IfExp _ _ _ _ :: _, h | .Dict _ _ _ :: _, h | .Set _ _ _ :: _, h | .ListComp _ _ _ _ :: _, h | .SetComp _ _ _ _ :: _, h | .DictComp _ _ _ _ _ :: _, h | .GeneratorExp _ _ _ _ :: _, h | .Await _ _ :: _, h
  | .Yield _ _ :: _, h | .YieldFrom _ _ :: _, h | .Compare _ _ _ _ :: _, h | .Call _ _ _ _ :: _, h | .FormattedValue _ _ _ _ :: _, h | .JoinedStr _ _ :: _, h | .Constant _ _ _ :: _, h | .Slice _ _ _ _ :: _, h => by simp [onlyNames] at h
theorem parN_ix {ts es : List Expr} (h : onlyNames ts = true) (hl : es.length = ts.length) : (parN T ts es).map (·.2) = (tgNames (.Tuple ts 0 ⟨0, 0, 0, 0⟩)).map (ixOf T.N) := by
  unfold parN
  rw [List.map_map]
  have e : ((fun x : Nat × Nat => x.2) ∘ fun q : Str × Expr => (kdOf T q.1 q.2, ixOf T.N q.1)) = (ixOf T.N) ∘ Prod.fst := rfl
  rw [e, ← List.map_map, List.map_fst_zip (by rw [tgNames_len h]; omega)]
theorem erPar_ok (S : Sb X T cl gl) {n : Nat} {ts es : List Expr} {kt k2 : Nat} {pt p2 pos : Pos} : PS X (.Assign [.Tuple ts kt pt] (.Tuple es k2 p2) pos) (dS X.K fl (evS cl gl wf (erPar T X.env.scope (erE T n X.env.scope) ts es))) := by
  unfold erPar
  refine psGd fun hb => ?_
  simp only [Bool.and_eq_true, decide_eq_true_eq] at hb
  obtain ⟨⟨⟨⟨h1, h2⟩, h3⟩, h4⟩, h5⟩ := hb
  have hf : ∀ e, PE X e (dE X.K (ev cl gl false (erE T n X.env.scope e)) false (isFr (erE T n X.env.scope e))) := fun e => (snd_e n X S.toSd).1 false e
  have ha := pa_par hf _ es h5
  have h2' : ((tgNames (.Tuple ts 0 ⟨0, 0, 0, 0⟩)).all fun x => stoB X.N X.env.scope X.fn x) = true := by
    rw [S.nN, S.fnT]
    exact h2
  have hix := parN_ix (T := T) h1 h3
  have hlen : (parN T ts es).length = ts.length := by
    have := congrArg List.length hix
    rw [List.length_map, List.length_map, tgNames_len h1] at this
    exact this
  split
  · rename_i hsw
    obtain ⟨i1, i2, i3⟩ := pgs_names S.nd h1 h2'
    refine (ps_asg (pe_tup ha) (pg_tup S.calm i1 i2 i3) (swN fun _ _ z => by cases z) (swP_ok S.kind hsw) rfl).imp fun En σ H z => ?_
    refine dP_imp (par_imp z) fun vs H1 hq => ?_
    obtain ⟨q1, _, q3⟩ := hq
    refine ⟨by rw [q1, hlen, ← h3]; exact Nat.le_trans (Nat.le_of_lt h4) (by unfold sizeLine; omega), fun p hp => ⟨p, vs, rfl, SqT.of upd_same, ?_, ?_⟩⟩
    · rw [S.nN, List.length_map, tgNames_len h1, q1, hlen]
    · refine gNs_go _ _ _ _ _ (by rw [S.nN, List.length_map, tgNames_len h1, q1, hlen]) ?_
      rw [S.nN, ← hix]
      exact q3 p hp
  · rename_i x' y' x px y py hsw
    refine psGd fun hb => ?_
    simp only [Bool.and_eq_true, decide_eq_true_eq] at hb
    obtain ⟨⟨⟨⟨rfl, rfl⟩, j1⟩, j2⟩, j3⟩ := hb
    have hx : stoB X.N X.env.scope X.fn x' = true := by
      have := List.all_eq_true.mp h2' x' (by simp [tgNames])
      exact this
    have hy : stoB X.N X.env.scope X.fn y' = true := List.all_eq_true.mp h2' y' (by simp [tgNames])
    obtain ⟨sx, _, _⟩ := sto_of hx
    obtain ⟨sy, _, _⟩ := sto_of hy
    match es, h3 with
    | [a, b], _ =>
      refine (ps_par S.calm S.nd sx sy (by rw [S.nN]; exact j1) j2 j3 ha (swP_ok S.kind hsw) (swN fun _ _ z => by cases z)).imp fun En σ H z => ?_
      refine dP_imp (par_imp z) fun vs H1 hq => ?_
      obtain ⟨q1, q2, _⟩ := hq
      match vs, q1 with
      | [v, w], _ => exact ⟨v, w, rfl, by rw [S.nN]; exact q2⟩
  · rename_i x' y' z' x px y py z pz hsw
    refine psGd fun hb => ?_
    simp only [Bool.and_eq_true, decide_eq_true_eq] at hb
    obtain ⟨⟨⟨⟨⟨⟨⟨⟨rfl, rfl⟩, rfl⟩, j1⟩, j2⟩, j3⟩, j4⟩, j5⟩, j6⟩ := hb
    obtain ⟨sx, _, _⟩ := sto_of (show stoB X.N X.env.scope X.fn x' = true from List.all_eq_true.mp h2' x' (by simp [tgNames]))
    obtain ⟨sy, _, _⟩ := sto_of (show stoB X.N X.env.scope X.fn y' = true from List.all_eq_true.mp h2' y' (by simp [tgNames]))
    obtain ⟨sz, _, _⟩ := sto_of (show stoB X.N X.env.scope X.fn z' = true from List.all_eq_true.mp h2' z' (by simp [tgNames]))
    match es, h3 with
    | [a, b, c], _ =>
      refine (ps_par3 S.calm S.nd sx sy sz (by rw [S.nN]; exact j1) (by rw [S.nN]; exact j2) (by rw [S.nN]; exact j3) j4 j5 j6 ha (swP_ok S.kind hsw) (swN fun _ _ z => by cases z)).imp fun En σ H z => ?_
      refine dP_imp (par_imp z) fun vs H1 hq => ?_
      obtain ⟨q1, q2, _⟩ := hq
      match vs, q1 with
      | [v, w, u], _ => exact ⟨v, w, u, rfl, by rw [S.nN]; exact q2⟩
  · exact ps_bad
/-! two items at once -/
theorem evTs_cons {i : Nat} {k : CE} {r : CTs} {d : D} {q : List D} {env : Env} {st st' : Store} {o : Out} (h : evTs cl gl wf (.cons i k r) (d :: q) env st = .ok o st') :
    ∃ x s2 env1 s3, ev cl gl false k env st = .ok x s2 ∧ putAt i x d env s2 = some (env1, s3) ∧ evTs cl gl wf r q env1 s3 = .ok o st' := by
  simp only [evTs] at h
  split at h
  · rename_i u hu
    obtain ⟨x, s2, e2, h⟩ := Res.bind_eq h
    obtain ⟨p, s3, e3, h⟩ := Res.bind_eq h
    cases hp : setW u x d with
    | none =>
      rw [hp] at e3
      cases e3
    | some p' =>
      rw [hp] at e3
      cases e3
      exact ⟨x, _, _, _, e2, by simp only [putAt, hu, hp]; rfl, h⟩
  · rename_i l hl
    obtain ⟨x, s2, e2, h⟩ := Res.bind_eq h
    split at h
    · rename_i u hu
      obtain ⟨p, s3, e3, h⟩ := Res.bind_eq h
      cases hp : setW u x d with
      | none =>
        rw [hp] at e3
        cases e3
      | some p' =>
        rw [hp] at e3
        cases e3
        exact ⟨x, _, _, _, e2, by simp only [putAt, hl, hu, hp]; rfl, h⟩
    · cases h
  · cases h
theorem sub_go {g g0 : G} {H H0 : Hp} {env env1 : Env} {σ : L2.St} {st s2 s3 : Store} {i : Nat} {x d : D} {v : V} {k : CE} {fk : Bool} {Q : L2.St → Hp → Prop} (rf : RF X.K g0 H0 g H env σ st) (rd : RD X.K g H d v) (e2 : ev cl gl false k env st = .ok x s2) (e3 : putAt i x d env s2 = some (env1, s3))
    (kq : ∀ g' H', LeN g H g' H' → RF X.K g0 H0 g' H' env1 σ s3 → Q σ H') : gSub (tVar i) (dE X.K (ev cl gl false k) false fk) rPut v σ H Q := by
  have key : ∃ a, σ[i]? = some (some (V.ref a)) := by
    unfold putAt at e3
    split at e3
    · rename_i u hu
      obtain ⟨a, h1, _⟩ := rf.re.own _ _ hu
      exact ⟨a, h1⟩
    · rename_i l hl
      obtain ⟨v, h1, h2⟩ := rf.re.val _ _ hl
      unfold RD at h2
      obtain ⟨a, rfl, _⟩ := h2
      exact ⟨a, h1⟩
    · cases e3
  obtain ⟨a, ha⟩ := key
  refine ⟨_, ha, dE_go rf.re rf.rel e2 fun g2 H2 vi a2 r2 rd2 => ?_⟩
  obtain ⟨a', H3, h1, rf3, l3, kp⟩ := putAt_ok e3 (rf.mono a2 r2) rd2.ff (RD.mono a2.toLeN _ _ rd)
  rw [ha] at h1
  cases h1
  exact kp _ (kq g2 H3 (a2.toLeN.trans l3) rf3)
theorem evEs_len {w : Bool} {f : Expr → CE} : ∀ {es : List Expr} {env : Env} {st st' : Store} {ds : List D}, evEs cl gl w (erEs f es) env st = .ok ds st' → ds.length = es.length
  | [], env, st, st', ds, h => by
    simp only [erEs, evEs] at h
    cases h
    rfl
  | e :: es, env, st, st', ds, h => by
    simp only [erEs, evEs] at h
    obtain ⟨d, s1, e1, h⟩ := Res.bind_eq h
    obtain ⟨ds', s2, e2, h⟩ := Res.bind_eq h
    cases h
    rw [List.length_cons, List.length_cons, evEs_len e2]
theorem s_setIs (S : Sb X T cl gl) {n : Nat} {x y : Str} {i j : Expr} {es : List Expr} {p1 p2 p3 p4 pt p6 pos : Pos} {kt k2 : Nat} (hx : varB T X.env.scope x = true) (hy : varB T X.env.scope y = true) (hi : notSl i = true) (hj : notSl j = true) (hl : es.length = 2) :
    PS X (.Assign [.Tuple [.Subscript (.Name x p1) i p2, .Subscript (.Name y p3) j p4] kt pt] (.Tuple es k2 p6) pos) (dS X.K fl (evS cl gl wf (.setIs (.cons (ixOf T.N x) (erE T n X.env.scope i) (.cons (ixOf T.N y) (erE T n X.env.scope j) .nil)) (erEs (erE T n X.env.scope) es)))) := by
  obtain ⟨x1, x2, x3⟩ := varB_of S hx
  obtain ⟨y1, y2, y3⟩ := varB_of S hy
  have hf : ∀ e, PE X e (dE X.K (ev cl gl false (erE T n X.env.scope e)) false false) := fun e => pe_w ((snd_e n X S.toSd).1 false e)
  have gx := pg_put (pos := p2) (p := p1) S.toSd x1 x2 (by rw [S.nN] at x3 ⊢; exact x3) (hf i) hi
  have gy := pg_put (pos := p4) (p := p3) S.toSd y1 y2 (by rw [S.nN] at y3 ⊢; exact y3) (hf j) hj
  refine (ps_asg (pe_tup (pa_ok hf es)) (pg_tup (n := 2) S.calm (pgs_cons gx (pgs_cons gy pgs_nil)) rfl rfl) (swN fun _ _ z => by cases z) (stSub S.kind hl) rfl).imp fun En σ H z => ?_
  obtain ⟨g0, H0, g, env, st, o, st', rf, e, k⟩ := z
  simp only [evS] at e
  obtain ⟨ds, s1, e1, e⟩ := Res.bind_eq e
  have hd := evEs_len e1
  rw [hl] at hd
  match ds, hd with
  | [d1, d2], _ =>
    obtain ⟨z1, t2, env1, t3, e2, e3, e⟩ := evTs_cons (wf := wf) e
    obtain ⟨z2, t4, env2, t5, e4, e5, e⟩ := evTs_cons (wf := wf) e
    simp only [evTs] at e
    cases e
    rw [S.nN]
    refine dA_go rf.re rf.rel e1 fun g1 H1 vs a1 r1 rd1 => ?_
    have rds := rd1.ds
    unfold RDs at rds
    obtain ⟨v1, r, rfl, h1, rds⟩ := rds
    unfold RDs at rds
    obtain ⟨v2, r, rfl, h2, rds⟩ := rds
    unfold RDs at rds
    subst rds
    refine ⟨by show 2 ≤ sizeLine; decide, fun p hp => ⟨p, _, rfl, SqT.of upd_same, rfl, v1, [v2], rfl, ?_⟩⟩
    have a2 := le_new (o := .tup [v1, v2]) hp r1.trk
    refine sub_go ((rf.mono a1 r1).mono a2 (r1.new hp)) (RD.mono a2.toLeN _ _ h1) e2 e3 fun g3 H3 l3 rf3 => ⟨v2, [], rfl, ?_⟩
    refine sub_go rf3 (RD.mono (a2.toLeN.trans l3) _ _ h2) e4 e5 fun g4 H4 l4 rf4 => ⟨rfl, ?_⟩
    exact k g4 H4 σ (((a1.trans a2).toLeN.trans l3).trans l4) rf4
theorem erAsg_ok (S : Sb X T cl gl) {n : Nat} {tg e : Expr} {pos : Pos} : PS X (.Assign [tg] e pos) (dS X.K fl (evS cl gl wf (erAsg T X.env.scope (erE T n X.env.scope) tg e))) := by
  have hf : ∀ e, PE X e (dE X.K (ev cl gl false (erE T n X.env.scope e)) false false) := fun e => pe_w ((snd_e n X S.toSd).1 false e)
  unfold erAsg
  split
  · rename_i x p
    split
    · rename_i y q m ap args cp
      split
      · rename_i s hm hy
        obtain ⟨hm2, rfl⟩ := lk_some hm
        refine psGd fun hb => ?_
        simp only [Bool.and_eq_true, decide_eq_true_eq] at hb
        obtain ⟨⟨⟨h1, h2⟩, h3⟩, h4⟩ := hb
        obtain ⟨y1, y2, y3⟩ := varB_of S h2
        have := s_mcallTo (fl := fl) (wf := wf) (T := T) (pos := pos) (py := p) (p := q) hm2 h3 y1 y2 y3 h4 hf S.nd (stoB_of S h1)
        rw [S.nN] at this
        exact this
      · exact erNm_ok S fun h1 h2 => nm_any S h1 h2
    · exact erNm_ok S fun h1 h2 => nm_any S h1 h2
  · rename_i x p i p2
    refine psGd fun hb => ?_
    rw [Bool.and_eq_true] at hb
    obtain ⟨x1, x2, x3⟩ := varB_of S hb.1
    have := s_setI (fl := fl) (wf := wf) (pos := pos) (p := p) (pos' := p2) S.toSd x1 x2 (by rw [S.nN] at x3 ⊢; exact x3) (hf i) hb.2 (hf e)
    rw [S.nN] at this
    exact this
  · rename_i a b q i p2
    exact psGd fun hb => s_setX S.toSd (hf _) (hf i) hb (hf e)
  · rename_i o b q
    split
    · rename_i s hs
      obtain ⟨hm, rfl⟩ := lk_some hs
      exact psGd fun hb => s_setF S.toSd (of_decide_eq_true hb) hm (hf o) ((snd_e n X S.toSd).1 false e)
    · exact ps_bad
  · rename_i ts kt p
    split
    · rename_i es k2 p2
      split
      · rename_i x p3 i p4 y p5 j p6
        refine psGd fun hb => ?_
        simp only [Bool.and_eq_true, decide_eq_true_eq] at hb
        obtain ⟨⟨⟨⟨h1, h2⟩, h3⟩, h4⟩, h5⟩ := hb
        exact s_setIs S h1 h2 h3 h4 h5
      · exact erPar_ok S
    · rename_i hne
      split
      · rename_i cg hcg
        have hg : PG X (.Tuple ts kt p) (toTG X.K cg) := pg_of S.calm S.nd (by rw [S.nN, S.fnT]; exact hcg)
        refine s_asg (ps_asg (hf e) hg (swN fun _ _ z => by cases z) ?_ rfl)
        revert hne
        cases e <;> intro hne <;> first
          | rfl
          | exact absurd rfl (hne _ _ _)
      · exact ps_bad
  · exact ps_bad
theorem snd_s {n : Nat} : ∀ (k : Nat) {X : Cx} (S : Sb X T cl gl) (s : Stmt), PS X s (dS X.K T.fresh (evS cl gl wf (erS T n X.env.scope k s)))
  | 0, _, _, _ => ps_bad
  | k + 1, X, S, s => by
    have hf : ∀ e, PE X e (dE X.K (ev cl gl false (erE T n X.env.scope e)) false false) := fun e => pe_w ((snd_e n X S.toSd).1 false e)
    have hF : ∀ e, PE X e (dE X.K (ev cl gl false (erE T n X.env.scope e)) false (isFr (erE T n X.env.scope e))) := fun e => (snd_e n X S.toSd).1 false e
    have hT : ∀ e, notIf e = true → PT X e (dT X.K fun env st => tst (ev cl gl false (erE T n X.env.scope e) env st)) := (snd_e n X S.toSd).2
    have hss : ∀ ss, PSs X ss (dS X.K T.fresh (evSs cl gl wf (erSs T (erS T n X.env.scope k) ss))) := erSs_ok fun s => snd_s k S s
    cases s with
    | Pass p => exact s_pass
    | Break p => exact s_brk
    | Continue p => exact s_cont
    | Return v p =>
      cases v with
      | none => exact s_retN
      | some e =>
        simp only [erS]
        cases hfr : T.fresh with
        | true =>
          simp only
          split
          · rename_i x0 p0
            split
            · rename_i h
              rw [Bool.and_eq_true] at h
              obtain ⟨x1, x2, x3⟩ := varB_of S h.2
              have := s_retO (fl := true) (wf := wf) (cl := cl) (gl := gl) (pos := p) (p := p0) x1 x2 (by rw [S.nN] at x3 ⊢; exact x3)
              rw [S.nN] at this
              exact this
            · exact ps_bad
          · split
            · rename_i h
              have := hF e
              rw [h] at this
              exact s_retF this
            · generalize hc : erE T n X.env.scope e = c
              have he := hf e
              rw [hc] at he
              unfold cstRet
              split
              · split
                · rename_i hd
                  exact s_retC hd he
                · exact ps_bad
              · exact ps_bad
        | false =>
          simp only
          split
          · split
            · rename_i x0 p0 b0 h
              rw [Bool.and_eq_true] at h
              obtain ⟨x1, x2, x3⟩ := varB_of S h.2
              have := s_giveO (fl := false) (wf := wf) (cl := cl) (gl := gl) (pos := p) (p := p0) x1 x2 (by rw [S.nN] at x3 ⊢; exact x3)
              rw [S.nN] at this
              exact this
            · exact s_ret (hf _)
          · split
            · rename_i h
              rw [Bool.and_eq_true] at h
              have := hF e
              rw [h.2] at this
              exact s_retR this
            · exact s_ret (hf _)
    | Expr e p =>
      simp only [erS]
      split
      · split
        · rename_i h
          obtain ⟨hm, rfl⟩ := lk_some h
          refine psGd fun hb => ?_
          simp only [Bool.and_eq_true, decide_eq_true_eq] at hb
          obtain ⟨x1, x2, x3⟩ := varB_of S hb.1.1
          exact s_mcall hm hb.1.2 x1 x2 x3 hb.2 hf
        · exact s_ex rfl (hf _)
      · refine psGd fun hb => s_ex ?_ (hf _)
        cases e <;> first | rfl | cases hb
    | If c a b p =>
      refine psGd fun hb => s_ite (hT c hb) (hss a) (hss b)
    | While c b o p =>
      cases o with
      | nil => exact psGd fun hb => s_while S.po (hT c hb) (hss b)
      | cons _ _ => exact ps_bad
    | For tg it b o p =>
      cases o with
      | nil =>
        simp only [erS]
        split
        · rename_i cg hcg
          refine psGd fun hb => ?_
          have hg : PG X tg (toTG X.K cg) := pg_of S.calm S.nd (by rw [S.nN, S.fnT]; exact hcg)
          exact s_for S.po S.calm hb (erI_seq S.toSd (fun w e => pe_w ((snd_e n X S.toSd).1 w e)) tg it hb) hg (hss b)
        · exact ps_bad
      | cons _ _ => exact ps_bad
    | AugAssign tg op e p =>
      cases tg with
      | Name x q =>
        simp only [erS]
        split
        · rename_i o ho
          refine psGd fun hb => ?_
          rw [Bool.and_eq_true] at hb
          have := s_aug (fl := T.fresh) (wf := wf) (pos := p) (p := q) S.nd hb.1 ho (stoB_of S hb.2) (pe_w ((snd_e n X S.toSd).1 true e))
          rw [S.nN] at this
          exact this
        · exact ps_bad
      | _ => exact ps_bad
    | Assign ts e p =>
      match ts with
      | [] => exact ps_bad
      | [tg] => exact erAsg_ok S
      | _ :: _ :: _ => exact ps_bad
    | _ => exact ps_bad
/-- a def's body -/
theorem snd_body {n k : Nat} {X : Cx} (S : Sb X T cl gl) (ss : List Stmt) : PSs X ss (dS X.K T.fresh (evSs cl gl wf (erSs T (erS T n X.env.scope k) ss))) := erSs_ok (fun s => snd_s k S s) ss
end
end Ev
/-! Ev18: defs and their calls -/
namespace Ev
open PySem L2 PySem.Spec PyProof.Rows
theorem guards_in (A : Around) (env : PySem.Env) (h : A.guards = some []) : (A.deeper env).guards = some [] := by
  first
    | exact h
    | simpa [Around.deeper, Around.under, Code.guards, pushGuards] using h
/-- a def is called, its parameters' values us; the body's reading is chosen at the entry -/
theorem def_run {P : Program} {w : World} {K : PySem.W.Frag} {mg : Str → Option Value} {base : Heap} {A : Around} {m : Nat} {fa : Addr} {nm qual : Str} {pars : Arguments} {body : List Stmt} {scope : Scope} {fd : FuncData} {dvs : List V} {kws : List (Str × V)} {N ps : List Str}
    (F : FunD K nm qual pars body scope dvs kws fa fd) (S : FnScope N ps scope) (room : Room (m + 1) A) {outer : List PySem.Env} {s : Shared} {H : Hp} {args : Args} {us : List Value} {vs : List V} {Q : VK} (e0 : Env0 P w K mg base A outer s H) (hl : vs.length = ps.length) (hb : BindsTo s fd args (ps.zip us)) (r : Vals vs us)
    (hbody : ∀ cdv : Value, ∃ t, PSs (cxOf CX0 P w K mg base N qual scope fa cdv A outer s H E0) body t ∧ t { nx := fun _ H' => Q .non H', rt := Q } (L2.start N vs) H) :
    codeAny (model P w) A (.call (.ref fa) args) (CR CX0 outer P w H s Q E0) s := by
  obtain ⟨oc, od, dV, kV, doc, pm, an, cdv, ct, osl, hfd, look, code, _, _⟩ := F.ex
  subst hfd
  have inS : K.In s.heap := e0.mod.kin.keeps fun b o e => (e0.bs b o e).1
  have noLim : s.heap.NoLimit := e0.mod.nolimit.keeps fun b o e => (e0.bs b o e).1
  have kinds : ∀ y ∈ ps.zip us, scope.names.lookup y.1 = some .local ∨ (scope.names.lookup y.1 = some .cell ∧ ((cellsFrom (s.heap.objs.size + 1) scope.names []).lookup y.1).isSome = true) := fun y hy => by
    rcases S.par y.1 (List.of_mem_zip (show (y.1, y.2) ∈ ps.zip us from hy)).1 with q | q
    · exact .inl q
    · exact .inr ⟨q, PySem.W.cellsFrom_some _ _ _ (.inl q)⟩
  have opened : ∀ s1, InCallC s s.heap.objs.size (bindL (envOfC qual scope s.heap.objs.size fa cdv).kindOf (ps.zip us) fun _ => none) (cellsFrom (s.heap.objs.size + 1) scope.names []) (bindC (envOfC qual scope s.heap.objs.size fa cdv).kindOf (ps.zip us) fun _ => none) s1 →
      wpAny (model P w) (A.deeper (envOfC qual scope s.heap.objs.size fa cdv)) (execs body (envOfC qual scope s.heap.objs.size fa cdv)) (SP (cxOf CX0 P w K mg base N qual scope fa cdv A outer s H E0) [] { nx := fun _ H' => Q .non H', rt := Q }) (cxOf CX0 P w K mg base N qual scope fa cdv A outer s H E0).xe s1 := fun s1 x => by
    obtain ⟨t, ht, hq⟩ := hbody cdv
    exact ht.run [] s1 (L2.start N vs) H _ (inv_start S room.hd e0 hl r x) hq
  refine codeAny_call_function room.depth (inS _ _ look) rfl S.co S.gen rfl
    (PySem.W.codeRec_of inS code) (hb _ _ _ _ ?_)
  refine wpAny_newFunctionEnv_cells S.kind kinds fun env he s1 x => ?_
  cases he
  refine ⟨noLim.keeps x.toInCall.keep, codeAny_func (wpAny_mono (opened s1 x) (fun fl s' hs => ?_) fun e s' hs => hs)⟩
  have back : ∀ {σ' : L2.St} {H' : Hp} {v : V} {u : Value}, Inv (cxOf CX0 P w K mg base N qual scope fa cdv A outer s H E0) [] σ' H' s' → RelV v u → Q v H' → L2.CE outer P w H s Q u s' :=
    fun {σ' H' v u} J rv q => ⟨v, H', J.os, J.bare, J.base, J.hok, rv, q⟩
  cases fl with
  | next =>
    obtain ⟨_, _, J, q⟩ := hs
    exact back (v := V.non) (u := Value.none) J rfl q
  | ret u =>
    obtain ⟨_, _, _, J, rv, q⟩ := hs
    exact back J rv q
  | brk => exact (hs.elim fun _ z => z.elim fun _ z => z.2).elim
  | cont => exact (hs.elim fun _ z => z.elim fun _ z => z.2).elim
/-! ### the interpreter's frame at the entry -/
section
variable {K : PySem.W.Frag} {g : G} {H : Hp}
theorem re_start {ds : List D} {vs : List V} (h : RDs K g H ds vs) (m : Nat) : RE K g H (ds.map .v ++ List.replicate m .un) (vs.map some ++ List.replicate m none) := by
  have no : ∀ {i : Nat} {o : O}, (ds.map EV.v ++ List.replicate m EV.un)[i]? = some (.own o) → False := fun {i o} e => by
    rcases List.mem_append.mp (List.mem_of_getElem? e) with z | z
    · obtain ⟨_, _, z⟩ := List.mem_map.mp z
      cases z
    · cases List.eq_of_mem_replicate z
  refine ⟨by simp [h.length], fun i d e => ?_, fun i o e => (no e).elim, fun i j o u p e => (no e).elim⟩
  by_cases hi : i < ds.length
  · rw [List.getElem?_append_left (by simpa using hi), List.getElem?_map] at e
    rw [List.getElem?_append_left (by rw [List.length_map, h.length]; exact hi), List.getElem?_map]
    cases hd : ds[i]? with
    | none =>
      rw [hd] at e
      cases e
    | some d' =>
      rw [hd] at e
      cases e
      obtain ⟨v, h1, h2⟩ := h.get hd
      exact ⟨v, by rw [h1]; rfl, h2⟩
  · rw [List.getElem?_append_right (by simpa using hi)] at e
    have := List.eq_of_mem_replicate (List.mem_of_getElem? e)
    cases this
end
/-- a def of the text as the interpreter has it -/
structure DefC (K : PySem.W.Frag) (mg : Str → Option Value) (Pg : Prog) (nm : String) (fa : Addr) where
  T : Tab
  name : Str
  qual : Str
  pars : Arguments
  body : List Stmt
  scope : Scope
  dvs : List V
  fd : FuncData
  ps : List Str
  dfl : List D
  n1 : Nat
  n2 : Nat
  F : FunD K name qual pars body scope dvs [] fa fd
  S : FnScope T.N ps scope
  def_ : assoc Pg.defs nm = some ⟨ps.length, T.N.length, dfl, erSs T (erS T n1 scope n2) body⟩
  rel : ∀ g H, RDs K g H dfl dvs
  bind : ∀ m : Nat, m ≤ ps.length → ps.length ≤ m + dfl.length → ∃ ds : List Value, Vals (dvs.drop (m + dfl.length - ps.length)) ds ∧ Binds K fd ps ds
/-- what a law's module has -/
structure ModC (P : Program) (w : World) (K : PySem.W.Frag) (mg : Str → Option Value) (Pg : Prog) where
  sm : ∃ o, K.lookup sysModules = some o ∧ o.cls = .type "dict"
  blt : ∀ s : String, s ∈ bltNames ++ othNames → mg (Str.ofString s) = none
  gs : List String
  fs : List String
  cs : List String
  at_ : List String
  ms : List (String × String)
  glb : ∀ s : String, s ∈ gs → ∀ d, assoc Pg.glob s = some d → ∃ v u, mg (Str.ofString s) = some u ∧ RelV v u ∧ ∀ g H, RD K g H d v
  frs : List String
  fns : ∀ s : String, s ∈ fs → ∃ fa, mg (Str.ofString s) = some (.ref fa) ∧ ∃ d : DefC K mg Pg s fa, d.T.fs = fs ∧ d.T.gs = gs ∧ d.T.frs = frs ∧ d.T.fresh = frs.contains s ∧ d.T.cs = cs ∧ d.T.at_ = at_ ∧ d.T.mts = ms ∧ (d.T.me ≠ "" → ∀ f : String, f ∈ at_ → NoAttr K (clsA K d.T.me) (Str.ofString f))
  mts : ∀ c m : String, (c, m) ∈ ms → ∃ fa, Meth K (clsA K c) (Str.ofString m) fa ∧ ∃ d : DefC K mg Pg (c ++ "." ++ m) fa, d.T.fs = fs ∧ d.T.gs = gs ∧ d.T.frs = frs ∧ d.T.fresh = frs.contains (c ++ "." ++ m) ∧ d.T.cs = cs ∧ d.T.at_ = at_ ∧ d.T.mts = ms ∧ (d.T.me ≠ "" → ∀ f : String, f ∈ at_ → NoAttr K (clsA K d.T.me) (Str.ofString f))
  cls : ∀ c : String, c ∈ cs → mg (Str.ofString c) = some (.ref (clsA K c)) ∧ Cls K (clsA K c) ∧ ∃ fa, Mk K (clsA K c) fa ∧ ∃ d : DefC K mg Pg (c ++ ".__init__") fa, d.T.fs = fs ∧ d.T.gs = gs ∧ d.T.frs = frs ∧ d.T.fresh = frs.contains (c ++ ".__init__") ∧ d.T.cs = cs ∧ d.T.at_ = at_ ∧ d.T.mts = ms ∧ (d.T.me ≠ "" → ∀ f : String, f ∈ at_ → NoAttr K (clsA K d.T.me) (Str.ofString f))
theorem guards_make (A : Around) (C : Addr) (us : List Value) (h : A.guards = some []) : (A.under (.builtin "type.__call__" ⟨.ref C :: us, []⟩)).guards = some [] := by
  first
    | exact h
    | simpa [Around.under, Code.guards, pushGuards] using h
theorem room_make2 {k : Nat} {A : Around} {env : PySem.Env} (r : Room (k + 1) A) (C : Addr) (us : List Value) : Room k ((A.deeper env).under (.builtin "type.__call__" ⟨.ref C :: us, []⟩)) :=
  ⟨r.hd, by
    have := r.dp
    rw [make_depth]
    show A.depth + 1 + 1 + 3 * k + 5 < recursionLimit
    omega, by
    have := r.un
    rw [make_units]
    show A.units + 3 + 1 + 16 * k + 200 < cLine
    omega⟩
theorem fns_ok {P : Program} {w : World} {K : PySem.W.Frag} {mg : Str → Option Value} {Pg : Prog} {wf : Nat} (M : ModC P w K mg Pg) {base : Heap} (hk : K.In base) : ∀ (n : Nat) (A : Around) (nm : String) (fa : Addr) (d : DefC K mg Pg nm fa), d.T.fs = M.fs → d.T.gs = M.gs → d.T.frs = M.frs → d.T.fresh = M.frs.contains nm → d.T.cs = M.cs → d.T.at_ = M.at_ → d.T.mts = M.ms → (d.T.me ≠ "" → ∀ f : String, f ∈ M.at_ → NoAttr K (clsA K d.T.me) (Str.ofString f)) → A.guards = some [] → Room n A →
    FnA P w K mg base A fa (rOwn K (callF Pg wf n) M.frs nm)
  | 0, A, nm, fa, d, _, _, _, _, _, _, _, _, hg, hr => fun outer s H us vs Q e0 r h => by
    obtain ⟨g, st, ds, x, st', _, _, e, _⟩ := h
    simp only [callF] at e
    cases e
  | n + 1, A, nm, fa, d, hfs, hgs, hrs, hfr, hcs, hat, hms, hnat, hg, hr => fun outer s H us vs Q e0 r h => by
    obtain ⟨g, st, ds, x, st', rel, ra, e, k⟩ := h
    have e : (match assoc Pg.defs nm with
      | none => Res.bad
      | some cd => match cd.start ds with
        | none => .bad
        | some env => (evSs (callF Pg wf n) (assoc Pg.glob) wf cd.body env st).bind endD) = .ok x st' := e
    rw [d.def_] at e
    simp only at e
    split at e
    · cases e
    · rename_i env henv
      obtain ⟨o, s1, e1, e2⟩ := Res.bind_eq e
      simp only [CDef.start] at henv
      split at henv
      · rename_i hlen
        cases henv
        have rds := ra.ds
        have hvl := rds.length
        have hdl : d.dvs.length = d.dfl.length := (d.rel ⟨fun _ => False, []⟩ fun _ => none).length
        obtain ⟨dus, hv, hb⟩ := d.bind ds.length hlen.1 hlen.2
        have hN : d.ps.length ≤ d.T.N.length := by
          have := congrArg List.length d.S.pre
          rw [List.length_take] at this
          omega
        have r2 : Vals (vs ++ d.dvs.drop (ds.length + d.dfl.length - d.ps.length)) (us ++ dus) := r.append hv
        have hl2 : (vs ++ d.dvs.drop (ds.length + d.dfl.length - d.ps.length)).length = d.ps.length := by
          rw [List.length_append, List.length_drop, hvl, hdl]
          omega
        refine def_run (m := n) d.F d.S hr e0 hl2 (hb s us (e0.mod.kin.keeps fun b o e => (e0.bs b o e).1) (by rw [← r2.length]; exact hl2)) r2 fun cdv => ?_
        let X0 : Cx := cxOf CX0 P w K mg base d.T.N d.qual d.scope fa cdv A outer s H E0
        have Sx : Sb X0.nox d.T (callF Pg wf n) (assoc Pg.glob) := {
          nN := rfl
          nd := d.S.nd
          calm := rfl
          gd := guards_in A _ hg
          hu := by
            have := (hr.deeper (envOfC d.qual d.scope s.heap.objs.size fa cdv)).un
            show (A.deeper (envOfC d.qual d.scope s.heap.objs.size fa cdv)).units + 100 < cLine
            omega
          sm := by
            obtain ⟨o, h1, h2⟩ := M.sm
            exact ⟨o, hk _ _ h1, h2⟩
          blt := M.blt
          glb := fun s hs d' hd' => M.glb s (hgs ▸ hs) d' hd'
          fns := fun s hs => by
            rw [hrs]
            obtain ⟨fa2, h1, d2, k1, k2, k3, k4, k5, k6, k7, k8⟩ := M.fns s (hfs ▸ hs)
            exact ⟨fa2, h1, d2.F.kp, fns_ok M hk n _ s fa2 d2 k1 k2 k3 k4 k5 k6 k7 k8 (guards_in A _ hg) (hr.deeper _)⟩
          cls := fun c hc => by
            rw [hrs]
            obtain ⟨h1, h2, fa2, h3, d2, k1, k2, k3, k4, k5, k6, k7, k8⟩ := M.cls c (hcs ▸ hc)
            exact ⟨h1, h2, fa2, h3, fun us2 => fns_ok M hk n _ (c ++ ".__init__") fa2 d2 k1 k2 k3 k4 k5 k6 k7 k8 (guards_make _ _ _ (guards_in A _ hg)) (room_make2 hr _ _)⟩
          mts := fun c m hcm => by
            rw [hrs]
            obtain ⟨fa2, h1, d2, k1, k2, k3, k4, k5, k6, k7, k8⟩ := M.mts c m (hms ▸ hcm)
            exact ⟨fa2, h1, fns_ok M hk n _ (c ++ "." ++ m) fa2 d2 k1 k2 k3 k4 k5 k6 k7 k8 (guards_in A _ hg) (hr.deeper _)⟩
          nat := fun hme f hf => hnat hme f (hat ▸ hf)
          kind := d.S.kind
          fnT := rfl
          po := PassesOwn.never }
        refine ⟨_, PSs.nox (X := X0) (snd_body (wf := wf) (n := d.n1) (k := d.n2) Sx d.body), g, H, g, _, st, o, s1, ⟨?_, rel, .refl g H, ?_⟩, e1, ?_⟩
        · have hrs := re_start (rds.append ((d.rel g H).drop (ds.length + d.dfl.length - d.ps.length))) (d.T.N.length - d.ps.length)
          unfold L2.start
          rw [hl2]
          exact hrs
        · intro i u p z
          rcases List.mem_append.mp (List.mem_of_getElem? z) with z | z
          · obtain ⟨_, _, z⟩ := List.mem_map.mp z
            cases z
          · cases List.eq_of_mem_replicate z
        · cases o with
          | nx e3 =>
            cases e2
            exact fun g' H' σ' l rf => k g' H' .non rf.le rf.rel (.inl rd_non) fun _ o z => by cases z
          | ret d3 =>
            cases e2
            exact fun g' H' v l rr rd f => k g' H' v l rr (.inl rd) fun z => f (by rw [hfr]; exact z)
          | brk _ => cases e2
          | cont _ => cases e2
      · cases henv
end Ev
/-! Ev19: a law's end -/
namespace Ev
open PySem L2 PySem.Spec PyProof.Rows
/-- the law's call: what the interpreter says of it holds -/
theorem law_run {P : Program} {w : World} {K : PySem.W.Frag} {mg mb : Str → Option Value} {Pg : Prog} {wf n : Nat} {fa a : Addr} {z : Shared} {us : List Value} {ns : List Int} (M : ModC P w K mg Pg) (hm : "law" ∈ M.fs) (hlaw : mg "law" = some (.ref fa))
    (inZ : K.In z.heap) (nsG : z.heap.Ns mainGlobals mg) (nsB : z.heap.Ns builtinsNs mb) (boot : ∀ x : Str, x ≠ "__name__" → mb x = bootBuiltins x) (noLim : z.heap.NoLimit) (noGens : z.gens = #[])
    (script : z.heap.get? a = some { cls := .type "list", data := .seq us.toArray }) (hInts : IntsAre us ns) (len : ns.length ≤ sizeLine) (room : Room n callerA) (val : ∃ st, callF Pg wf n "law" [.scr ns] [] = .ok (.bl true) st) :
    codeAny (model P w) callerA (.call (.ref fa) ⟨[.ref a], []⟩) (fun r s' => r = .ok (.ret (.bool true)) ∧ OldK z.heap s'.heap ∧ s'.os = z.os ∧ AllBare s'.gens) z := by
  obtain ⟨stE, val⟩ := val
  have lenU : us.length = ns.length := hInts.length
  -- H: at most the script is told of
  have go : ∀ H : Hp, (∀ b, H b = none ∨ (b = a ∧ K.lookup a = none ∧ ∃ o, H b = some (.frz o (.lst (ns.map V.int))))) → SqL K H a (ns.map V.int) → HOk P w H z.heap →
      codeAny (model P w) callerA (.call (.ref fa) ⟨[.ref a], []⟩) (fun r s' => r = .ok (.ret (.bool true)) ∧ OldK z.heap s'.heap ∧ s'.os = z.os ∧ AllBare s'.gens) z := by
    intro H one sq hok
    have isNone : ∀ {b : Addr} {o : Obj}, z.heap.get? b = some o → (b = a → K.lookup a = none → False) → H b = none := fun {b o} e h => by
      rcases one b with h0 | ⟨h1, h2, _⟩
      · exact h0
      · exact (h h1 h2).elim
    have stays : ∀ {b : Addr} {m : Str → Option Value}, z.heap.Ns b m → (hidT z.heap H).Ns b m := fun {b m} h => by
      obtain ⟨o, es, ep, e, d, r⟩ := h
      refine ⟨o, es, ep, hidT_get e (isNone e fun e1 _ => ?_), d, r⟩
      rw [e1, script] at e
      cases e
      exact nomatch (show Data.seq us.toArray _ = Data.dict es ep from d)
    have inBase : K.In (hidT z.heap H) := fun b o e => hidT_get (inZ b o e) (isNone (inZ b o e) fun e1 e2 => by
      rw [e1, e2] at e
      cases e)
    obtain ⟨mc, l1, l2⟩ := noLim
    have e0 : Env0 P w K mg (hidT z.heap H) callerA [] z H :=
      ⟨rfl, ⟨inBase, stays nsG, ⟨mb, stays nsB, boot⟩, ⟨mc, stays l1, l2⟩⟩, fun b o e => of_hidT e, Nat.le_of_eq (hidT_size _ _), trivial, fun b hb => (by cases (show b ∈ ([] : List Addr) from hb)), hok, .of_eq noGens⟩
    obtain ⟨fa', h1, dl, k1, k2, k3, k4, k5, k6, k7, k8⟩ := M.fns "law" hm
    have F := fns_ok (wf := wf) M inBase n callerA "law" fa' dl k1 k2 k3 k4 k5 k6 k7 k8 rfl room
    have h1 : mg ("law" : Str) = some (.ref fa') := h1
    rw [hlaw] at h1
    cases h1
    have want : rOwn K (callF Pg wf n) M.frs "law" [.ref a] H (fun v _ => v = .bl true) := by
      refine ⟨⟨fun _ => False, []⟩, [], [.scr ns], .bl true, stE, ⟨rfl, fun l p o e => by simp at e, List.nodup_nil, fun p hp => by simp at hp, fun b hb => hb.elim⟩, .cons (.inl ?_) .nil, val, fun g' H' v _ _ rd _ => rdw_bl rd⟩
      unfold RD
      refine ⟨a, rfl, ?_⟩
      rcases sq with sq | sq
      · rcases sq with sq | sq
        · rcases one a with h0 | ⟨_, _, o, h0⟩
          · rw [h0] at sq
            cases sq
          · rw [h0] at sq
            cases sq
        · exact .inl ⟨fun z => z, sq⟩
      · exact .inr sq
    refine codeAny_mono (F [] z H [.ref a] [.ref a] _ e0 (.cons rfl .nil) want) fun r s' h => ?_
    cases r with
    | error e => exact h.elim
    | ok fl =>
      cases fl with
      | ret u =>
        obtain ⟨v, H', sameOs, bare, un, hok', rv, hv⟩ := h
        have hv : v = .bl true := hv
        subst hv
        obtain rfl : u = Value.bool true := rv
        refine ⟨rfl, OldK.of_keep fun b o e => ?_, sameOs, bare⟩
        rcases one b with h0 | ⟨_, _, o2, h0⟩
        · exact un.keep b o e h0 (fun q => by cases (show b ∈ ([] : List Addr) from q)) (by simp)
        · obtain ⟨q1, _⟩ := hok b _ h0
          obtain ⟨q2, _⟩ := hok' b _ (un.frzs b o2 _ h0)
          rw [e] at q1
          cases q1
          exact q2
      | next => exact h.elim
      | brk => exact h.elim
      | cont => exact h.elim
  have rel := vals_ints hInts
  cases hk : K.lookup a with
  | some o =>
    have e := inZ a o hk
    rw [script] at e
    cases e
    refine go (fun _ => none) (fun _ => .inl rfl) (.inr ⟨_, us.toArray, _, hk, rfl, rfl, rfl, ?_, ?_⟩) fun b u e => nomatch (show (none : Option HO) = some u from e)
    · rw [List.size_toArray, lenU]
      exact len
    · simpa using rel
  | none =>
    have at_a : (fun b : Addr => if b = a then some (HO.frz { cls := .type "list", data := .seq us.toArray } (.lst (ns.map V.int))) else none) a = some (HO.frz { cls := .type "list", data := .seq us.toArray } (.lst (ns.map V.int))) := if_pos rfl
    refine go (fun b => if b = a then some (.frz { cls := .type "list", data := .seq us.toArray } (.lst (ns.map V.int))) else none) (fun b => ?_) (.inl (.inr ⟨_, at_a⟩)) fun b u e => ?_
    · by_cases hb : b = a
      · exact .inr ⟨hb, hk, _, if_pos hb⟩
      · exact .inl (if_neg hb)
    · by_cases hb : b = a
      · have e' := (if_pos hb).symm.trans e
        cases e'
        subst hb
        exact ⟨script, by rw [List.length_map]; exact len, us, _, rel, script⟩
      · have e' := (if_neg hb).symm.trans e
        cases e'
/-! ### the head's facts -/
def smB (K : PySem.W.Frag) : Bool := match K.lookup sysModules with
  | some o => (match o.cls with
    | .type c => decide (c = "dict")
    | _ => false)
  | none => false
theorem smB_ok {K : PySem.W.Frag} (h : smB K = true) : ∃ o, K.lookup sysModules = some o ∧ o.cls = .type "dict" := by
  unfold smB at h
  split at h
  · rename_i o ho
    split at h
    · rename_i c hc
      exact ⟨o, ho, by rw [hc, of_decide_eq_true h]⟩
    · cases h
  · cases h
abbrev AlS : Type := Bool × He.AlD
def obsS (fa : List He.Fa) (fn : List He.DefD) (K : PySem.W.Frag) : AlS := (smB K, He.obsD fa fn K)
def obsSG (n : Nat) (fa : List He.Fa) (fn : List He.DefD) (g : Addr → Option Obj) : AlS := obsS fa fn (He.frG g (sysModules :: He.asD g n))
def hookS (n : Nat) (fa : List He.Fa) (fn : List He.DefD) : PySem.W.Hook where
  α := AlS
  obs := fun s => obsSG n fa fn s.heap.get?
  val := fun _ => (true, He.valD fn)
  says := fun _ h => ∃ K : PySem.W.Frag, K.In h ∧ smB K = true ∧ He.SaysD fa fn K
  of := fun _ _ e => ⟨_, He.frG_in, congrArg Prod.fst e, congrArg Prod.snd e⟩
  keeps := fun _ _ _ h k => by
    obtain ⟨K, hK, c⟩ := h
    exact ⟨K, PySem.W.Frag.In.keeps hK k, c⟩
theorem obsSG_eq {n : Nat} {fa : List He.Fa} {fn : List He.DefD} {g : Addr → Option Obj} {s : Shared} (h : ∀ a, g a = s.heap.get? a) : obsSG n fa fn g = (hookS n fa fn).obs s := by
  have e : g = s.heap.get? := funext h
  rw [e]
  rfl
/-- the walk of a law by the interpreter's word -/
theorem walk_ev {l : PySem.W.OpenLaw} {m n wf : Nat} {q : Program} {loose : List Str} {XP : (Str → Option Value) → Heap → Prop} {d : DefRec} {nf : Nat} {fa : List He.Fa} {fn : List He.DefD} {Pg : Prog} (hn : l.most = some m) (hn2 : m ≤ sizeLine) (hdf : d.params.defaults = []) (hname : d.name = ("law" : Str)) (hr : Room n callerA)
    (mod : ∀ (w : World) (K : PySem.W.Frag) (mg : Str → Option Value) (h : Heap), K.In h → h.Ns mainGlobals mg → smB K = true → He.SaysD fa fn K → ∃ M : ModC l.prog w K mg Pg, "law" ∈ M.fs)
    (val : ∀ ns : List Int, ns.length ≤ m → (∀ z, z ∈ ns → Builtin.Int.intBits z ≤ 1048576) → ∃ st, callF Pg wf n "law" [.scr ns] [] = .ok (.bl true) st) :
    PySem.W.WalkO q loose XP (hookS nf fa fn).says l.row.toRowW d [] (fun f vs => PySem.call f vs) := by
  refine Att.attach_callB hn hdf fun w s₀ z mg mb f o pm cd doc a us ns Gr Y ho hd hcd hmg script hInts len bits noGens => ?_
  obtain ⟨K, inZ, sm, c⟩ := Y
  obtain ⟨M, hm⟩ := mod w K mg _ inZ Gr.T.g sm c
  exact law_run M hm (by rw [← hname]; exact hmg) inZ Gr.T.g Gr.T.b Gr.T.builtins Gr.T.nolimit noGens script hInts (Nat.le_trans len hn2) hr (val ns len bits)
end Ev
/-! Ev20: a module from its tables -/
namespace Ev
open PySem L2 PySem.Spec PyProof.Rows
theorem fact_mem {fa : List He.Fa} {fn : List He.DefD} {K : PySem.W.Frag} (c : He.SaysD fa fn K) {f : He.Fa} (h : f ∈ fa) : f.ok K = true := by
  obtain ⟨i, hi⟩ := List.getElem?_of_mem h
  exact c.fact i hi
def glF (p : String × D) : He.Fa := match p.2 with
  | .int i => .int (Str.ofString p.1) i
  | .str z => .str (Str.ofString p.1) z
  | _ => .free (Str.ofString p.1)
def faOf (fs : List String) (gl : List (String × D)) : List He.Fa := fs.map (fun s => .glo (Str.ofString s)) ++ ((bltNames ++ othNames).map (fun s => .free (Str.ofString s)) ++ gl.map glF)
/-- with classes: their names, attributes, methods -/
def faOf2 (fs : List String) (gl : List (String × D)) (cs as : List String) (ms : List (String × String)) : List He.Fa := faOf fs gl ++ (cs.map (fun c => He.Fa.glo (Str.ofString c)) ++ (cs.map (fun c => He.Fa.cls (Str.ofString c)) ++ (cs.map (fun c => He.Fa.mkr (Str.ofString c)) ++ (ms.map (fun p => He.Fa.meth (Str.ofString p.1) (Str.ofString p.2)) ++ (cs.map fun c => as.map fun f => He.Fa.noat (Str.ofString c) (Str.ofString f)).flatten))))
def flatG (p : String × D) : Bool := match p.2 with
  | .int _ => true
  | .str _ => true
  | _ => false
theorem assoc_mem {α : Type} {x : String} {a : α} : ∀ {l : List (String × α)}, assoc l x = some a → (x, a) ∈ l
  | [], h => by cases h
  | (y, b) :: r, h => by
    unfold assoc at h
    split at h
    · rename_i e
      cases h
      rw [e]
      exact List.mem_cons_self
    · exact List.mem_cons_of_mem _ (assoc_mem h)
/-- a def by its tables -/
structure DefS (Pg : Prog) (fs gs rs cs as : List String) (ms : List (String × String)) (fn : List He.DefD) (nm : String) (at0 : Str × Option Str) where
  T : Tab
  ps : List Str
  dfl : List D
  n1 : Nat
  n2 : Nat
  i : Nat
  d : He.DefD
  at_i : fn[i]? = some d
  hat : d.at_ = at0
  hfs : T.fs = fs
  hgs : T.gs = gs
  hrs : T.frs = rs
  hfr : T.fresh = rs.contains nm
  hcs : T.cs = cs
  has : T.at_ = as
  hms : T.mts = ms
  hme : T.me = "" ∨ T.me ∈ cs
  S : FnScope T.N ps d.scope
  def_ : assoc Pg.defs nm = some ⟨ps.length, T.N.length, dfl, erSs T (erS T n1 d.scope n2) d.body⟩
  kwd : d.kwd = []
  rel : ∀ K g H, RDs K g H dfl (d.dvs K)
  bind : ∀ (K : PySem.W.Frag) (f : Addr) (fd : FuncData), FunD K d.name d.qual d.params d.body d.scope (d.dvs K) [] f fd → ∀ m : Nat, m ≤ ps.length → ps.length ≤ m + dfl.length → ∃ ds : List Value, Vals ((d.dvs K).drop (m + dfl.length - ps.length)) ds ∧ Binds K fd ps ds
theorem def_of {P : Program} {w : World} {K : PySem.W.Frag} {mg : Str → Option Value} {Pg : Prog} {fs gs rs cs as : List String} {ms : List (String × String)} {fn : List He.DefD} {nm : String} {at0 : Str × Option Str} (c : He.SaysD (faOf2 fs Pg.glob cs as ms) fn K) (d : DefS Pg fs gs rs cs as ms fn nm at0) :
    ∃ d : DefC K mg Pg nm (He.fAd K at0), d.T.fs = fs ∧ d.T.gs = gs ∧ d.T.frs = rs ∧ d.T.fresh = rs.contains nm ∧ d.T.cs = cs ∧ d.T.at_ = as ∧ d.T.mts = ms ∧ (d.T.me ≠ "" → ∀ f : String, f ∈ as → NoAttr K (clsA K d.T.me) (Str.ofString f)) := by
  obtain ⟨fd, F⟩ := c.def_ d.i d.at_i
  have e : d.d.kws K = [] := by
    unfold He.DefD.kws
    rw [d.kwd]
    rfl
  rw [e, d.hat] at F
  refine ⟨{ T := d.T, name := d.d.name, qual := d.d.qual, pars := d.d.params, body := d.d.body, scope := d.d.scope, dvs := d.d.dvs K, fd := fd, ps := d.ps, dfl := d.dfl, n1 := d.n1, n2 := d.n2, F := F, S := d.S, def_ := d.def_, rel := d.rel K, bind := d.bind K _ fd F }, d.hfs, d.hgs, d.hrs, d.hfr, d.hcs, d.has, d.hms, fun hme f hf => ?_⟩
  have hc : d.T.me ∈ cs := d.hme.resolve_left hme
  exact He.noat_ok (fact_mem c (List.mem_append_right _ (List.mem_append_right _ (List.mem_append_right _ (List.mem_append_right _ (List.mem_append_right _ (List.mem_flatten.mpr ⟨_, List.mem_map_of_mem hc, List.mem_map_of_mem hf⟩)))))))
theorem mod_of {P : Program} {w : World} {K : PySem.W.Frag} {mg : Str → Option Value} {h : Heap} {Pg : Prog} {fs gs rs cs as : List String} {ms : List (String × String)} {fn : List He.DefD} (X : K.In h) (G : h.Ns mainGlobals mg) (sm : smB K = true) (c : He.SaysD (faOf2 fs Pg.glob cs as ms) fn K) (hg : Pg.glob.all flatG = true)
    (hd : ∀ s, s ∈ fs → Nonempty (DefS Pg fs gs rs cs as ms fn s (Str.ofString s, none))) (hm : ∀ p, p ∈ ms → Nonempty (DefS Pg fs gs rs cs as ms fn (p.1 ++ "." ++ p.2) (Str.ofString p.1, some (Str.ofString p.2))))
    (hc : ∀ s, s ∈ cs → Nonempty (DefS Pg fs gs rs cs as ms fn (s ++ ".__init__") (Str.ofString s, some "__init__"))) (hl : "law" ∈ fs) : ∃ M : ModC P w K mg Pg, "law" ∈ M.fs := by
  have old : ∀ {f : He.Fa}, f ∈ faOf fs Pg.glob → f.ok K = true := fun hf => fact_mem c (List.mem_append_left _ hf)
  refine ⟨{ sm := smB_ok sm, blt := fun s hs => ?_, gs := gs, fs := fs, frs := rs, cs := cs, at_ := as, ms := ms, glb := fun s hs d hd => ?_, fns := fun s hs => ?_, mts := fun s m hs => ?_, cls := fun s hs => ?_ }, hl⟩
  · exact He.free_ok X G (old (List.mem_append_right _ (List.mem_append_left _ (List.mem_map_of_mem hs))))
  · have hm := assoc_mem hd
    have hf := List.all_eq_true.mp hg _ hm
    have hk := old (List.mem_append_right _ (List.mem_append_right _ (List.mem_map_of_mem (f := glF) hm)))
    cases d with
    | int i =>
      obtain ⟨t, e⟩ := He.int_ok X G hk
      exact ⟨.int i, _, e, ⟨t, rfl⟩, fun g H => rd_int⟩
    | str z =>
      obtain ⟨t, e⟩ := He.str_ok X G hk
      exact ⟨.str z, _, e, ⟨t, rfl⟩, fun g H => rd_str⟩
    | _ => cases hf
  · obtain ⟨d⟩ := hd s hs
    have gl := He.glo_ok X G (old (List.mem_append_left _ (List.mem_map_of_mem hs)))
    exact ⟨_, gl, def_of (P := P) (w := w) c d⟩
  · obtain ⟨d⟩ := hm (s, m) hs
    have hk := He.meth_ok (fact_mem c (List.mem_append_right _ (List.mem_append_right _ (List.mem_append_right _ (List.mem_append_right _ (List.mem_append_left _ (List.mem_map_of_mem (f := fun p : String × String => He.Fa.meth (Str.ofString p.1) (Str.ofString p.2)) hs)))))))
    exact ⟨_, hk, def_of (P := P) (w := w) c d⟩
  · obtain ⟨d⟩ := hc s hs
    have h1 := He.glo_ok X G (fact_mem c (List.mem_append_right _ (List.mem_append_left _ (List.mem_map_of_mem (f := fun c => He.Fa.glo (Str.ofString c)) hs))))
    have h2 := He.cls_ok (fact_mem c (List.mem_append_right _ (List.mem_append_right _ (List.mem_append_left _ (List.mem_map_of_mem (f := fun c => He.Fa.cls (Str.ofString c)) hs)))))
    have h3 := He.mkr_ok (fact_mem c (List.mem_append_right _ (List.mem_append_right _ (List.mem_append_right _ (List.mem_append_left _ (List.mem_map_of_mem (f := fun c => He.Fa.mkr (Str.ofString c)) hs))))))
    exact ⟨h1, h2, _, h3, def_of (P := P) (w := w) c d⟩
/-- no defaults -/
theorem bind_all {ps : List Str} {d : He.DefD} (hd : d.dfl = []) (h : ∀ (kV doc pm : Value) (an : Option Addr) (cdv ct : Value) (us : List Value), us.length = ps.length → bindArgs (PySem.W.fnOf d.name d.qual d.params d.body d.scope .none kV doc pm an cdv ct) ⟨us, []⟩ = pure (ps.zip us)) :
    ∀ (K : PySem.W.Frag) (f : Addr) (fd : FuncData), FunD K d.name d.qual d.params d.body d.scope (d.dvs K) [] f fd → ∀ m : Nat, m ≤ ps.length → ps.length ≤ m + ([] : List D).length → ∃ ds : List Value, Vals ((d.dvs K).drop (m + ([] : List D).length - ps.length)) ds ∧ Binds K fd ps ds := by
  intro K f fd F m h1 h2
  have e : d.dvs K = [] := by
    unfold He.DefD.dvs
    rw [hd]
    rfl
  rw [e] at F ⊢
  rw [List.drop_nil]
  exact ⟨[], .nil, F.bindsN h⟩
theorem rel_nil {d : He.DefD} (hd : d.dfl = []) : ∀ (K : PySem.W.Frag) (g : G) (H : Hp), RDs K g H [] (d.dvs K) := fun K g H => by
  have e : d.dvs K = [] := by
    unfold He.DefD.dvs
    rw [hd]
    rfl
  rw [e]
  exact RDs.nil
end Ev
/-! Ev21: the interpreter's steps as wishes -/
namespace Ev
open PySem L2 PySem.Spec PyProof.Rows
def Res.all {α : Type} (r : Res α) (Q : α → Store → Prop) : Prop := ∃ a s, r = .ok a s ∧ Q a s
section
variable {α β : Type} {Q : α → Store → Prop} {st : Store}
theorem all_ok {a : α} : (Res.ok a st).all Q ↔ Q a st := ⟨fun h => by
  obtain ⟨_, _, e, q⟩ := h
  cases e
  exact q, fun q => ⟨a, st, rfl, q⟩⟩
theorem all_bad : (Res.bad : Res α).all Q ↔ False := ⟨fun h => (by
  obtain ⟨_, _, e, _⟩ := h
  cases e), fun h => h.elim⟩
theorem all_bind {r : Res β} {f : β → Store → Res α} : (r.bind f).all Q ↔ r.all fun a s => (f a s).all Q := by
  constructor
  · intro h
    obtain ⟨a, s, e, q⟩ := h
    obtain ⟨b, s1, e1, e2⟩ := Res.bind_eq e
    exact ⟨b, s1, e1, a, s, e2, q⟩
  · intro h
    obtain ⟨b, s1, e1, a, s, e2, q⟩ := h
    exact ⟨a, s, by rw [e1]; exact e2, q⟩
theorem all_mono {r : Res α} {Q' : α → Store → Prop} (h : r.all Q) (k : ∀ a s, Q a s → Q' a s) : r.all Q' := by
  obtain ⟨a, s, e, q⟩ := h
  exact ⟨a, s, e, k a s q⟩
theorem all_ofO {o : Option α} : (ofO o st).all Q ↔ ∃ a, o = some a ∧ Q a st := by
  cases o with
  | none => exact ⟨fun h => (all_bad.mp h).elim, fun h => by
      obtain ⟨_, e, _⟩ := h
      cases e⟩
  | some a => exact ⟨fun h => ⟨a, rfl, all_ok.mp h⟩, fun h => by
      obtain ⟨b, e, q⟩ := h
      cases e
      exact all_ok.mpr q⟩
theorem all_if {c : Prop} [Decidable c] {a b : Res α} : (if c then a else b).all Q ↔ (c → a.all Q) ∧ (¬ c → b.all Q) := by
  by_cases h : c
  · rw [if_pos h]
    exact ⟨fun z => ⟨fun _ => z, fun n => absurd h n⟩, fun z => z.1 h⟩
  · rw [if_neg h]
    exact ⟨fun z => ⟨fun n => absurd n h, fun _ => z⟩, fun z => z.2 h⟩
theorem all_guard {c : Prop} [Decidable c] {a : Res α} : (if c then a else .bad).all Q ↔ c ∧ a.all Q := by
  by_cases h : c
  · rw [if_pos h]
    exact ⟨fun z => ⟨h, z⟩, fun z => z.2⟩
  · rw [if_neg h]
    exact ⟨fun z => (all_bad.mp z).elim, fun z => absurd z.1 h⟩
end
section
variable {cl : String → List D → Store → Res D} {gl : String → Option D} {wf : Nat} {w : Bool} {env : Env} {st : Store} {Q : D → Store → Prop} {QB : Bool → Store → Prop} {QL : List D → Store → Prop} {QI : Option Int → Store → Prop} {QO : Out → Store → Prop} {QP : List D × Chk → Store → Prop}
theorem w_cst {d : D} : (ev cl gl w (.cst d) env st).all Q ↔ Q d st := all_ok
theorem w_var {i : Nat} : (ev cl gl w (.var i) env st).all Q ↔ ∃ d, varE w i env = some d ∧ Q d st := all_ofO
theorem w_glo {x : String} : (ev cl gl w (.glo x) env st).all Q ↔ ∃ d, gl x = some d ∧ Q d st := all_ofO
theorem w_bin {o : BO} {a b : CE} : (ev cl gl w (.bin o a b) env st).all Q ↔ (ev cl gl true a env st).all fun x st => (ev cl gl true b env st).all fun y st => (binop o x y st).all Q := by
  simp only [ev, all_bind]
theorem w_neg {a : CE} : (ev cl gl w (.neg a) env st).all Q ↔ (ev cl gl false a env st).all fun x st => ∃ i, x = .int i ∧ Q (.int (-i)) st := by
  simp only [ev, all_bind]
  constructor <;> intro h <;> refine all_mono h fun x s z => ?_
  · split at z
    · exact ⟨_, rfl, all_ok.mp z⟩
    · exact (all_bad.mp z).elim
  · obtain ⟨i, rfl, q⟩ := z
    exact all_ok.mpr q
theorem w_tst {r : Res D} : (tst r).all QB ↔ r.all fun x st => ∃ b, x = .bl b ∧ QB b st := by
  unfold tst
  rw [all_bind]
  constructor <;> intro h <;> refine all_mono h fun x s z => ?_
  · rw [all_ofO] at z
    obtain ⟨b, e, q⟩ := z
    unfold truthD at e
    split at e
    · cases e
      exact ⟨_, rfl, q⟩
    · cases e
  · obtain ⟨b, rfl, q⟩ := z
    exact all_ofO.mpr ⟨b, rfl, q⟩
theorem w_not {a : CE} : (ev cl gl w (.not a) env st).all Q ↔ (ev cl gl false a env st).all fun x st => ∃ b, x = .bl b ∧ Q (.bl (!b)) st := by
  simp only [ev, all_bind, w_tst, all_ok]
theorem w_and {a b : CE} : (ev cl gl w (.and a b) env st).all Q ↔ (ev cl gl false a env st).all fun x st => ∃ c, x = .bl c ∧ (c = true → (ev cl gl false b env st).all fun y st => ∃ d, y = .bl d ∧ Q (.bl d) st) ∧ (c = false → Q (.bl false) st) := by
  simp only [ev, all_bind, w_tst]
  constructor <;> intro h <;> refine all_mono h fun x s z => ?_
  · obtain ⟨c, rfl, z⟩ := z
    cases c with
    | true => exact ⟨_, rfl, fun _ => by simpa only [all_bind, w_tst, all_ok] using z, fun z => (by cases z)⟩
    | false => exact ⟨_, rfl, fun z => (by cases z), fun _ => all_ok.mp z⟩
  · obtain ⟨c, rfl, z1, z2⟩ := z
    refine ⟨c, rfl, ?_⟩
    cases c with
    | true => simpa only [all_bind, w_tst, all_ok] using z1 rfl
    | false => exact all_ok.mpr (z2 rfl)
theorem w_or {a b : CE} : (ev cl gl w (.or a b) env st).all Q ↔ (ev cl gl false a env st).all fun x st => ∃ c, x = .bl c ∧ (c = true → Q (.bl true) st) ∧ (c = false → (ev cl gl false b env st).all fun y st => ∃ d, y = .bl d ∧ Q (.bl d) st) := by
  simp only [ev, all_bind, w_tst]
  constructor <;> intro h <;> refine all_mono h fun x s z => ?_
  · obtain ⟨c, rfl, z⟩ := z
    cases c with
    | true => exact ⟨_, rfl, fun _ => all_ok.mp z, fun z => (by cases z)⟩
    | false => exact ⟨_, rfl, fun z => (by cases z), fun _ => by simpa only [all_bind, w_tst, all_ok] using z⟩
  · obtain ⟨c, rfl, z1, z2⟩ := z
    refine ⟨c, rfl, ?_⟩
    cases c with
    | true => exact all_ok.mpr (z1 rfl)
    | false => simpa only [all_bind, w_tst, all_ok] using z2 rfl
theorem w_cmp {o : CO} {a b : CE} : (ev cl gl w (.cmp o a b) env st).all Q ↔ (ev cl gl true a env st).all fun x st => (ev cl gl true b env st).all fun y st => ∃ r, cmpop o x y st = some r ∧ Q (.bl r) st := by
  simp only [ev, all_bind, all_ofO, all_ok]
theorem w_cmp2 {o o' : CO} {a b c : CE} : (ev cl gl w (.cmp2 o o' a b c) env st).all Q ↔ (ev cl gl true a env st).all fun x st => (ev cl gl true b env st).all fun y st => ∃ r, cmpop o x y st = some r ∧ (r = false → Q (.bl false) st) ∧ (r = true → (ev cl gl true c env st).all fun z st => ∃ r, cmpop o' y z st = some r ∧ Q (.bl r) st) := by
  simp only [ev, all_bind, all_ofO]
  constructor <;> intro h <;> refine all_mono h fun x s h => all_mono h fun y s z => ?_
  · obtain ⟨r, e, z⟩ := z
    refine ⟨r, e, ?_⟩
    cases r with
    | true => exact ⟨fun z => (by cases z), fun _ => by simpa only [all_bind, all_ofO, all_ok] using z⟩
    | false => exact ⟨fun _ => all_ok.mp z, fun z => (by cases z)⟩
  · obtain ⟨r, e, z1, z2⟩ := z
    refine ⟨r, e, ?_⟩
    cases r with
    | true => simpa only [all_bind, all_ofO, all_ok] using z2 rfl
    | false => exact all_ok.mpr (z1 rfl)
theorem w_ife {c a b : CE} : (ev cl gl w (.ife c a b) env st).all Q ↔ (ev cl gl false c env st).all fun x st => ∃ r, x = .bl r ∧ (r = true → (ev cl gl false a env st).all Q) ∧ (r = false → (ev cl gl false b env st).all Q) := by
  simp only [ev, all_bind, w_tst]
  constructor <;> intro h <;> refine all_mono h fun x s z => ?_
  · obtain ⟨r, rfl, z⟩ := z
    cases r with
    | true => exact ⟨_, rfl, fun _ => z, fun z => (by cases z)⟩
    | false => exact ⟨_, rfl, fun z => (by cases z), fun _ => z⟩
  · obtain ⟨r, rfl, z1, z2⟩ := z
    refine ⟨r, rfl, ?_⟩
    cases r with
    | true => exact z1 rfl
    | false => exact z2 rfl
theorem w_idx {a i : CE} : (ev cl gl w (.idx a i) env st).all Q ↔ (ev cl gl true a env st).all fun x st => (ev cl gl false i env st).all fun y st => ∃ d, idxop x y st = some d ∧ Q d st := by
  simp only [ev, all_bind, all_ofO]
theorem w_slc {a : CE} {lo hi : CO2} : (ev cl gl w (.slc a lo hi) env st).all Q ↔ (ev cl gl true a env st).all fun x st => (evO cl gl lo env st).all fun l st => (evO cl gl hi env st).all fun h st => ∃ d, slcop x l h st = some d ∧ Q d st := by
  simp only [ev, all_bind, all_ofO]
theorem w_no : (evO cl gl .no env st).all QI ↔ QI none st := all_ok
theorem w_so {e : CE} : (evO cl gl (.so e) env st).all QI ↔ (ev cl gl false e env st).all fun x st => ∃ i, x = .int i ∧ QI (some i) st := by
  simp only [evO, all_bind]
  constructor <;> intro h <;> refine all_mono h fun x s z => ?_
  · split at z
    · exact ⟨_, rfl, all_ok.mp z⟩
    · exact (all_bad.mp z).elim
  · obtain ⟨i, rfl, q⟩ := z
    exact all_ok.mpr q
theorem w_cno : (evC cl gl .no env st).all QB ↔ QB true st := all_ok
theorem w_cso {e : CE} : (evC cl gl (.so e) env st).all QB ↔ (ev cl gl false e env st).all fun x st => ∃ b, x = .bl b ∧ QB b st := w_tst
theorem w_tup {es : CEs} : (ev cl gl w (.tup es) env st).all Q ↔ (evEs cl gl false es env st).all fun ds st => ds.length ≤ sizeLine ∧ Q (.tup ds) st := by
  simp only [ev, all_bind, all_guard, all_ok]
theorem w_lst {es : CEs} : (ev cl gl w (.lst es) env st).all Q ↔ (evEs cl gl false es env st).all fun ds st => ds.length ≤ sizeLine ∧ Q (.lst ds) st := by
  simp only [ev, all_bind, all_guard, all_ok]
theorem w_dnew {t : Bool} : (ev cl gl w (.dnew t) env st).all Q ↔ Q (.dct t []) st := all_ok
theorem w_nil : (evEs cl gl w .nil env st).all QL ↔ QL [] st := all_ok
theorem w_cons {e : CE} {r : CEs} : (evEs cl gl w (.cons e r) env st).all QL ↔ (ev cl gl w e env st).all fun d st => (evEs cl gl w r env st).all fun ds st => QL (d :: ds) st := by
  simp only [evEs, all_bind, all_ok]
theorem w_call {f : String} {es : CEs} : (ev cl gl w (.call f es) env st).all Q ↔ (evEs cl gl false es env st).all fun ds st => (cl f ds st).all Q := by
  simp only [ev, all_bind]
theorem w_callF {f : String} {es : CEs} : (ev cl gl w (.callF f es) env st).all Q ↔ (evEs cl gl false es env st).all fun ds st => (cl f ds st).all Q := by
  simp only [ev, all_bind]
theorem w_callO {b : Bool} {f : String} {es : CEs} : (ev cl gl w (.callO b f es) env st).all Q ↔ (evEs cl gl true es env st).all fun ds st => (cl f ds st).all fun d st => okX b d st = true ∧ Q d st := by
  simp only [ev, all_bind]
  constructor <;> intro h <;> refine all_mono h fun x s h => all_mono h fun y s z => ?_
  · rw [all_guard, all_ok] at z
    exact z
  · rw [all_guard, all_ok]
    exact z
theorem w_blt {f : String} {es : CEs} : (ev cl gl w (.blt f es) env st).all Q ↔ (evEs cl gl true es env st).all fun ds st => (callB f ds st).all Q := by
  simp only [ev, all_bind]
theorem w_isi {a : CE} {ty : String} : (ev cl gl w (.isi a ty) env st).all Q ↔ (ev cl gl true a env st).all fun x st => ∃ b, isTy st x ty = some b ∧ Q (.bl b) st := by
  simp only [ev, all_bind, all_ofO, all_ok]
theorem w_lset {a : CE} : (ev cl gl w (.lset a) env st).all Q ↔ (ev cl gl true a env st).all fun x st => ∃ l, asL st x = some l ∧ ∃ n, nsetD l = some n ∧ Q (.int n) st := by
  simp only [ev, all_bind]
  constructor <;> intro h <;> refine all_mono h fun x s z => ?_
  · split at z
    · rename_i l hl
      simp only [all_bind, all_ofO, all_ok] at z
      exact ⟨l, hl, z⟩
    · exact (all_bad.mp z).elim
  · obtain ⟨l, hl, z⟩ := z
    rw [hl]
    simp only [all_bind, all_ofO, all_ok]
    exact z
theorem w_rev {a : CE} : (ev cl gl w (.rev a) env st).all Q ↔ (ev cl gl true a env st).all fun x st => ∃ l, asR st x = some l ∧ Q (.lst l.reverse) st := by
  simp only [ev, all_bind]
  constructor <;> intro h <;> refine all_mono h fun x s z => ?_
  · split at z
    · rename_i l hl
      exact ⟨l, hl, all_ok.mp z⟩
    · exact (all_bad.mp z).elim
  · obtain ⟨l, hl, z⟩ := z
    rw [hl]
    exact all_ok.mpr z
/-! ### what is walked -/
theorem w_iown {i : Nat} : (evI cl gl (.own i) env st).all QP ↔ ∃ p, viewI i env st = some p ∧ QP p st := all_ofO
theorem w_iseq {e : CE} : (evI cl gl (.seq e) env st).all QP ↔ (ev cl gl false e env st).all fun x st => ∃ p, seqI x st = some p ∧ QP p st := by
  simp only [evI, all_bind, all_ofO]
theorem w_rng1 {a : CE} : (evI cl gl (.rng1 a) env st).all QP ↔ (ev cl gl false a env st).all fun x st => ∃ n, x = .int n ∧ in62 n = true ∧ QP (rngL 0 n.toNat, .no) st := by
  simp only [evI, all_bind]
  constructor <;> intro h <;> refine all_mono h fun x s z => ?_
  · split at z
    · rw [all_guard, all_ok] at z
      exact ⟨_, rfl, z⟩
    · exact (all_bad.mp z).elim
  · obtain ⟨i, rfl, q⟩ := z
    exact all_guard.mpr ⟨q.1, all_ok.mpr q.2⟩
theorem w_rng2 {a b : CE} : (evI cl gl (.rng2 a b) env st).all QP ↔ (ev cl gl false a env st).all fun x st => (ev cl gl false b env st).all fun y st => ∃ m n, x = .int m ∧ y = .int n ∧ in62 m = true ∧ in62 n = true ∧ QP (rngL m (n - m).toNat, .no) st := by
  simp only [evI, all_bind]
  constructor <;> intro h <;> refine all_mono h fun x s h => all_mono h fun y s z => ?_
  · split at z
    · rw [all_guard, all_ok] at z
      exact ⟨_, _, rfl, rfl, z.1.1, z.1.2, z.2⟩
    · exact (all_bad.mp z).elim
  · obtain ⟨i, j, rfl, rfl, q1, q2, q⟩ := z
    exact all_guard.mpr ⟨⟨q1, q2⟩, all_ok.mpr q⟩
/-! ### statements -/
def nxK (k : Env → Store → Prop) (QO : Out → Store → Prop) (o : Out) (st : Store) : Prop := match o with
  | .nx e => k e st
  | o => QO o st
theorem s_nil : (evSs cl gl wf .nil env st).all QO ↔ QO (.nx env) st := all_ok
theorem s_seq {s : CS} {r : CSs} : (evSs cl gl wf (.cons s r) env st).all QO ↔ (evS cl gl wf s env st).all (nxK (fun e st => (evSs cl gl wf r e st).all QO) QO) := by
  simp only [evSs, all_bind]
  constructor <;> intro h <;> refine all_mono h fun o s z => ?_
  · cases o with
    | nx e => exact z
    | ret d => exact (all_ok (Q := QO)).mp z
    | brk e => exact (all_ok (Q := QO)).mp z
    | cont e => exact (all_ok (Q := QO)).mp z
  · cases o with
    | nx e => exact z
    | ret d => exact (all_ok (Q := QO)).mpr z
    | brk e => exact (all_ok (Q := QO)).mpr z
    | cont e => exact (all_ok (Q := QO)).mpr z
def fzK (k : Env → Prop) (env : Env) (i : Nat) : Option EV → Prop
  | some (.own o) => k (env.set i (.v o.d))
  | some (.v _) => k env
  | _ => False
theorem fz_own {k : Env → Prop} {i : Nat} {o : O} : fzK k env i (some (.own o)) = k (env.set i (.v o.d)) := rfl
theorem fz_v {k : Env → Prop} {i : Nat} {d : D} : fzK k env i (some (.v d)) = k env := rfl
theorem s_frz {i : Nat} {r : CSs} : (evSs cl gl wf (.frz i r) env st).all QO ↔ fzK (fun e => (evSs cl gl wf r e st).all QO) env i env[i]? := by
  simp only [evSs]
  generalize env[i]? = x
  split
  · exact Iff.rfl
  · exact Iff.rfl
  · rename_i hn1 hn2
    rw [all_bad]
    unfold fzK
    split
    · exact absurd rfl (hn1 _)
    · exact absurd rfl (hn2 _)
    · exact Iff.rfl
theorem z_asg {g : CG} {e : CE} : (evS cl gl wf (.asg g e) env st).all QO ↔ (ev cl gl false e env st).all fun d st => ∃ env', assignG g d env = some env' ∧ QO (.nx env') st := by
  simp only [evS, all_bind, all_ofO, all_ok]
theorem z_asgO {i : Nat} {e : CE} : (evS cl gl wf (.asgO i e) env st).all QO ↔ (ev cl gl false e env st).all fun d st => QO (.nx (env.set i (ownV d))) st := by
  simp only [evS, all_bind, all_ok]
theorem ov_lst {l : List D} : ownV (.lst l) = .own (.lst l) := rfl
theorem ov_dct {t : Bool} {l : List (D × D)} : ownV (.dct t l) = .own (.dct t l) := rfl
theorem ov_non : ownV .non = .v .non := rfl
theorem ov_int {i : Int} : ownV (.int i) = .v (.int i) := rfl
theorem ov_bl {i : Bool} : ownV (.bl i) = .v (.bl i) := rfl
theorem ov_str {i : Str} : ownV (.str i) = .v (.str i) := rfl
theorem ov_tup {i : List D} : ownV (.tup i) = .v (.tup i) := rfl
theorem z_asgR {i : Nat} {e : CE} : (evS cl gl wf (.asgR i e) env st).all QO ↔ (ev cl gl false e env st).all fun d st => ∃ o, oOf d = some o ∧ QO (.nx (env.set i (.v (.ref st.length)))) (st ++ [o]) := by
  simp only [evS, all_bind, all_ofO, all_ok]
theorem z_par {gs : List (Nat × Nat)} {es : CEs} : (evS cl gl wf (.par gs es) env st).all QO ↔ (evEs cl gl false es env st).all fun ds st => (parGo gs ds env st).all QO := by
  simp only [evS, all_bind]
theorem z_pn : (parGo [] [] env st).all QO ↔ QO (.nx env) st := all_ok
theorem z_pc {k i : Nat} {r : List (Nat × Nat)} {d : D} {q : List D} : (parGo ((k, i) :: r) (d :: q) env st).all QO ↔ ∃ p, putK k d st = some p ∧ (parGo r q (env.set i p.1) p.2).all QO := by
  simp only [parGo, all_bind, all_ofO]
theorem z_aug {i : Nat} {o : BO} {e : CE} : (evS cl gl wf (.aug i o e) env st).all QO ↔ ∃ x, varE true i env = some x ∧ (ev cl gl true e env st).all fun y st => (binop o x y st).all fun z st => ∃ n, z = .int n ∧ QO (.nx (env.set i (.v (.int n)))) st := by
  simp only [evS, all_bind, all_ofO]
  constructor <;> intro h <;> obtain ⟨x, e1, h⟩ := h <;> refine ⟨x, e1, all_mono h fun y s h => all_mono h fun z s q => ?_⟩
  · split at q
    · exact ⟨_, rfl, all_ok.mp q⟩
    · exact (all_bad.mp q).elim
  · obtain ⟨n, rfl, q⟩ := q
    exact all_ok.mpr q
theorem z_ex {e : CE} : (evS cl gl wf (.ex e) env st).all QO ↔ (ev cl gl false e env st).all fun _ st => QO (.nx env) st := by
  simp only [evS, all_bind, all_ok]
theorem z_mown {i : Nat} {m : String} {es : CEs} {o : List D} (h : env[i]? = some (.own (.lst o))) : (evS cl gl wf (.mcall i m es) env st).all QO ↔ (evEs cl gl false es env st).all fun ds st => ∃ p, mthW m o ds st = some p ∧ QO (.nx (env.set i (.own (.lst p.2)))) st := by
  simp only [evS, h, all_bind, all_ofO, all_ok]
theorem z_mref {i l : Nat} {m : String} {es : CEs} {o : List D} (h : env[i]? = some (.v (.ref l))) (h2 : st[l]? = some (.lst o)) : (evEs cl gl false es env st).all (fun ds st => ∃ o, st[l]? = some (.lst o) ∧ ∃ p, mthW m o ds st = some p ∧ QO (.nx env) (st.set l (.lst p.2))) → (evS cl gl wf (.mcall i m es) env st).all QO := fun z => by
  simp only [evS, h, h2, all_bind]
  refine all_mono z fun ds s z => ?_
  obtain ⟨o, e1, p, e2, q⟩ := z
  rw [e1]
  simp only [all_bind, all_ofO, all_ok]
  exact ⟨p, e2, q⟩
theorem z_setI {i : Nat} {k e : CE} : (ev cl gl false e env st).all (fun d st => (ev cl gl false k env st).all fun x st => ∃ env' st', putAt i x d env st = some (env', st') ∧ QO (.nx env') st') → (evS cl gl wf (.setI i k e) env st).all QO := fun z => by
  simp only [evS, all_bind]
  refine all_mono z fun d s z => ?_
  obtain ⟨x, s2, e2, env', st', e3, q⟩ := z
  unfold putAt at e3
  split at e3
  · rename_i o ho
    rw [Option.map_eq_some_iff] at e3
    obtain ⟨p, hp, e3⟩ := e3
    cases e3
    simp only [ho, all_bind, all_ofO, all_ok]
    exact ⟨x, _, e2, p, hp, q⟩
  · rename_i l hl
    split at e3
    · rename_i o ho
      rw [Option.map_eq_some_iff] at e3
      obtain ⟨p, hp, e3⟩ := e3
      cases e3
      simp only [hl, all_bind]
      refine ⟨x, s2, e2, ?_⟩
      simp only [ho, all_bind, all_ofO, all_ok]
      exact ⟨p, hp, q⟩
    · cases e3
  · cases e3
theorem z_ret {e : CE} : (evS cl gl wf (.ret e) env st).all QO ↔ (ev cl gl false e env st).all fun d st => QO (.ret d) st := by
  simp only [evS, all_bind, all_ok]
theorem z_retN : (evS cl gl wf .retN env st).all QO ↔ QO (.ret .non) st := all_ok
theorem z_retR {e : CE} : (evS cl gl wf (.retR e) env st).all QO ↔ (ev cl gl false e env st).all fun d st => ∃ o, oOf d = some o ∧ QO (.ret (.ref st.length)) (st ++ [o]) := by
  simp only [evS, all_bind, all_ofO, all_ok]
theorem z_giveO {i : Nat} {o : O} (h : env[i]? = some (.own o)) : (evS cl gl wf (.giveO i) env st).all QO ↔ QO (.ret (.ref st.length)) (st ++ [o]) := by
  simp only [evS, h, all_ok]
def roK (QO : Out → Store → Prop) (st : Store) : Option EV → Prop
  | some (.own o) => QO (.ret o.d) st
  | _ => False
theorem ro_own {o : O} : roK QO st (some (.own o)) = QO (.ret o.d) st := rfl
theorem z_retO {i : Nat} : (evS cl gl wf (.retO i) env st).all QO ↔ roK QO st env[i]? := by
  simp only [evS]
  generalize env[i]? = x
  split
  · rw [ro_own, all_ok]
  · rename_i hn
    rw [all_bad]
    unfold roK
    split
    · exact absurd rfl (hn _)
    · exact Iff.rfl
theorem z_ite {c : CE} {a b : CSs} : (evS cl gl wf (.ite c a b) env st).all QO ↔ (ev cl gl false c env st).all fun x st => ∃ r, x = .bl r ∧ (r = true → (evSs cl gl wf a env st).all QO) ∧ (r = false → (evSs cl gl wf b env st).all QO) := by
  simp only [evS, all_bind, w_tst]
  constructor <;> intro h <;> refine all_mono h fun x s z => ?_
  · obtain ⟨r, rfl, z⟩ := z
    cases r with
    | true => exact ⟨_, rfl, fun _ => z, fun z => (by cases z)⟩
    | false => exact ⟨_, rfl, fun z => (by cases z), fun _ => z⟩
  · obtain ⟨r, rfl, z1, z2⟩ := z
    refine ⟨r, rfl, ?_⟩
    cases r with
    | true => exact z1 rfl
    | false => exact z2 rfl
theorem z_brk : (evS cl gl wf .brk env st).all QO ↔ QO (.brk env) st := all_ok
theorem z_cont : (evS cl gl wf .cont env st).all QO ↔ QO (.cont env) st := all_ok
theorem z_pass : (evS cl gl wf .pass env st).all QO ↔ QO (.nx env) st := all_ok
/-! ### loops -/
theorem for_all {g : CG} {b : CSs} {ck : Store → Bool} (I : Nat → Env → Store → Prop) {xs : List D} : ∀ (i : Nat) (env : Env) (st : Store), i ≤ xs.length → I i env st → (∀ j e s, j ≤ xs.length → I j e s → ck s = true) →
    (∀ j x e s, xs[j]? = some x → I j e s → ∃ e', assignG g x e = some e' ∧ (evSs cl gl wf b e' s).all fun o s => match o with
      | .nx e => I (j + 1) e s
      | .cont e => I (j + 1) e s
      | .brk e => QO (.nx e) s
      | .ret d => QO (.ret d) s) →
    (∀ e s, I xs.length e s → QO (.nx e) s) → (forGo (assignG g) (fun e s => evSs cl gl wf b e s) ck (xs.drop i) env st).all QO := by
  suffices ∀ (n i : Nat) (env : Env) (st : Store), i + n = xs.length → I i env st → (∀ j e s, j ≤ xs.length → I j e s → ck s = true) →
    (∀ j x e s, xs[j]? = some x → I j e s → ∃ e', assignG g x e = some e' ∧ (evSs cl gl wf b e' s).all fun o s => match o with
      | .nx e => I (j + 1) e s
      | .cont e => I (j + 1) e s
      | .brk e => QO (.nx e) s
      | .ret d => QO (.ret d) s) →
    (∀ e s, I xs.length e s → QO (.nx e) s) → (forGo (assignG g) (fun e s => evSs cl gl wf b e s) ck (xs.drop i) env st).all QO from
    fun i env st hi h0 hc hs he => this (xs.length - i) i env st (by omega) h0 hc hs he
  intro n
  induction n with
  | zero =>
    intro i env st hi h0 hc hs he
    have hi : i = xs.length := by omega
    subst hi
    rw [List.drop_length]
    simp only [forGo, all_guard, all_ok]
    exact ⟨hc _ _ _ (Nat.le_refl _) h0, he _ _ h0⟩
  | succ n ih =>
    intro i env st hi h0 hc hs he
    have hl : i < xs.length := by omega
    rw [List.drop_eq_getElem_cons hl]
    simp only [forGo, all_guard]
    refine ⟨hc _ _ _ (by omega) h0, ?_⟩
    obtain ⟨e', e1, z⟩ := hs i _ env st (List.getElem?_eq_getElem hl) h0
    rw [e1]
    simp only [all_bind]
    refine all_mono z fun o s z => ?_
    cases o with
    | nx e => exact ih (i + 1) e s (by omega) z hc hs he
    | cont e => exact ih (i + 1) e s (by omega) z hc hs he
    | brk e => exact all_ok.mpr z
    | ret d => exact all_ok.mpr z
theorem z_for {g : CG} {it : CI} {b : CSs} : (evS cl gl wf (.for_ g it b) env st).all QO ↔ (evI cl gl it env st).all fun p st => p.2.isOw = false ∧ (forGo (assignG g) (fun e s => evSs cl gl wf b e s) p.2.ok p.1 env st).all QO := by
  simp only [evS, all_bind]
  constructor <;> intro h <;> refine all_mono h fun p s z => ?_
  · split at z
    · exact (all_bad.mp z).elim
    · rename_i c
      exact ⟨by simpa using c, z⟩
  · rw [if_neg (by rw [z.1]; simp)]
    exact z.2
def lcB (cl : String → List D → Store → Res D) (gl : String → Option D) (g : CG) (vs : List Nat) (c : CO2) (e : CE) (env : Env) (x : D) (st : Store) : Res (Option D) := match assignG g x (wipeE env vs) with
  | none => .bad
  | some env1 => (evC cl gl c env1 st).bind fun b st => match b with
    | true => (ev cl gl false e env1 st).bind fun d st => .ok (some d) st
    | false => .ok none st
theorem lc_all {g : CG} {vs : List Nat} {c : CO2} {e : CE} {ck : Store → Bool} (I : Nat → List D → Store → Prop) {xs : List D} : ∀ (n i : Nat) (acc : List D) (st : Store), i + n = xs.length → I i acc st → (∀ j a s, j ≤ xs.length → I j a s → ck s = true) →
    (∀ j x a s, xs[j]? = some x → I j a s → ∃ e', assignG g x (wipeE env vs) = some e' ∧ (evC cl gl c e' s).all fun b s => (b = true → (ev cl gl false e e' s).all fun d s => I (j + 1) (a ++ [d]) s) ∧ (b = false → I (j + 1) a s)) →
    (lcGo (lcB cl gl g vs c e env) ck (xs.drop i) st).all fun ds st => I xs.length (acc ++ ds) st := by
  intro n
  induction n with
  | zero =>
    intro i acc st hi h0 hc hs
    have hi : i = xs.length := by omega
    subst hi
    rw [List.drop_length]
    simp only [lcGo, all_guard, all_ok]
    exact ⟨hc _ _ _ (Nat.le_refl _) h0, by simpa using h0⟩
  | succ n ih =>
    intro i acc st hi h0 hc hs
    have hl : i < xs.length := by omega
    rw [List.drop_eq_getElem_cons hl]
    simp only [lcGo, all_guard]
    refine ⟨hc _ _ _ (by omega) h0, ?_⟩
    obtain ⟨e', e1, z⟩ := hs i _ acc st (List.getElem?_eq_getElem hl) h0
    unfold lcB
    rw [e1]
    simp only [all_bind]
    have ih := ih
    unfold lcB at ih
    refine all_mono z fun b s z => ?_
    cases b with
    | true =>
      simp only [all_bind, all_ok]
      refine all_mono (z.1 rfl) fun d s z => ?_
      refine all_mono (ih (i + 1) _ s (by omega) z hc hs) fun ds s z => ?_
      simpa using z
    | false =>
      simp only [all_ok]
      refine all_mono (ih (i + 1) _ s (by omega) (z.2 rfl) hc hs) fun ds s z => ?_
      exact z
theorem w_lc {vs : List Nat} {g : CG} {it : CI} {c : CO2} {e : CE} : (ev cl gl w (.lc vs g it c e) env st).all Q ↔ (evI cl gl it env st).all fun p st => p.1.length ≤ sizeLine ∧ (lcGo (lcB cl gl g vs c e env) p.2.ok p.1 st).all fun ds st => Q (.lst ds) st := by
  have h : ev cl gl w (.lc vs g it c e) env st = (evI cl gl it env st).bind fun p st => if p.1.length ≤ sizeLine then (lcGo (lcB cl gl g vs c e env) p.2.ok p.1 st).bind fun ds st => .ok (.lst ds) st else .bad := by
    simp only [ev]
    rfl
  rw [h, all_bind]
  constructor <;> intro h <;> refine all_mono h fun p s z => ?_
  · rw [all_guard, all_bind] at z
    exact ⟨z.1, all_mono z.2 fun ds s z => all_ok.mp z⟩
  · rw [all_guard, all_bind]
    exact ⟨z.1, all_mono z.2 fun ds s z => all_ok.mpr z⟩
/-! ### calls -/
theorem call_all {P : Prog} {n : Nat} {f : String} {args : List D} {cd : CDef} {env : Env} (h : assoc P.defs f = some cd) (hs : cd.start args = some env) (k : (evSs (callF P wf n) (assoc P.glob) wf cd.body env st).all fun o st => match o with
      | .nx _ => Q .non st
      | .ret d => Q d st
      | _ => False) : (callF P wf (n + 1) f args st).all Q := by
  obtain ⟨o, s, e, q⟩ := k
  simp only [callF, h, hs]
  rw [e]
  cases o with
  | nx e => exact ⟨_, _, rfl, q⟩
  | ret d => exact ⟨_, _, rfl, q⟩
  | brk e => exact q.elim
  | cont e => exact q.elim
end
/-! ### what stands in the operators -/
section
variable {st : Store} {Q : D → Store → Prop} {a b : Int}
theorem b_add : (binop .add (.int a) (.int b) st).all Q ↔ Q (.int (a + b)) st := all_ok
theorem b_sub : (binop .sub (.int a) (.int b) st).all Q ↔ Q (.int (a - b)) st := all_ok
theorem b_mul : (binop .mul (.int a) (.int b) st).all Q ↔ mulOk a b = true ∧ Q (.int (a * b)) st := by
  show (if _ then _ else _ : Res D).all Q ↔ _
  rw [all_guard, all_ok]
theorem b_fdiv : (binop .fdiv (.int a) (.int b) st).all Q ↔ (0 < b ∧ b.natAbs.log2 < 9000) ∧ Q (.int (a / b)) st := by
  show (if _ then _ else _ : Res D).all Q ↔ _
  rw [all_guard, all_ok]
theorem b_mod : (binop .mod (.int a) (.int b) st).all Q ↔ 0 < b ∧ Q (.int (a % b)) st := by
  show (if _ then _ else _ : Res D).all Q ↔ _
  rw [all_guard, all_ok]
theorem b_pow : (binop .pow (.int a) (.int b) st).all Q ↔ powOk a b = true ∧ Q (.int (a ^ b.toNat)) st := by
  show (if _ then _ else _ : Res D).all Q ↔ _
  rw [all_guard, all_ok]
theorem c_lt : cmpop .lt (.int a) (.int b) st = some (decide (a < b)) := rfl
theorem c_le : cmpop .le (.int a) (.int b) st = some (decide (a ≤ b)) := rfl
theorem c_gt : cmpop .gt (.int a) (.int b) st = some (decide (b < a)) := rfl
theorem c_ge : cmpop .ge (.int a) (.int b) st = some (decide (b ≤ a)) := rfl
theorem c_eqi : cmpop .eq (.int a) (.int b) st = some (decide (a = b)) := rfl
theorem c_nei : cmpop .ne (.int a) (.int b) st = some (!decide (a = b)) := rfl
theorem c_eqs {x y : Str} : cmpop .eq (.str x) (.str y) st = some (decide (x = y)) := rfl
theorem c_nes {x y : Str} : cmpop .ne (.str x) (.str y) st = some (!decide (x = y)) := rfl
theorem c_eqb {x y : Bool} : cmpop .eq (.bl x) (.bl y) st = some (decide (x = y)) := rfl
theorem at0 {α : Type} {x : α} {r : List α} : atI (x :: r) 0 = some x := by
  unfold atI ixN
  rw [if_pos (Int.le_refl 0), if_pos (by rw [List.length_cons]; omega)]
  rfl
theorem at1 {α : Type} {x y : α} {r : List α} : atI (x :: y :: r) 1 = some y := by
  unfold atI ixN
  rw [if_pos (by decide), if_pos (by simp only [List.length_cons]; omega)]
  rfl
theorem at2 {α : Type} {x y z : α} {r : List α} : atI (x :: y :: z :: r) 2 = some z := by
  unfold atI ixN
  rw [if_pos (by decide), if_pos (by simp only [List.length_cons]; omega)]
  rfl
theorem at3 {α : Type} {x y z u : α} {r : List α} : atI (x :: y :: z :: u :: r) 3 = some u := by
  unfold atI ixN
  rw [if_pos (by decide), if_pos (by simp only [List.length_cons]; omega)]
  rfl
theorem atN {α : Type} {l : List α} {i : Int} (h0 : 0 ≤ i) (h1 : i < l.length) : ∃ h : i.toNat < l.length, atI l i = some (l[i.toNat]) := by
  refine ⟨by omega, ?_⟩
  unfold atI ixN
  rw [if_pos h0, if_pos h1]
  show l[i.toNat]? = _
  exact List.getElem?_eq_getElem _
theorem idx_ref {l : Nat} {xs : List D} {k : Int} (h : st[l]? = some (.lst xs)) : idxop (.ref l) (.int k) st = atI xs k := by
  simp only [idxop, asR, asL, h]
theorem idx_lst {xs : List D} {k : Int} : idxop (.lst xs) (.int k) st = atI xs k := rfl
theorem idx_tup {xs : List D} {k : Int} : idxop (.tup xs) (.int k) st = atI xs k := rfl
theorem put_ref {i l : Nat} {x d : D} {env : Env} {o p : O} (h : env[i]? = some (.v (.ref l))) (h2 : st[l]? = some o) (h3 : setW o x d = some p) : putAt i x d env st = some (env, st.set l p) := by
  simp only [putAt, h, h2, h3, Option.map_some]
theorem put_own {i : Nat} {x d : D} {env : Env} {o p : O} (h : env[i]? = some (.own o)) (h3 : setW o x d = some p) : putAt i x d env st = some (env.set i (.own p), st) := by
  simp only [putAt, h, h3, Option.map_some]
theorem pow_ok {i : Int} {k : Nat} (h : i.natAbs < 2 ^ k) (hk : k < 1000000) : powOk i 3 = true := by
  unfold powOk
  rw [Bool.and_eq_true]
  refine ⟨by decide, decide_eq_true ?_⟩
  unfold Builtin.Int.intBits
  split
  · simp
  · rename_i hz
    have hz : i ≠ 0 := by simpa using hz
    have : i.natAbs.log2 < k := (Nat.log2_lt (by omega)).mpr h
    omega
theorem log2_small {i : Int} (h0 : 0 ≤ i) (h : i < 2 ^ 62) : i.natAbs.log2 < 9000 := by
  by_cases hz : i.natAbs = 0
  · rw [hz]
    decide
  · have : i.natAbs.log2 < 62 := (Nat.log2_lt hz).mpr (by omega)
    omega
theorem mul_small {i j : Int} (h : i.natAbs < 18446744073709551616) : mulOk i j = true := by
  unfold mulOk
  simp [h]
end
end Ev
/-! Ev22: data: equality, membership, repr -/
namespace Ev
open PySem L2 PySem.Spec PyProof.Rows
mutual
/-- data: no store, no dict -/
def okD : D → Bool
  | .non => true
  | .bl _ => true
  | .int _ => true
  | .str s => PyData.strOk s
  | .tup l => okDs l
  | .lst l => okDs l
  | _ => false
def okDs : List D → Bool
  | [] => true
  | x :: r => okD x && okDs r
def pyD : D → PyData
  | .non => .none
  | .bl b => .bool b
  | .int i => .int i
  | .str s => .str s
  | .tup l => .tuple (pyDs l)
  | .lst l => .list (pyDs l)
  | _ => .none
def pyDs : List D → List PyData
  | [] => []
  | x :: r => pyD x :: pyDs r
end
mutual
theorem toP_ok (dr : Nat → Option PyData) : ∀ d : D, okD d = true → toP dr d = some (pyD d)
  | .non, _ => rfl
  | .bl _, _ => rfl
  | .int _, _ => rfl
  | .str _, _ => rfl
  | .tup l, h => by
    simp only [okD] at h
    simp only [toP, toPs_ok dr l h, Option.map_some, pyD]
  | .lst l, h => by
    simp only [okD] at h
    simp only [toP, toPs_ok dr l h, Option.map_some, pyD]
  | .dct _ _, h => by simp [okD] at h
  | .scr _, h => by simp [okD] at h
  | .ref _, h => by simp [okD] at h
theorem toPs_ok (dr : Nat → Option PyData) : ∀ l : List D, okDs l = true → toPs dr l = some (pyDs l)
  | [], _ => rfl
  | x :: r, h => by
    simp only [okDs, Bool.and_eq_true] at h
    simp only [toPs, toP_ok dr x h.1, toPs_ok dr r h.2, pyDs]
end
mutual
theorem can_ok : ∀ d : D, okD d = true → (pyD d).canLay0 = true
  | .non, _ => by simp [pyD, PyData.canLay0]
  | .bl _, _ => by simp [pyD, PyData.canLay0]
  | .int _, _ => by simp [pyD, PyData.canLay0]
  | .str s, h => by
    simp only [okD] at h
    simp only [pyD, PyData.canLay0, h]
  | .tup l, h => by
    simp only [okD] at h
    simp only [pyD, PyData.canLay0, cans_ok l h]
  | .lst l, h => by
    simp only [okD] at h
    simp only [pyD, PyData.canLay0, cans_ok l h]
  | .dct _ _, h => by simp [okD] at h
  | .scr _, h => by simp [okD] at h
  | .ref _, h => by simp [okD] at h
theorem cans_ok : ∀ l : List D, okDs l = true → PyData.canLayAll0 (pyDs l) = true
  | [], _ => by simp [pyDs, PyData.canLayAll0]
  | x :: r, h => by
    simp only [okDs, Bool.and_eq_true] at h
    simp only [pyDs, PyData.canLayAll0, can_ok x h.1, cans_ok r h.2, Bool.and_self]
end
theorem okDs_all {l : List D} (h : ∀ d, d ∈ l → okD d = true) : okDs l = true := by
  induction l with
  | nil => rfl
  | cons x r ih =>
    simp only [okDs, Bool.and_eq_true]
    exact ⟨h x List.mem_cons_self, ih fun d hd => h d (List.mem_cons_of_mem _ hd)⟩
theorem pyDs_map (l : List D) : pyDs l = l.map pyD := by
  induction l with
  | nil => rfl
  | cons x r ih => simp only [pyDs, List.map_cons, ih]
theorem shaped_ok {d : D} (h : okD d = true) (hd : (pyD d).depth ≤ 64) : SeqAt.shaped (pyD d) = true := by
  unfold SeqAt.shaped
  rw [can_ok d h, decide_eq_true hd]
  rfl
theorem depth_all {l : List PyData} {n : Nat} (h : ∀ d, d ∈ l → d.depth ≤ n) : PyData.depthAll l ≤ n := by
  induction l with
  | nil => exact Nat.zero_le _
  | cons x r ih =>
    simp only [PyData.depthAll]
    exact Nat.max_le.mpr ⟨h x List.mem_cons_self, ih fun d hd => h d (List.mem_cons_of_mem _ hd)⟩
theorem weight_all {l : List PyData} {n : Nat} (h : ∀ d, d ∈ l → d.weight ≤ n) : PyData.weightAll l ≤ l.length * (n + 1) := by
  induction l with
  | nil => exact Nat.zero_le _
  | cons x r ih =>
    simp only [PyData.weightAll, List.length_cons]
    have h1 := h x List.mem_cons_self
    have h2 := ih fun d hd => h d (List.mem_cons_of_mem _ hd)
    rw [Nat.add_mul]
    omega
/-- a list of plain things in a slot of the store, read -/
theorem toPy_ref {st : Store} {l : Nat} {ds : List D} (h : st[l]? = some (.lst ds)) (ho : okDs ds = true) : toPy st (.ref l) = some (.list (pyDs ds)) := by
  show dr1 st l = _
  unfold dr1
  rw [h]
  simp only [toPs_ok no0 ds ho, Option.map_some]
theorem toPy_ok {st : Store} {d : D} (h : okD d = true) : toPy st d = some (pyD d) := toP_ok _ d h
theorem repr_all {st : Store} {x : D} {p : PyData} {Q : D → Store → Prop} (h : toPy st x = some p) (h1 : p.showable = true) (h2 : p.shown.length ≤ sizeLine) (h3 : p.depth ≤ 60) (q : Q (.str p.shown) st) : (callB "repr" [x] st).all Q := by
  have e : callB "repr" [x] st = (match toPy st x with
    | some p => if p.showable = true ∧ p.shown.length ≤ sizeLine ∧ p.depth ≤ 60 then .ok (.str p.shown) st else .bad
    | none => .bad) := rfl
  rw [e, h]
  simp only
  rw [all_guard, all_ok]
  exact ⟨⟨h1, h2, h3⟩, q⟩
/-! ### equality of data -/
theorem eqD_ok {st : Store} {x y : D} {p q : PyData} (h1 : toPy st x = some p) (h2 : toPy st y = some q) (h3 : SeqAt.shaped p = true) (h4 : SeqAt.shaped q = true) (h : (∀ a, x ≠ .int a) ∧ (∀ a, x ≠ .str a) ∧ ∀ a, x ≠ .bl a) : eqD st x y = some (PyData.eqv p q) := by
  unfold eqD
  split
  · exact absurd rfl (h.1 _)
  · exact absurd rfl (h.2.1 _)
  · exact absurd rfl (h.2.2 _)
  · rw [h1, h2]
    simp only [h3, h4, and_self, if_true]
theorem c_eq {st : Store} {x y : D} {b : Bool} (h : eqD st x y = some b) : cmpop .eq x y st = some b := by
  unfold cmpop
  split <;> simp_all
theorem c_ne {st : Store} {x y : D} {b : Bool} (h : eqD st x y = some b) : cmpop .ne x y st = some (!b) := by
  unfold cmpop
  split <;> simp_all
theorem sames_refl : ∀ l : List D, D.sames l l = true := by
  intro l
  first
    | exact D.sames_refl l
    | (induction l with
      | nil => rfl
      | cons x r ih => simp_all [D.sames])
/-! ### plain steps -/
section
variable {cl : String → List D → Store → Res D} {gl : String → Option D} {wf : Nat} {w : Bool} {env : Env} {st : Store} {Q : D → Store → Prop}
theorem len_str {k : Str} (h : k.length ≤ sizeLine) : (callB "len" [.str k] st).all Q ↔ Q (.int k.length) st := by
  have e : callB "len" [.str k] st = (ofO (if k.length ≤ sizeLine then some k.length else none) st).bind fun n st => .ok (.int n) st := rfl
  rw [e, if_pos h, all_bind, all_ofO]
  simp only [all_ok, Option.some.injEq, exists_eq_left']
theorem len_lst {l : List D} : (callB "len" [.lst l] st).all Q ↔ Q (.int l.length) st := by
  have e : callB "len" [.lst l] st = (ofO (some l.length) st).bind fun n st => .ok (.int n) st := rfl
  rw [e, all_bind, all_ofO]
  simp only [all_ok, Option.some.injEq, exists_eq_left']
theorem len_tup {l : List D} : (callB "len" [.tup l] st).all Q ↔ Q (.int l.length) st := by
  have e : callB "len" [.tup l] st = (ofO (some l.length) st).bind fun n st => .ok (.int n) st := rfl
  rw [e, all_bind, all_ofO]
  simp only [all_ok, Option.some.injEq, exists_eq_left']
theorem len_scr {l : List Int} : (callB "len" [.scr l] st).all Q ↔ Q (.int l.length) st := by
  have e : callB "len" [.scr l] st = (ofO (some (l.map D.int).length) st).bind fun n st => .ok (.int n) st := rfl
  rw [e, all_bind, all_ofO, List.length_map]
  simp only [all_ok, Option.some.injEq, exists_eq_left']
theorem len_ref {r : Nat} {l : List D} (h : st[r]? = some (.lst l)) : (callB "len" [.ref r] st).all Q ↔ Q (.int l.length) st := by
  have e : callB "len" [.ref r] st = (ofO (some l.length) st).bind fun n st => .ok (.int n) st := by
    have e2 : lenD st (.ref r) = some l.length := by simp only [lenD, asR, asL, h]
    show (ofO (lenD st (.ref r)) st).bind _ = _
    rw [e2]
  rw [e, all_bind, all_ofO]
  simp only [all_ok, Option.some.injEq, exists_eq_left']
theorem f_abs {i : Int} : (callB "abs" [.int i] st).all Q ↔ Q (.int (if i < 0 then -i else i)) st := all_ok
theorem f_max {i j : Int} : (callB "max" [.int i, .int j] st).all Q ↔ Q (.int (if j > i then j else i)) st := all_ok
theorem f_min {i j : Int} : (callB "min" [.int i, .int j] st).all Q ↔ Q (.int (if j < i then j else i)) st := all_ok
theorem f_intb {b : Bool} : (callB "int" [.bl b] st).all Q ↔ Q (.int (if b then 1 else 0)) st := all_ok
theorem f_inti {b : Int} : (callB "int" [.int b] st).all Q ↔ Q (.int b) st := all_ok
theorem f_str {i : Int} : (callB "str" [.int i] st).all Q ↔ i.natAbs.log2 < 1920 ∧ Q (.str (toString i)) st := by
  have e : callB "str" [.int i] st = (if i.natAbs.log2 < 1920 then .ok (.str (toString i)) st else .bad) := rfl
  rw [e, all_guard, all_ok]
theorem f_list {x : D} {l : List D} (h : asR st x = some l) (ht : ∀ l, x ≠ .tup l) : (callB "list" [x] st).all Q ↔ Q (.lst l) st := by
  have e : callB "list" [x] st = .ok (.lst l) st := by
    unfold callB
    cases x with
    | tup q => exact absurd rfl (ht q)
    | str q => cases h
    | _ => simp only [h]
  rw [e, all_ok]
theorem f_list_l {l : List D} : (callB "list" [.lst l] st).all Q ↔ Q (.lst l) st := f_list rfl fun _ z => by cases z
theorem f_list_t {l : List D} : (callB "list" [.tup l] st).all Q ↔ Q (.lst l) st := all_ok
theorem f_list_r {r : Nat} {l : List D} (h : st[r]? = some (.lst l)) : (callB "list" [.ref r] st).all Q ↔ Q (.lst l) st := f_list (by simp only [asR, asL, h]) fun _ z => by cases z
theorem allT {l : List D} (h : ∀ d, d ∈ l → d = .bl true) : Ev.allB l = some true := by
  induction l with
  | nil => rfl
  | cons x r ih =>
    obtain rfl := h x List.mem_cons_self
    show (Ev.allB r).map (fun c => true && c) = _
    rw [ih fun d hd => h d (List.mem_cons_of_mem _ hd)]
    rfl
theorem allF {f : α → Bool} {l : List α} : Ev.allB (l.map fun x => D.bl (f x)) = some (l.all f) := by
  induction l with
  | nil => rfl
  | cons x r ih =>
    show (Ev.allB (r.map fun x => D.bl (f x))).map (fun c => f x && c) = _
    rw [ih]
    rfl
theorem f_all {l : List D} {b : Bool} (h : Ev.allB l = some b) : (callB "all" [.lst l] st).all Q ↔ Q (.bl b) st := by
  have e : callB "all" [.lst l] st = (ofO (Ev.allB l) st).bind fun b st => .ok (.bl b) st := rfl
  rw [e, h, all_bind, all_ofO]
  simp only [all_ok, Option.some.injEq, exists_eq_left']
/-- a comprehension that changes nothing -/
theorem lc_map {vs : List Nat} {g : CG} {it : CI} {e : CE} (f : D → D) {xs : List D} (h1 : (evI cl gl it env st).all fun p s => s = st ∧ p.1 = xs ∧ p.2.ok st = true) (hz : xs.length ≤ sizeLine)
    (h2 : ∀ x, x ∈ xs → ∃ e', assignG g x (wipeE env vs) = some e' ∧ (ev cl gl false e e' st).all fun d s => d = f x ∧ s = st) (q : Q (.lst (xs.map f)) st) : (ev cl gl w (.lc vs g it .no e) env st).all Q := by
  rw [w_lc]
  refine all_mono h1 fun p s hp => ?_
  obtain ⟨rfl, rfl, hc⟩ := hp
  refine ⟨hz, ?_⟩
  have := lc_all (cl := cl) (gl := gl) (env := env) (g := g) (vs := vs) (c := .no) (e := e) (ck := p.2.ok) (xs := p.1) (fun i acc s' => s' = s ∧ acc = (p.1.take i).map f) p.1.length 0 [] s (by simp) ⟨rfl, rfl⟩ (fun j a s' _ h => by rw [h.1]; exact hc) fun j x a s' hx h => ?_
  · rw [List.drop_zero] at this
    refine all_mono this fun ds s' h => ?_
    obtain ⟨rfl, h⟩ := h
    rw [List.take_length, List.nil_append] at h
    rw [h]
    exact q
  · obtain ⟨rfl, rfl⟩ := h
    obtain ⟨e', h3, h4⟩ := h2 x (List.mem_of_getElem? hx)
    refine ⟨e', h3, ?_⟩
    rw [w_cno]
    refine ⟨fun _ => all_mono h4 fun d s h => ?_, fun z => by cases z⟩
    obtain ⟨rfl, rfl⟩ := h
    exact ⟨rfl, by rw [List.take_succ, hx, List.map_append]; rfl⟩
theorem seq_lst {l : List D} : seqI (.lst l) st = some (l, .no) := rfl
theorem seq_str {s : Str} : seqI (.str s) st = some (strL s, .no) := rfl
theorem seq_scr {l : List Int} : seqI (.scr l) st = some (l.map .int, .no) := rfl
theorem seq_ref {r : Nat} {l : List D} (h : st[r]? = some (.lst l)) : seqI (.ref r) st = some (l, .rf r l) := by
  simp only [seqI, h]
theorem ck_no : Chk.no.ok st = true := rfl
theorem ck_rf {r : Nat} {l : List D} (h : st[r]? = some (.lst l)) : (Chk.rf r l).ok st = true := by
  simp only [Chk.ok, h]
  exact D.sames_refl l
theorem in_chr {c : Nat} {z : Str} : inD st (.str ⟨#[c]⟩) (.str z) = some (decide (c ∈ z.cps.toList)) := rfl
theorem c_in {x y : D} {b : Bool} (h : inD st x y = some b) : cmpop .isin x y st = some b := by
  unfold cmpop
  split <;> simp_all
theorem c_notin {x y : D} {b : Bool} (h : inD st x y = some b) : cmpop .notin x y st = some (!b) := by
  unfold cmpop
  split <;> simp_all
/-- x in a list of texts -/
theorem in_strs {k : Str} {l : List Str} : inD st (.str k) (.lst (l.map .str)) = some (decide (k ∈ l)) := by
  have e : inD st (.str k) (.lst (l.map .str)) = (if flatD (.str k) = true ∧ (l.map D.str).all flatD = true then some (inF (.str k) (l.map .str)) else none) := rfl
  have h2 : (l.map D.str).all flatD = true := by
    simp [flatD]
  rw [e, if_pos ⟨rfl, h2⟩]
  congr 1
  induction l with
  | nil => rfl
  | cons x r ih =>
    have ih := ih rfl (by simp [flatD])
    have e1 : inF (.str k) ((x :: r).map .str) = ((x == k) || inF (.str k) (r.map .str)) := rfl
    rw [e1, ih]
    by_cases h : x = k
    · subst h
      simp
    · have h' : k ≠ x := fun z => h z.symm
      simp [h, h']
theorem for0 {g : CG} {b : CSs} {ck : Store → Bool} {QO : Out → Store → Prop} (I : Nat → Env → Store → Prop) {xs : List D} (h0 : I 0 env st) (hc : ∀ j e s, j ≤ xs.length → I j e s → ck s = true)
    (hs : ∀ j x e s, xs[j]? = some x → I j e s → ∃ e', assignG g x e = some e' ∧ (evSs cl gl wf b e' s).all fun o s => match o with
      | .nx e => I (j + 1) e s
      | .cont e => I (j + 1) e s
      | .brk e => QO (.nx e) s
      | .ret d => QO (.ret d) s)
    (he : ∀ e s, I xs.length e s → QO (.nx e) s) : (forGo (assignG g) (fun e s => evSs cl gl wf b e s) ck xs env st).all QO := by
  have := for_all (cl := cl) (gl := gl) (wf := wf) (ck := ck) I 0 env st (Nat.zero_le _) h0 hc hs he
  rw [List.drop_zero] at this
  exact this
theorem pop0 {x : D} {r : List D} (h : (x :: r).length ≤ sizeLine) : mthW "pop" (x :: r) [.int 0] st = some (x, r) := by
  have e : ixN (x :: r).length 0 = some 0 := by
    unfold ixN
    rw [if_pos (by decide), if_pos (by simp only [List.length_cons]; omega)]
    rfl
  have e2 : mthW "pop" (x :: r) [.int 0] st = (match ixN (x :: r).length 0 with
    | some k => match (x :: r)[k]? with
      | some y => if -(2 ^ 63) ≤ (0 : Int) ∧ (0 : Int) < 2 ^ 63 then some (y, (x :: r).eraseIdx k) else none
      | none => none
    | none => none) := rfl
  rw [e2, e]
  show (if -(2 ^ 63) ≤ (0 : Int) ∧ (0 : Int) < 2 ^ 63 then some (x, r) else none) = _
  rw [if_pos (by decide)]
theorem popI {l : List D} {i : Int} {y : D} (h0 : 0 ≤ i) (h1 : i < l.length) (h2 : l.length ≤ sizeLine) (hy : l[i.toNat]? = some y) : mthW "pop" l [.int i] st = some (y, l.eraseIdx i.toNat) := by
  have e : ixN l.length i = some i.toNat := by
    unfold ixN
    rw [if_pos h0, if_pos h1]
  have e2 : mthW "pop" l [.int i] st = (match ixN l.length i with
    | some k => match l[k]? with
      | some y => if -(2 ^ 63) ≤ i ∧ i < 2 ^ 63 then some (y, l.eraseIdx k) else none
      | none => none
    | none => none) := rfl
  have hs : sizeLine = 16777216 := by rw [sizeLine_eq]
  rw [e2, e]
  simp only [hy]
  rw [if_pos (by omega)]
theorem app1 {x : D} {l : List D} (h : l.length < sizeLine) : mthW "append" l [x] st = some (.non, l ++ [x]) := by
  have e2 : mthW "append" l [x] st = (if l.length < sizeLine then some (.non, l ++ [x]) else none) := rfl
  rw [e2, if_pos h]
theorem b_addl {a b : List D} : (binop .add (.lst a) (.lst b) st).all Q ↔ a.length + b.length ≤ sizeLine ∧ Q (.lst (a ++ b)) st := by
  have e : binop .add (.lst a) (.lst b) st = (if a.length + b.length ≤ sizeLine then .ok (.lst (a ++ b)) st else .bad) := rfl
  rw [e, all_guard, all_ok]
theorem b_addlr {a b : List D} {r : Nat} (h : st[r]? = some (.lst b)) : (binop .add (.lst a) (.ref r) st).all Q ↔ a.length + b.length ≤ sizeLine ∧ Q (.lst (a ++ b)) st := by
  have e : binop .add (.lst a) (.ref r) st = (if a.length + b.length ≤ sizeLine then .ok (.lst (a ++ b)) st else .bad) := by
    simp only [binop, asL, h]
  rw [e, all_guard, all_ok]
theorem b_adds {a b : Str} : (binop .add (.str a) (.str b) st).all Q ↔ a.length + b.length ≤ sizeLine ∧ Q (.str (a ++ b)) st := by
  have e : binop .add (.str a) (.str b) st = (if a.length + b.length ≤ sizeLine then .ok (.str (a ++ b)) st else .bad) := rfl
  rw [e, all_guard, all_ok]
theorem b_mull {a : List D} {k : Int} : (binop .mul (.lst a) (.int k) st).all Q ↔ (-(2 ^ 63) ≤ k ∧ k < 2 ^ 63 ∧ a.length * k.toNat ≤ sizeLine) ∧ Q (.lst (List.replicate k.toNat a).flatten) st := by
  have e : binop .mul (.lst a) (.int k) st = (if -(2 ^ 63) ≤ k ∧ k < 2 ^ 63 ∧ a.length * k.toNat ≤ sizeLine then .ok (.lst (List.replicate k.toNat a).flatten) st else .bad) := rfl
  rw [e, all_guard, all_ok]
theorem slc1 {x : D} {r : List D} : slcop (.lst (x :: r)) (some 1) none st = some (.lst r) := by
  have e : slcop (.lst (x :: r)) (some 1) none st = some (.lst (((x :: r).drop (HT.sIx (x :: r).length 0 (some 1))).take (HT.sIx (x :: r).length (x :: r).length none - HT.sIx (x :: r).length 0 (some 1)))) := rfl
  have h1 : HT.sIx (x :: r).length 0 (some 1) = 1 := by
    have h3 := HT.sIx_nat (x :: r).length 0 1
    have h4 : min 1 (x :: r).length = 1 := by
      rw [List.length_cons]
      omega
    rw [h4] at h3
    exact h3
  have h2 : HT.sIx (x :: r).length (x :: r).length none = r.length + 1 := rfl
  rw [e, h1, h2]
  simp
theorem w_mut {cl : String → List D → Store → Res D} {i l : Nat} {m : String} {es : CEs} {o0 : List D} (h : env[i]? = some (.v (.ref l))) (h0 : st[l]? = some (.lst o0)) (k : (evEs cl gl false es env st).all fun ds s => ∃ o, s[l]? = some (.lst o) ∧ ∃ p, mthW m o ds s = some p ∧ Q p.1 (s.set l (.lst p.2))) : (ev cl gl w (.mut m i es) env st).all Q := by
  simp only [ev, h, h0, all_bind]
  refine all_mono k fun ds s z => ?_
  obtain ⟨o, h1, p, h2, q⟩ := z
  rw [h1]
  simp only [all_bind, all_ofO, all_ok]
  exact ⟨p, h2, q⟩
theorem b_muls {a : Str} {k : Int} : (binop .mul (.str a) (.int k) st).all Q ↔ (0 ≤ k ∧ k ≤ 1000 ∧ a.length ≤ 1000) ∧ Q (.str (if k < 1 then Str.empty else if (k == 1 || a.length == 0) = true then a else ⟨(List.replicate k.toNat a.cps).foldl (· ++ ·) #[]⟩)) st := by
  have e : binop .mul (.str a) (.int k) st = (if 0 ≤ k ∧ k ≤ 1000 ∧ a.length ≤ 1000 then .ok (.str (if k < 1 then Str.empty else if (k == 1 || a.length == 0) = true then a else ⟨(List.replicate k.toNat a.cps).foldl (· ++ ·) #[]⟩)) st else .bad) := rfl
  rw [e, all_guard, all_ok]
theorem idx_strE {z : Str} {k : Int} (s2 : Store) : idxop (.str z) (.int k) st = idxop (.str z) (.int k) s2 := rfl
theorem z_setIs {ts : CTs} {es : CEs} {QO : Out → Store → Prop} : (evS cl gl wf (.setIs ts es) env st).all QO ↔ (evEs cl gl false es env st).all fun ds st => (evTs cl gl wf ts ds env st).all QO := by
  simp only [evS, all_bind]
theorem z_tn {QO : Out → Store → Prop} : (evTs cl gl wf .nil [] env st).all QO ↔ QO (.nx env) st := by
  simp only [evTs, all_ok]
theorem z_tc {i : Nat} {k : CE} {r : CTs} {d : D} {q : List D} {QO : Out → Store → Prop} (z : (ev cl gl false k env st).all fun x s => ∃ env' st', putAt i x d env s = some (env', st') ∧ (evTs cl gl wf r q env' st').all QO) : (evTs cl gl wf (.cons i k r) (d :: q) env st).all QO := by
  obtain ⟨x, s, e1, env', st', e2, z⟩ := z
  simp only [evTs]
  unfold putAt at e2
  split at e2
  · rename_i o ho
    rw [Option.map_eq_some_iff] at e2
    obtain ⟨p, hp, e2⟩ := e2
    cases e2
    simp only [ho, all_bind, all_ofO]
    exact ⟨x, _, e1, p, hp, z⟩
  · rename_i l hl
    split at e2
    · rename_i o ho
      rw [Option.map_eq_some_iff] at e2
      obtain ⟨p, hp, e2⟩ := e2
      cases e2
      simp only [hl, all_bind]
      refine ⟨x, _, e1, ?_⟩
      simp only [ho, all_bind, all_ofO]
      exact ⟨p, hp, z⟩
    · cases e2
  · cases e2
theorem setW_lst {l : List D} {i : Int} {d : D} (h0 : 0 ≤ i) (h1 : i < l.length) : setW (.lst l) (.int i) d = some (.lst (l.set i.toNat d)) := by
  show (ixN l.length i).map (fun j => O.lst (l.set j d)) = _
  have e : ixN l.length i = some i.toNat := by
    unfold ixN
    rw [if_pos h0, if_pos h1]
  rw [e]
  rfl
theorem insI {l : List D} {i : Int} {x : D} (h0 : 0 ≤ i) (h1 : i < 2 ^ 63) (h : l.length < sizeLine) : mthW "insert" l [.int i, x] st = some (.non, l.take i.toNat ++ [x] ++ l.drop i.toNat) := by
  have e2 : mthW "insert" l [.int i, x] st = (if l.length < sizeLine ∧ 0 ≤ i ∧ i < 2 ^ 63 then some (.non, l.take i.toNat ++ [x] ++ l.drop i.toNat) else none) := rfl
  rw [e2, if_pos ⟨h, h0, h1⟩]
theorem map_eraseI {α β : Type} (f : α → β) : ∀ (l : List α) (i : Nat), (l.map f).eraseIdx i = (l.eraseIdx i).map f
  | [], _ => rfl
  | x :: r, 0 => rfl
  | x :: r, i + 1 => congrArg (f x :: ·) (map_eraseI f r i)
theorem map_setI {α β : Type} (f : α → β) : ∀ (l : List α) (i : Nat) (a : α), (l.map f).set i (f a) = (l.set i a).map f
  | [], _, _ => rfl
  | x :: r, 0, a => rfl
  | x :: r, i + 1, a => congrArg (f x :: ·) (map_setI f r i a)
end
end Ev
/-! Ev23: dicts -/
namespace Ev
open PySem L2 PySem.Spec PyProof.Rows
theorem look_map {l : List (D × D)} {k v k2 : D} : lookK (l.map fun p => if p.1 = k then (p.1, v) else p) k2 = if k2 = k then (lookK l k).map fun _ => v else lookK l k2 := by
  induction l with
  | nil => by_cases h : k2 = k <;> simp [lookK, h]
  | cons p r ih =>
    obtain ⟨a, b⟩ := p
    by_cases ha : a = k
    · subst ha
      by_cases h : k2 = a
      · subst h
        simp [lookK]
      · have h' : ¬ a = k2 := fun z => h z.symm
        simp only [List.map_cons, if_true, lookK, h', if_false, ih, h]
    · by_cases h : a = k2
      · subst h
        simp [lookK, ha]
      · simp only [List.map_cons, ha, if_false, lookK, h, ih]
theorem look_app {l : List (D × D)} {k v k2 : D} : lookK (l ++ [(k, v)]) k2 = match lookK l k2 with
    | some x => some x
    | none => if k2 = k then some v else none := by
  induction l with
  | nil =>
    by_cases h : k2 = k
    · simp [lookK, h]
    · have h' : ¬ k = k2 := fun z => h z.symm
      simp [lookK, h, h']
  | cons p r ih =>
    obtain ⟨a, b⟩ := p
    by_cases h : a = k2
    · simp [lookK, h]
    · simp only [List.cons_append, lookK, h, if_false, ih]
theorem look_none {l : List (D × D)} {k : D} (h : (l.any fun p => decide (p.1 = k)) = false) : lookK l k = none := by
  induction l with
  | nil => rfl
  | cons p r ih =>
    obtain ⟨a, b⟩ := p
    simp only [List.any_cons, Bool.or_eq_false_iff, decide_eq_false_iff_not] at h
    simp only [lookK, h.1, if_false, ih h.2]
theorem look_some {l : List (D × D)} {k : D} (h : (l.any fun p => decide (p.1 = k)) = true) : ∃ x, lookK l k = some x := by
  induction l with
  | nil => cases h
  | cons p r ih =>
    obtain ⟨a, b⟩ := p
    by_cases ha : a = k
    · exact ⟨b, by simp [lookK, ha]⟩
    · simp only [List.any_cons, ha, decide_false, Bool.false_or] at h
      obtain ⟨x, hx⟩ := ih h
      exact ⟨x, by simp only [lookK, ha, if_false, hx]⟩
/-- a dict behind a store -/
theorem look_put {l : List (D × D)} {k v k2 : D} : lookK (putD l k v) k2 = if k2 = k then some v else lookK l k2 := by
  unfold putD
  split
  · rename_i h
    obtain ⟨x, hx⟩ := look_some h
    rw [look_map, hx]
    rfl
  · rename_i h
    have hn : lookK l k = none := look_none (Bool.eq_false_iff.mpr h)
    rw [look_app]
    by_cases hk : k2 = k
    · subst hk
      rw [hn]
    · rw [if_neg hk, if_neg hk]
      cases lookK l k2 <;> rfl
section
variable {cl : String → List D → Store → Res D} {gl : String → Option D} {w : Bool} {env : Env} {st : Store} {Q : D → Store → Prop}
theorem w_mth {m : String} {a : CE} {es : CEs} : (ev cl gl w (.mth m a es) env st).all Q ↔ (ev cl gl true a env st).all fun x st => mthP m x st = true ∧ (evEs cl gl false es env st).all fun ds st => ∃ d, mthR m x ds st = some d ∧ Q d st := by
  simp only [ev, all_bind, all_guard, all_ofO]
theorem get_own {l : List (D × D)} {k : Str} : mthR "get" (.dct false l) [.str k] st = some ((lookK l (.str k)).getD .non) := rfl
theorem setW_dct {l : List (D × D)} {k : Str} {v : D} (h : l.length < sizeLine) : setW (.dct false l) (.str k) v = some (.dct false (putD l (.str k) v)) := by
  show (if keyOk false (.str k) = true ∧ l.length < sizeLine then some (O.dct false (putD l (.str k) v)) else none) = _
  rw [if_pos ⟨rfl, h⟩]
theorem putD_len {l : List (D × D)} {k v : D} : (putD l k v).length ≤ l.length + 1 := by
  unfold putD
  split
  · rw [List.length_map]
    exact Nat.le_succ _
  · rw [List.length_append]
    exact Nat.le_refl _
end
/-! ### instances -/
section
variable {cl : String → List D → Store → Res D} {gl : String → Option D} {wf : Nat} {w : Bool} {env : Env} {st : Store} {Q : D → Store → Prop} {QO : Out → Store → Prop}
theorem w_fld {a : CE} {f : String} : (ev cl gl w (.fld a f) env st).all Q ↔ (ev cl gl false a env st).all fun x s => ∃ l, x = .ref l ∧ ∃ c fs, s[l]? = some (.ins c fs) ∧ ∃ d, assoc fs f = some d ∧ Q d s := by
  simp only [ev, all_bind]
  constructor <;> intro h <;> refine all_mono h fun x s z => ?_
  · split at z
    · rename_i l
      split at z
      · rename_i c fs h1
        rw [all_ofO] at z
        obtain ⟨d, h2, z⟩ := z
        exact ⟨l, rfl, c, fs, h1, d, h2, z⟩
      · exact (all_bad.mp z).elim
    · exact (all_bad.mp z).elim
  · obtain ⟨l, rfl, c, fs, h1, d, h2, z⟩ := z
    simp only [h1]
    exact all_ofO.mpr ⟨d, h2, z⟩
theorem w_meth {cs : List String} {m : String} {a : CE} {es : CEs} : (ev cl gl w (.meth cs m a es) env st).all Q ↔ (ev cl gl false a env st).all fun x s => ∃ l, x = .ref l ∧ ∃ c fs, s[l]? = some (.ins c fs) ∧ (cs.contains c = true ∧ assoc fs m = none) ∧ (evEs cl gl false es env s).all fun ds s => (cl (c ++ "." ++ m) (.ref l :: ds) s).all Q := by
  simp only [ev, all_bind]
  constructor <;> intro h <;> refine all_mono h fun x s z => ?_
  · split at z
    · rename_i l
      split at z
      · rename_i c fs h1
        rw [all_guard] at z
        obtain ⟨h2, z⟩ := z
        rw [all_bind] at z
        exact ⟨l, rfl, c, fs, h1, h2, z⟩
      · exact (all_bad.mp z).elim
    · exact (all_bad.mp z).elim
  · obtain ⟨l, rfl, c, fs, h1, h2, z⟩ := z
    simp only [h1]
    rw [all_guard, all_bind]
    exact ⟨h2, z⟩
theorem w_setd {a k : CE} : (ev cl gl w (.setd a k) env st).all Q ↔ (ev cl gl false a env st).all fun x s => ∃ l, x = .ref l ∧ ∃ t0 l0, s[l]? = some (.dct t0 l0) ∧ (ev cl gl false k env s).all fun y s => ∃ kvs, s[l]? = some (.dct false kvs) ∧ (keyOk false y = true ∧ kvs.length < sizeLine) ∧
    ((∃ d, lookK kvs y = some d ∧ Q d s) ∨ (lookK kvs y = none ∧ Q (.ref s.length) ((s ++ [O.lst []]).set l (.dct false (putD kvs y (.ref s.length)))))) := by
  simp only [ev, all_bind]
  constructor <;> intro h <;> refine all_mono h fun x s z => ?_
  · split at z
    · rename_i l
      split at z
      · rename_i t0 l0 h1
        rw [all_bind] at z
        refine ⟨l, rfl, t0, l0, h1, all_mono z fun y s2 z => ?_⟩
        split at z
        · rename_i t kvs h2
          rw [all_guard] at z
          obtain ⟨⟨rfl, h3⟩, z⟩ := z
          refine ⟨kvs, h2, h3, ?_⟩
          split at z
          · rename_i d hd
            exact .inl ⟨d, hd, all_ok.mp z⟩
          · rename_i hd
            exact .inr ⟨hd, all_ok.mp z⟩
        · exact (all_bad.mp z).elim
      · exact (all_bad.mp z).elim
    · exact (all_bad.mp z).elim
  · obtain ⟨l, rfl, t0, l0, h1, z⟩ := z
    simp only [h1]
    rw [all_bind]
    refine all_mono z fun y s2 z => ?_
    obtain ⟨kvs, h2, h3, z⟩ := z
    simp only [h2]
    rw [all_guard]
    refine ⟨⟨trivial, h3⟩, ?_⟩
    rcases z with ⟨d, hd, z⟩ | ⟨hd, z⟩
    · simp only [hd]
      exact all_ok.mpr z
    · simp only [hd]
      exact all_ok.mpr z
theorem w_dcp {a : CE} : (ev cl gl w (.dcp a) env st).all Q ↔ (ev cl gl true a env st).all fun x s => ∃ l, asL s x = some l ∧ ∃ ps, pairsD l = some ps ∧ Q (.dct false (mergeD [] ps)) s := by
  simp only [ev, all_bind]
  constructor <;> intro h <;> refine all_mono h fun x s z => ?_
  · split at z
    · rename_i l h1
      rw [all_bind, all_ofO] at z
      obtain ⟨ps, h2, z⟩ := z
      exact ⟨l, h1, ps, h2, all_ok.mp z⟩
    · exact (all_bad.mp z).elim
  · obtain ⟨l, h1, ps, h2, z⟩ := z
    simp only [h1, all_bind, all_ofO]
    exact ⟨ps, h2, all_ok.mpr z⟩
theorem f_sortedK {l : List (D × D)} {ks : List Str} (h : allS (l.map (·.1)) = some ks) (hz : ks.length < 64) : (callB "sorted" [.dct false l] st).all Q ↔ Q (.lst ((sortS ks).map .str)) st := by
  have e : callB "sorted" [.dct false l] st = .ok (.lst ((sortS ks).map .str)) st := by
    have h1 : asR st (.dct false l) = none := rfl
    have h2 : asK st (.dct false l) = some (false, l) := rfl
    unfold callB
    simp only [h1, h2, h, hz, if_true]
  rw [e, all_ok]
theorem w_mkI {c : String} {es : CEs} : (ev cl gl w (.mkI c es) env st).all Q ↔ (evEs cl gl false es env st).all fun ds s => (cl (c ++ ".__init__") (.ref s.length :: ds) (s ++ [.ins c []])).all fun d s2 => d = .non ∧ Q (.ref s.length) s2 := by
  simp only [ev, all_bind]
  constructor <;> intro h <;> refine all_mono h fun ds s z => all_mono z fun d s2 z => ?_
  · split at z
    · exact ⟨rfl, all_ok.mp z⟩
    · exact (all_bad.mp z).elim
  · obtain ⟨rfl, z⟩ := z
    exact all_ok.mpr z
theorem z_setX {a k e : CE} : (evS cl gl wf (.setX a k e) env st).all QO ↔ (ev cl gl false e env st).all fun d s => (ev cl gl false a env s).all fun x s => (ev cl gl false k env s).all fun y s => ∃ l, x = .ref l ∧ ∃ o, s[l]? = some o ∧ ∃ p, setW o y d = some p ∧ QO (.nx env) (s.set l p) := by
  simp only [evS, all_bind]
  constructor <;> intro h <;> refine all_mono h fun d s z => all_mono z fun x s z => all_mono z fun y s z => ?_
  · split at z
    · rename_i l _
      split at z
      · rename_i o h1
        simp only [all_bind, all_ofO, all_ok] at z
        obtain ⟨p, h2, z⟩ := z
        exact ⟨l, rfl, o, h1, p, h2, z⟩
      · exact (all_bad.mp z).elim
    · exact (all_bad.mp z).elim
  · obtain ⟨l, rfl, o, h1, p, h2, z⟩ := z
    simp only [h1, all_bind, all_ofO, all_ok]
    exact ⟨p, h2, z⟩
theorem z_setF {fr : Bool} {c f : String} {a e : CE} : (evS cl gl wf (.setF fr c a f e) env st).all QO ↔ (ev cl gl false e env st).all fun d s0 => (ev cl gl false a env (stoV fr d s0).2).all fun x s => ∃ l, x = .ref l ∧ ∃ c' fs, s[l]? = some (.ins c' fs) ∧ (c' = c ∧ fs.length < 900) ∧ QO (.nx env) (s.set l (.ins c' (putA fs f (stoV fr d s0).1))) := by
  simp only [evS, all_bind]
  constructor <;> intro h <;> refine all_mono h fun d s0 z => all_mono z fun x s z => ?_
  · split at z
    · rename_i l
      split at z
      · rename_i c' fs h1
        rw [all_guard, all_ok] at z
        exact ⟨l, rfl, c', fs, h1, z.1, z.2⟩
      · exact (all_bad.mp z).elim
    · exact (all_bad.mp z).elim
  · obtain ⟨l, rfl, c', fs, h1, h2, z⟩ := z
    simp only [h1]
    rw [all_guard, all_ok]
    exact ⟨h2, z⟩
end
end Ev
/-! EvL: loops over ranges and typed lists, equations of calls, reprs -/
namespace Ev
open PySem L2 PySem.Spec PyProof.Rows
section
variable {cl : String → List D → Store → Res D} {gl : String → Option D} {wf : Nat} {w : Bool} {env : Env} {st : Store}
theorem eq_of_all {α : Type} {r : Res α} {a : α} {s : Store} (h : r.all fun x y => x = a ∧ y = s) : r = .ok a s := by
  obtain ⟨x, y, e, rfl, rfl⟩ := h
  exact e
theorem all_of_eq {α : Type} {r : Res α} {a : α} {s : Store} {Q : α → Store → Prop} (h : r = .ok a s) : r.all Q ↔ Q a s := by
  rw [h, all_ok]
/-- what is wanted behind a turn -/
def lpK (I : Env → Store → Prop) (QO : Out → Store → Prop) (o : Out) (s : Store) : Prop := match o with
  | .nx e => I e s
  | .cont e => I e s
  | .brk e => QO (.nx e) s
  | .ret d => QO (.ret d) s
theorem for_i {g : CG} {b : CSs} {ck : Store → Bool} {QO : Out → Store → Prop} (I : Nat → Env → Store → Prop) {xs : List D} (h0 : I 0 env st) (hc : ∀ j e s, j ≤ xs.length → I j e s → ck s = true)
    (hs : ∀ j x e s, xs[j]? = some x → I j e s → ∃ e', assignG g x e = some e' ∧ (evSs cl gl wf b e' s).all (lpK (I (j + 1)) QO)) (he : ∀ e s, I xs.length e s → QO (.nx e) s) :
    (forGo (assignG g) (fun e s => evSs cl gl wf b e s) ck xs env st).all QO := for0 I h0 hc (fun j x e s hx hi => by
      obtain ⟨e', e1, z⟩ := hs j x e s hx hi
      exact ⟨e', e1, all_mono z fun o s q => by cases o <;> exact q⟩) he
theorem rngL_get {lo : Int} {n j : Nat} {d : D} (h : (rngL lo n)[j]? = some d) : j < n ∧ d = .int (lo + (j : Nat)) := by
  simp only [rngL, List.getElem?_map, Option.map_eq_some_iff] at h
  obtain ⟨i, hi, rfl⟩ := h
  obtain ⟨h1, h2⟩ := List.getElem?_eq_some_iff.mp hi
  simp at h1 h2
  exact ⟨h1, by rw [h2]⟩
theorem rngDn_get {lo : Int} {n j : Nat} {d : D} (h : (rngDn lo n)[j]? = some d) : j < n ∧ d = .int (lo - (j : Nat)) := by
  simp only [rngDn, List.getElem?_map, Option.map_eq_some_iff] at h
  obtain ⟨i, hi, rfl⟩ := h
  obtain ⟨h1, h2⟩ := List.getElem?_eq_some_iff.mp hi
  simp at h1 h2
  exact ⟨h1, by rw [h2]⟩
theorem rngL_length {lo : Int} {n : Nat} : (rngL lo n).length = n := by simp [rngL]
theorem rngDn_length {lo : Int} {n : Nat} : (rngDn lo n).length = n := by simp [rngDn]
theorem for_rng {g : CG} {b : CSs} {QO : Out → Store → Prop} {lo : Int} {n : Nat} (I : Nat → Env → Store → Prop) (h0 : I 0 env st)
    (hs : ∀ j e s, j < n → I j e s → ∃ e', assignG g (.int (lo + (j : Nat))) e = some e' ∧ (evSs cl gl wf b e' s).all (lpK (I (j + 1)) QO)) (he : ∀ e s, I n e s → QO (.nx e) s) :
    (forGo (assignG g) (fun e s => evSs cl gl wf b e s) Chk.no.ok (rngL lo n) env st).all QO := for_i I h0 (fun _ _ _ _ _ => rfl) (fun j x e s hx hi => by
      obtain ⟨h1, rfl⟩ := rngL_get hx
      exact hs j e s h1 hi) (fun e s h => he e s (by rw [rngL_length] at h; exact h))
theorem for_dn {g : CG} {b : CSs} {QO : Out → Store → Prop} {lo : Int} {n : Nat} (I : Nat → Env → Store → Prop) (h0 : I 0 env st)
    (hs : ∀ j e s, j < n → I j e s → ∃ e', assignG g (.int (lo - (j : Nat))) e = some e' ∧ (evSs cl gl wf b e' s).all (lpK (I (j + 1)) QO)) (he : ∀ e s, I n e s → QO (.nx e) s) :
    (forGo (assignG g) (fun e s => evSs cl gl wf b e s) Chk.no.ok (rngDn lo n) env st).all QO := for_i I h0 (fun _ _ _ _ _ => rfl) (fun j x e s hx hi => by
      obtain ⟨h1, rfl⟩ := rngDn_get hx
      exact hs j e s h1 hi) (fun e s h => he e s (by rw [rngDn_length] at h; exact h))
theorem for_map {α : Type} {f : α → D} {g : CG} {b : CSs} {ck : Store → Bool} {QO : Out → Store → Prop} {l : List α} (I : Nat → Env → Store → Prop) (h0 : I 0 env st) (hc : ∀ j e s, j ≤ l.length → I j e s → ck s = true)
    (hs : ∀ j a e s, l[j]? = some a → I j e s → ∃ e', assignG g (f a) e = some e' ∧ (evSs cl gl wf b e' s).all (lpK (I (j + 1)) QO)) (he : ∀ e s, I l.length e s → QO (.nx e) s) :
    (forGo (assignG g) (fun e s => evSs cl gl wf b e s) ck (l.map f) env st).all QO := for_i I h0 (fun j e s hj => hc j e s (by rw [List.length_map] at hj; exact hj)) (fun j x e s hx hi => by
      rw [List.getElem?_map, Option.map_eq_some_iff] at hx
      obtain ⟨a, ha, rfl⟩ := hx
      exact hs j a e s ha hi) (fun e s h => he e s (by rw [List.length_map] at h; exact h))
theorem for_enum {α : Type} {f : α → D} {g : CG} {b : CSs} {ck : Store → Bool} {QO : Out → Store → Prop} {l : List α} (I : Nat → Env → Store → Prop) (h0 : I 0 env st) (hc : ∀ j e s, j ≤ l.length → I j e s → ck s = true)
    (hs : ∀ j a e s, l[j]? = some a → I j e s → ∃ e', assignG g (.tup [.int (j : Nat), f a]) e = some e' ∧ (evSs cl gl wf b e' s).all (lpK (I (j + 1)) QO)) (he : ∀ e s, I l.length e s → QO (.nx e) s) :
    (forGo (assignG g) (fun e s => evSs cl gl wf b e s) ck (enumL 0 (l.map f)) env st).all QO := for_i I h0 (fun j e s hj => hc j e s (by rw [enumL_len, List.length_map] at hj; exact hj)) (fun j x e s hx hi => by
      obtain ⟨y, hy, rfl⟩ := enumL_get hx
      rw [List.getElem?_map, Option.map_eq_some_iff] at hy
      obtain ⟨a, ha, rfl⟩ := hy
      rw [Nat.zero_add]
      exact hs j a e s ha hi) (fun e s h => he e s (by rw [enumL_len, List.length_map] at h; exact h))
theorem w_rngD {QP : List D × Chk → Store → Prop} {a b : CE} : (evI cl gl (.rngD a b) env st).all QP ↔ (ev cl gl false a env st).all fun x st => (ev cl gl false b env st).all fun y st => ∃ m n, x = .int m ∧ y = .int n ∧ in62 m = true ∧ in62 n = true ∧ QP (rngDn m (m - n).toNat, .no) st := by
  simp only [evI, all_bind]
  constructor <;> intro h <;> refine all_mono h fun x s h => all_mono h fun y s z => ?_
  · split at z
    · rw [all_guard, all_ok] at z
      exact ⟨_, _, rfl, rfl, z.1.1, z.1.2, z.2⟩
    · exact (all_bad.mp z).elim
  · obtain ⟨i, j, rfl, rfl, q1, q2, q⟩ := z
    exact all_guard.mpr ⟨⟨q1, q2⟩, all_ok.mpr q⟩
theorem in62_ok {i : Int} (h0 : -(2 ^ 62) ≤ i) (h1 : i < 2 ^ 62) : in62 i = true := by
  unfold in62
  rw [Bool.and_eq_true]
  exact ⟨decide_eq_true h0, decide_eq_true h1⟩
theorem c_isN {x : D} : cmpop .is x .non st = some (decide (x = .non)) := by cases x <;> rfl
theorem c_isnotN {x : D} : cmpop .isnot x .non st = some (!decide (x = .non)) := by cases x <;> rfl
theorem atN' {α : Type} {l : List α} {i : Int} {a : α} (h0 : 0 ≤ i) (h : l[i.toNat]? = some a) : atI l i = some a := by
  have h1 := (List.getElem?_eq_some_iff.mp h).1
  obtain ⟨h2, e⟩ := atN (l := l) h0 (by omega)
  rw [e]
  rw [List.getElem?_eq_getElem h2] at h
  exact h
theorem atC {α : Type} {l : List α} {i : Nat} {a : α} (h : l[i]? = some a) : atI l (i : Int) = some a := atN' (by omega) (by simpa using h)
end
/-! ### reprs -/
/-- data that repr and == take: weight at most c, depth at most k -/
structure Rp (c k : Nat) (d : D) : Prop where
  ok : okD d = true
  ls : (pyD d).leavesShort 64 = true
  sh : (pyD d).showable = true
  wt : (pyD d).weight ≤ c
  dp : (pyD d).depth ≤ k
structure Rps (c k : Nat) (l : List D) : Prop where
  ok : okDs l = true
  ls : PyData.leavesShortAll 64 (pyDs l) = true
  sh : PyData.showableAll (pyDs l) = true
  wt : PyData.weightAll (pyDs l) ≤ c
  dp : PyData.depthAll (pyDs l) ≤ k
theorem Rp.mono {c k c' k' : Nat} {d : D} (h : Rp c k d) (hc : c ≤ c') (hk : k ≤ k') : Rp c' k' d := ⟨h.ok, h.ls, h.sh, Nat.le_trans h.wt hc, Nat.le_trans h.dp hk⟩
theorem Rps.mono {c k c' k' : Nat} {d : List D} (h : Rps c k d) (hc : c ≤ c') (hk : k ≤ k') : Rps c' k' d := ⟨h.ok, h.ls, h.sh, Nat.le_trans h.wt hc, Nat.le_trans h.dp hk⟩
theorem Rp.non : Rp 0 0 .non := ⟨rfl, rfl, rfl, by simp [pyD, PyData.weight], by simp [pyD, PyData.depth]⟩
theorem Rp.bl {b : Bool} : Rp 0 0 (.bl b) := ⟨rfl, rfl, rfl, by simp [pyD, PyData.weight], by simp [pyD, PyData.depth]⟩
theorem Rp.int {i : Int} (h : i.natAbs < 2 ^ 120) : Rp 120 0 (.int i) := by
  have h1 : i.natAbs ≠ 0 → i.natAbs.log2 < 120 := fun hz => (Nat.log2_lt hz).mpr h
  have h2 : i.natAbs.log2 < 120 := by
    by_cases hz : i.natAbs = 0
    · rw [hz]
      decide
    · exact h1 hz
  refine ⟨rfl, ?_, ?_, ?_, by simp [pyD, PyData.depth]⟩
  · simp only [pyD, PyData.leavesShort, decide_eq_true_eq]
    have : (toString i).length ≤ 37 + 1 := int_text_length_le10 (by decide) (Nat.lt_trans h (by decide))
    show (Str.ofString (toString i)).length ≤ 64
    have e : (Str.ofString (toString i)).length = (toString i).length := PySem.ofString_length _
    omega
  · simp only [pyD, PyData.showable, decide_eq_true_eq]
    omega
  · simp only [pyD, PyData.weight]
    split <;> omega
theorem Rp.str {s : Str} {n : Nat} (h : PyData.strOk s = true) (hn : s.length ≤ n) : Rp n 0 (.str s) := by
  refine ⟨h, ?_, rfl, hn, by simp [pyD, PyData.depth]⟩
  simp only [pyD, PyData.leavesShort, List.all_eq_true, decide_eq_true_eq]
  intro c hc
  have h0 : s.cps.all (· < 0x110000) = true := h
  have := (Array.all_eq_true_iff_forall_mem.mp h0) c (Array.mem_toList_iff.mp hc)
  have h2 : c < 0x110000 := by simpa using this
  have e : (16 : Nat) ^ 8 = 4294967296 := by decide
  omega
theorem Rps.nil : Rps 0 0 [] := ⟨rfl, rfl, rfl, by simp [pyDs, PyData.weightAll], by simp [pyDs, PyData.depthAll]⟩
theorem Rps.cons {c1 c2 k1 k2 : Nat} {d : D} {l : List D} (h : Rp c1 k1 d) (t : Rps c2 k2 l) : Rps (c1 + 1 + c2) (max k1 k2) (d :: l) := by
  refine ⟨?_, ?_, ?_, ?_, ?_⟩
  · simp only [okDs, h.ok, t.ok, Bool.and_self]
  · simp only [pyDs, PyData.leavesShortAll, h.ls, t.ls, Bool.and_self]
  · simp only [pyDs, PyData.showableAll, h.sh, t.sh, Bool.and_self]
  · simp only [pyDs, PyData.weightAll]
    have := h.wt
    have := t.wt
    omega
  · simp only [pyDs, PyData.depthAll]
    have := h.dp
    have := t.dp
    omega
theorem Rps.all {c k : Nat} : ∀ {l : List D} {n : Nat}, (∀ x, x ∈ l → Rp c k x) → l.length ≤ n → Rps (n * (c + 1)) k l
  | [], n, _, _ => Rps.nil.mono (Nat.zero_le _) (Nat.zero_le _)
  | x :: r, 0, _, h => by simp at h
  | x :: r, n + 1, h, hl => by
    have h1 := h x List.mem_cons_self
    have h2 := Rps.all (l := r) (n := n) (fun y hy => h y (List.mem_cons_of_mem _ hy)) (by simp at hl; omega)
    refine (Rps.cons h1 h2).mono ?_ (by omega)
    rw [Nat.add_mul]
    omega
theorem Rp.lst {c k : Nat} {l : List D} (h : Rps c k l) : Rp c (k + 1) (.lst l) := by
  refine ⟨h.ok, ?_, ?_, ?_, ?_⟩
  · simpa only [pyD, PyData.leavesShort] using h.ls
  · simpa only [pyD, PyData.showable] using h.sh
  · simpa only [pyD, PyData.weight] using h.wt
  · simp only [pyD, PyData.depth]
    exact Nat.succ_le_succ h.dp
theorem Rp.tup {c k : Nat} {l : List D} (h : Rps c k l) : Rp c (k + 1) (.tup l) := by
  refine ⟨h.ok, ?_, ?_, ?_, ?_⟩
  · simpa only [pyD, PyData.leavesShort] using h.ls
  · simpa only [pyD, PyData.showable] using h.sh
  · simpa only [pyD, PyData.weight] using h.wt
  · simp only [pyD, PyData.depth]
    exact Nat.succ_le_succ h.dp
def rep (d : D) : Str := (pyD d).shown
theorem rp_fits {c k : Nat} {d : D} (h : Rp c k d) (hc : c ≤ 200000) : (rep d).length ≤ sizeLine := by
  have h1 := PyData.shown_le 64 (by decide) _ h.ls
  have h2 : (64 + 2) * (pyD d).weight ≤ 66 * 200000 := Nat.mul_le_mul (by decide) (Nat.le_trans h.wt hc)
  rw [sizeLine_eq]
  show (pyD d).shown.length ≤ _
  omega
section
variable {st : Store} {Q : D → Store → Prop}
theorem f_repr {c k : Nat} {d : D} (h : Rp c k d) (hc : c ≤ 200000) (hk : k ≤ 60) : (callB "repr" [d] st).all Q ↔ Q (.str (rep d)) st := by
  have e : callB "repr" [d] st = .ok (.str (rep d)) st := by
    have h1 : toPy st d = some (pyD d) := toPy_ok h.ok
    have h2 : (pyD d).showable = true ∧ (pyD d).shown.length ≤ sizeLine ∧ (pyD d).depth ≤ 60 := ⟨h.sh, rp_fits h hc, Nat.le_trans h.dp hk⟩
    show (match toPy st d with
      | some p => if p.showable = true ∧ p.shown.length ≤ sizeLine ∧ p.depth ≤ 60 then .ok (.str p.shown) st else .bad
      | none => .bad : Res D) = _
    rw [h1]
    simp only [h2, and_self, if_true]
    rfl
  rw [e, all_ok]
theorem f_repr_ref {c k r : Nat} {l : List D} (hr : st[r]? = some (.lst l)) (h : Rp c k (.lst l)) (hc : c ≤ 200000) (hk : k ≤ 60) : (callB "repr" [.ref r] st).all Q ↔ Q (.str (rep (.lst l))) st := by
  have e : callB "repr" [.ref r] st = .ok (.str (rep (.lst l))) st := by
    have h1 : toPy st (.ref r) = some (pyD (.lst l)) := toPy_ref hr h.ok
    have h2 : (pyD (.lst l)).showable = true ∧ (pyD (.lst l)).shown.length ≤ sizeLine ∧ (pyD (.lst l)).depth ≤ 60 := ⟨h.sh, rp_fits h hc, Nat.le_trans h.dp hk⟩
    show (match toPy st (.ref r) with
      | some p => if p.showable = true ∧ p.shown.length ≤ sizeLine ∧ p.depth ≤ 60 then .ok (.str p.shown) st else .bad
      | none => .bad : Res D) = _
    rw [h1]
    simp only [h2, and_self, if_true]
    rfl
  rw [e, all_ok]
theorem c_eqR {c k c' k' : Nat} {x y : D} (hx : Rp c k x) (hy : Rp c' k' y) (hk : k ≤ 64) (hk' : k' ≤ 64) (h : (∀ a, x ≠ .int a) ∧ (∀ a, x ≠ .str a) ∧ ∀ a, x ≠ .bl a) : cmpop .eq x y st = some (PyData.eqv (pyD x) (pyD y)) :=
  c_eq (eqD_ok (toPy_ok hx.ok) (toPy_ok hy.ok) (shaped_ok hx.ok (Nat.le_trans hx.dp hk)) (shaped_ok hy.ok (Nat.le_trans hy.dp hk')) h)
theorem eqv_self {c k : Nat} {x : D} (hx : Rp c k x) : PyData.eqv (pyD x) (pyD x) = true := SeqAt.eqv_refl _ (can_ok _ hx.ok)
end
/-! ### stores to the frame's things, by the simplifier -/
section
variable {cl : String → List D → Store → Res D} {gl : String → Option D} {wf : Nat} {w : Bool} {env : Env} {st : Store} {QO : Out → Store → Prop}
def mcK (cl : String → List D → Store → Res D) (gl : String → Option D) (m : String) (i : Nat) (es : CEs) (env : Env) (st : Store) (QO : Out → Store → Prop) : Option EV → Prop
  | some (.own (.lst o)) => (evEs cl gl false es env st).all fun ds st => ∃ p, mthW m o ds st = some p ∧ QO (.nx (env.set i (.own (.lst p.2)))) st
  | some (.v (.ref l)) => (evEs cl gl false es env st).all fun ds s => ∃ o, s[l]? = some (.lst o) ∧ ∃ p, mthW m o ds s = some p ∧ (∃ o0, st[l]? = some (.lst o0)) ∧ QO (.nx env) (s.set l (.lst p.2))
  | _ => False
theorem mc_own {m : String} {i : Nat} {es : CEs} {o : List D} : mcK cl gl m i es env st QO (some (.own (.lst o))) = (evEs cl gl false es env st).all fun ds st => ∃ p, mthW m o ds st = some p ∧ QO (.nx (env.set i (.own (.lst p.2)))) st := rfl
theorem mc_ref {m : String} {i l : Nat} {es : CEs} : mcK cl gl m i es env st QO (some (.v (.ref l))) = (evEs cl gl false es env st).all fun ds s => ∃ o, s[l]? = some (.lst o) ∧ ∃ p, mthW m o ds s = some p ∧ (∃ o0, st[l]? = some (.lst o0)) ∧ QO (.nx env) (s.set l (.lst p.2)) := rfl
theorem z_mcall {m : String} {i : Nat} {es : CEs} : (evS cl gl wf (.mcall i m es) env st).all QO ↔ mcK cl gl m i es env st QO env[i]? := by
  simp only [evS]
  generalize env[i]? = x
  split
  · simp only [mc_own, all_bind, all_ofO, all_ok]
  · rename_i l
    rw [mc_ref]
    split
    · rename_i o0 h0
      rw [all_bind]
      constructor <;> intro h <;> refine all_mono h fun ds s z => ?_
      · split at z
        · rename_i o ho
          simp only [all_bind, all_ofO, all_ok] at z
          obtain ⟨p, hp, q⟩ := z
          exact ⟨o, ho, p, hp, ⟨_, h0⟩, q⟩
        · exact (all_bad.mp z).elim
      · obtain ⟨o, ho, p, hp, _, q⟩ := z
        rw [ho]
        simp only [all_bind, all_ofO, all_ok]
        exact ⟨p, hp, q⟩
    · rename_i hn
      rw [all_bad]
      refine ⟨False.elim, fun h => ?_⟩
      obtain ⟨ds, s, _, o, _, p, _, ⟨o0, h0⟩, _⟩ := h
      exact hn o0 h0
  · rename_i hn1 hn2
    rw [all_bad]
    unfold mcK
    split
    · exact absurd rfl (hn1 _)
    · exact absurd rfl (hn2 _)
    · exact Iff.rfl
def mtK (cl : String → List D → Store → Res D) (gl : String → Option D) (m : String) (j i : Nat) (es : CEs) (env : Env) (st : Store) (QO : Out → Store → Prop) : Option EV → Prop
  | some (.own (.lst o)) => (evEs cl gl false es env st).all fun ds st => ∃ p, mthW m o ds st = some p ∧ QO (.nx ((env.set i (.own (.lst p.2))).set j (.v p.1))) st
  | _ => False
theorem mt_own {m : String} {i j : Nat} {es : CEs} {o : List D} : mtK cl gl m j i es env st QO (some (.own (.lst o))) = (evEs cl gl false es env st).all fun ds st => ∃ p, mthW m o ds st = some p ∧ QO (.nx ((env.set i (.own (.lst p.2))).set j (.v p.1))) st := rfl
theorem z_mcallTo {m : String} {i j : Nat} {es : CEs} : (evS cl gl wf (.mcallTo j i m es) env st).all QO ↔ mtK cl gl m j i es env st QO env[i]? := by
  simp only [evS]
  generalize env[i]? = x
  split
  · simp only [mt_own, all_bind, all_ofO, all_ok]
  · rename_i hn1
    rw [all_bad]
    unfold mtK
    split
    · exact absurd rfl (hn1 _)
    · exact Iff.rfl
def siK (cl : String → List D → Store → Res D) (gl : String → Option D) (i : Nat) (k : CE) (d : D) (env : Env) (st : Store) (QO : Out → Store → Prop) : Option EV → Prop
  | some (.own o) => (ev cl gl false k env st).all fun x st => ∃ p, setW o x d = some p ∧ QO (.nx (env.set i (.own p))) st
  | some (.v (.ref l)) => (ev cl gl false k env st).all fun x st => ∃ o, st[l]? = some o ∧ ∃ p, setW o x d = some p ∧ QO (.nx env) (st.set l p)
  | _ => False
theorem si_own {i : Nat} {k : CE} {d : D} {o : O} : siK cl gl i k d env st QO (some (.own o)) = (ev cl gl false k env st).all fun x st => ∃ p, setW o x d = some p ∧ QO (.nx (env.set i (.own p))) st := rfl
theorem si_ref {i l : Nat} {k : CE} {d : D} : siK cl gl i k d env st QO (some (.v (.ref l))) = (ev cl gl false k env st).all fun x st => ∃ o, st[l]? = some o ∧ ∃ p, setW o x d = some p ∧ QO (.nx env) (st.set l p) := rfl
theorem z_setK {i : Nat} {k e : CE} : (evS cl gl wf (.setI i k e) env st).all QO ↔ (ev cl gl false e env st).all fun d st => siK cl gl i k d env st QO env[i]? := by
  simp only [evS, all_bind]
  generalize env[i]? = x
  have key : ∀ (d : D) (s : Store), (match x with
    | some (.own o) => (ev cl gl false k env s).bind fun x st => (ofO (setW o x d) st).bind fun p st => .ok (.nx (env.set i (.own p))) st
    | some (.v (.ref l)) => (ev cl gl false k env s).bind fun x st => match st[l]? with
      | some o => (ofO (setW o x d) st).bind fun p st => .ok (.nx env) (st.set l p)
      | none => .bad
    | _ => .bad : Res Out).all QO ↔ siK cl gl i k d env s QO x := fun d s => by
    split
    · simp only [si_own, all_bind, all_ofO, all_ok]
    · rename_i l
      rw [si_ref, all_bind]
      constructor <;> intro h <;> refine all_mono h fun ds s z => ?_
      · split at z
        · rename_i o ho
          simp only [all_bind, all_ofO, all_ok] at z
          obtain ⟨p, hp, q⟩ := z
          exact ⟨o, ho, p, hp, q⟩
        · exact (all_bad.mp z).elim
      · obtain ⟨o, ho, p, hp, q⟩ := z
        rw [ho]
        simp only [all_bind, all_ofO, all_ok]
        exact ⟨p, hp, q⟩
    · rename_i hn1 hn2
      rw [all_bad]
      unfold siK
      split
      · exact absurd rfl (hn1 _)
      · exact absurd rfl (hn2 _)
      · exact Iff.rfl
  constructor <;> intro h <;> refine all_mono h fun d s z => ?_
  · exact (key d s).mp z
  · exact (key d s).mpr z
theorem mw_app {l : List D} {x : D} {Q : D × List D → Prop} : (∃ p, mthW "append" l [x] st = some p ∧ Q p) ↔ l.length < sizeLine ∧ Q (.non, l ++ [x]) := by
  show (∃ p, (if l.length < sizeLine then some (D.non, l ++ [x]) else none) = some p ∧ Q p) ↔ _
  split
  · rename_i h
    simp [h]
  · rename_i h
    simp [h]
theorem mw_ext {l m : List D} {Q : D × List D → Prop} : (∃ p, mthW "extend" l [.lst m] st = some p ∧ Q p) ↔ l.length + m.length ≤ sizeLine ∧ Q (.non, l ++ m) := by
  show (∃ p, (if l.length + m.length ≤ sizeLine then some (D.non, l ++ m) else none) = some p ∧ Q p) ↔ _
  split
  · rename_i h
    simp [h]
  · rename_i h
    simp [h]
theorem sw_dct {t : Bool} {l : List (D × D)} {k v : D} {Q : O → Prop} : (∃ p, setW (.dct t l) k v = some p ∧ Q p) ↔ (keyOk t k = true ∧ l.length < sizeLine) ∧ Q (.dct t (putD l k v)) := by
  show (∃ p, (if keyOk t k = true ∧ l.length < sizeLine then some (O.dct t (putD l k v)) else none) = some p ∧ Q p) ↔ _
  split
  · rename_i h
    simp [h]
  · rename_i h
    simp [h]
theorem sw_lst {l : List D} {i : Int} {v : D} {Q : O → Prop} (h0 : 0 ≤ i) (h1 : i < l.length) (q : Q (.lst (l.set i.toNat v))) : ∃ p, setW (.lst l) (.int i) v = some p ∧ Q p := ⟨_, setW_lst h0 h1, q⟩
theorem keyOk_int {i : Int} : keyOk false (.int i) = true := rfl
theorem keyOk_str {s : Str} : keyOk false (.str s) = true := rfl
end
section
variable {cl : String → List D → Store → Res D} {gl : String → Option D} {env : Env} {st : Store} {QP : List D × Chk → Store → Prop} {a b : CE}
theorem w_rng2b : (evI cl gl (.rng2 a b) env st).all QP ↔ (ev cl gl false a env st).all fun x st => (ev cl gl false b env st).all fun y st => ∃ m, x = .int m ∧ ∃ n, y = .int n ∧ in62 m = true ∧ in62 n = true ∧ QP (rngL m (n - m).toNat, .no) st := by
  rw [w_rng2]
  constructor <;> intro h <;> refine all_mono h fun x s h => all_mono h fun y s z => ?_
  · obtain ⟨m, n, h1, h2, z⟩ := z
    exact ⟨m, h1, n, h2, z⟩
  · obtain ⟨m, h1, n, h2, z⟩ := z
    exact ⟨m, n, h1, h2, z⟩
theorem w_rngDb : (evI cl gl (.rngD a b) env st).all QP ↔ (ev cl gl false a env st).all fun x st => (ev cl gl false b env st).all fun y st => ∃ m, x = .int m ∧ ∃ n, y = .int n ∧ in62 m = true ∧ in62 n = true ∧ QP (rngDn m (m - n).toNat, .no) st := by
  rw [w_rngD]
  constructor <;> intro h <;> refine all_mono h fun x s h => all_mono h fun y s z => ?_
  · obtain ⟨m, n, h1, h2, z⟩ := z
    exact ⟨m, h1, n, h2, z⟩
  · obtain ⟨m, h1, n, h2, z⟩ := z
    exact ⟨m, n, h1, h2, z⟩
end
/-! ### comprehensions that change nothing -/
section
variable {cl : String → List D → Store → Res D} {gl : String → Option D} {w : Bool} {env : Env} {st : Store} {α : Type}
theorem lc_go {vs : List Nat} {g : CG} {cnd : CO2} {e : CE} {ck : Store → Bool} (enc : α → D) (c : α → Bool) (f : α → D) (hck : ck st = true) : ∀ {l : List α}, (∀ a, a ∈ l → ∃ e', assignG g (enc a) (wipeE env vs) = some e' ∧ (evC cl gl cnd e' st).all (fun b s => b = c a ∧ s = st) ∧ (c a = true → (ev cl gl false e e' st).all fun d s => d = f a ∧ s = st)) →
    lcGo (lcB cl gl g vs cnd e env) ck (l.map enc) st = .ok ((l.filter c).map f) st
  | [], _ => by simp only [List.map_nil, lcGo, hck, if_true, List.filter_nil]
  | a :: l, h => by
    obtain ⟨e', e1, z1, z2⟩ := h a List.mem_cons_self
    have ih := lc_go enc c f hck (l := l) fun b hb => h b (List.mem_cons_of_mem _ hb)
    have e2 := eq_of_all z1
    rw [List.map_cons]
    simp only [lcGo, hck, if_true]
    have e3 : lcB cl gl g vs cnd e env (enc a) st = .ok (if c a = true then some (f a) else none) st := by
      unfold lcB
      rw [e1]
      simp only [e2, Res.bind_ok]
      cases hc : c a with
      | true =>
        have e4 := eq_of_all (z2 hc)
        simp only [e4, Res.bind_ok, if_true]
      | false =>
        simp only [Bool.false_eq_true, if_false]
    rw [e3, Res.bind_ok, ih, Res.bind_ok]
    cases hc : c a with
    | true => simp [hc]
    | false => simp [hc]
theorem lc_eq {vs : List Nat} {g : CG} {it : CI} {cnd : CO2} {e : CE} {ck : Chk} (enc : α → D) (c : α → Bool) (f : α → D) {l : List α} (hi : (evI cl gl it env st).all fun p s => p = (l.map enc, ck) ∧ s = st) (hck : ck.ok st = true) (hz : l.length ≤ sizeLine)
    (h : ∀ a, a ∈ l → ∃ e', assignG g (enc a) (wipeE env vs) = some e' ∧ (evC cl gl cnd e' st).all (fun b s => b = c a ∧ s = st) ∧ (c a = true → (ev cl gl false e e' st).all fun d s => d = f a ∧ s = st)) :
    ev cl gl w (.lc vs g it cnd e) env st = .ok (.lst ((l.filter c).map f)) st := by
  refine eq_of_all (w_lc.mpr ?_)
  have e1 := eq_of_all hi
  rw [e1, all_ok]
  refine ⟨by rw [List.length_map]; exact hz, ?_⟩
  rw [lc_go enc c f hck h, all_ok]
  exact ⟨rfl, rfl⟩
/-- no condition -/
theorem lc_eq0 {vs : List Nat} {g : CG} {it : CI} {e : CE} {ck : Chk} (enc : α → D) (f : α → D) {l : List α} (hi : (evI cl gl it env st).all fun p s => p = (l.map enc, ck) ∧ s = st) (hck : ck.ok st = true) (hz : l.length ≤ sizeLine)
    (h : ∀ a, a ∈ l → ∃ e', assignG g (enc a) (wipeE env vs) = some e' ∧ (ev cl gl false e e' st).all fun d s => d = f a ∧ s = st) :
    ev cl gl w (.lc vs g it .no e) env st = .ok (.lst (l.map f)) st := by
  rw [lc_eq enc (fun _ => true) f hi hck hz fun a ha => by
    obtain ⟨e', e1, z⟩ := h a ha
    exact ⟨e', e1, w_cno.mpr ⟨rfl, rfl⟩, fun _ => z⟩]
  rw [List.filter_eq_self.mpr fun _ _ => rfl]
theorem rngL_map {lo : Int} {n : Nat} : rngL lo n = (List.range n).map fun i => D.int (lo + (i : Nat)) := rfl
theorem rng0_map {n : Nat} : rngL 0 n = (List.range n).map fun i => D.int (i : Nat) := by
  rw [rngL_map]
  exact List.map_congr_left fun i _ => by rw [Int.zero_add]
theorem sIx_nat {n d : Nat} {a : Nat} (h : a ≤ n) : HT.sIx n d (some (a : Int)) = a := by
  unfold HT.sIx
  simp only
  split <;> omega
theorem slc_nat {l : List D} {a b : Nat} (ha : a ≤ b) (hb : b ≤ l.length) : slcop (.lst l) (some (a : Int)) (some (b : Int)) st = some (.lst ((l.drop a).take (b - a))) := by
  show some (D.lst ((l.drop (HT.sIx l.length 0 (some (a : Int)))).take (HT.sIx l.length l.length (some (b : Int)) - HT.sIx l.length 0 (some (a : Int))))) = _
  rw [sIx_nat (Nat.le_trans ha hb), sIx_nat hb]
theorem slc_to {l : List D} {b : Nat} (hb : b ≤ l.length) : slcop (.lst l) none (some (b : Int)) st = some (.lst (l.take b)) := by
  show some (D.lst ((l.drop (HT.sIx l.length 0 none)).take (HT.sIx l.length l.length (some (b : Int)) - HT.sIx l.length 0 none))) = _
  rw [sIx_nat hb]
  rfl
theorem slc_from {l : List D} {a : Nat} (ha : a ≤ l.length) : slcop (.lst l) (some (a : Int)) none st = some (.lst (l.drop a)) := by
  show some (D.lst ((l.drop (HT.sIx l.length 0 (some (a : Int)))).take (HT.sIx l.length l.length none - HT.sIx l.length 0 (some (a : Int))))) = _
  rw [sIx_nat ha]
  show some (D.lst ((l.drop a).take (l.length - a))) = _
  rw [List.take_of_length_le (by rw [List.length_drop]; exact Nat.le_refl _)]
end
/-! ### different items -/
section
variable {α : Type} [BEq α] [LawfulBEq α]
def dd (l : List α) : List α := l.foldl PyProof.Rows.step_dedup []
theorem dd_snoc (l : List α) (k : α) : dd (l ++ [k]) = PyProof.Rows.step_dedup (dd l) k := by
  unfold dd
  rw [List.foldl_append]
  rfl
theorem dd_mem (l : List α) : ∀ x, x ∈ dd l ↔ x ∈ l := by
  suffices ∀ (r l : List α), (∀ x, x ∈ r.foldl PyProof.Rows.step_dedup l ↔ x ∈ l ∨ x ∈ r) from fun x => by
    unfold dd
    rw [this l []]
    simp
  intro r
  induction r with
  | nil => intro l x; simp
  | cons k r ih =>
    intro l x
    rw [List.foldl_cons, ih]
    unfold PyProof.Rows.step_dedup
    split
    · rename_i h
      rw [List.any_eq_true] at h
      obtain ⟨y, hy, e⟩ := h
      have e := eq_of_beq e
      subst e
      constructor
      · rintro (h | h)
        · exact .inl h
        · exact .inr (List.mem_cons_of_mem _ h)
      · rintro (h | h)
        · exact .inl h
        · rcases List.mem_cons.mp h with rfl | h
          · exact .inl hy
          · exact .inr h
    · simp only [List.mem_append, List.mem_cons, List.mem_singleton, or_assoc, List.not_mem_nil, or_false]
theorem dd_snoc_len (l : List α) (k : α) : (dd (l ++ [k])).length = if (dd l).any (fun x => x == k) = true then (dd l).length else (dd l).length + 1 := by
  rw [dd_snoc]
  unfold PyProof.Rows.step_dedup
  split <;> simp
theorem dd_any (l : List α) (k : α) : (dd l).any (fun x => x == k) = true ↔ k ∈ l := by
  rw [List.any_eq_true]
  constructor
  · rintro ⟨y, hy, e⟩
    rw [← eq_of_beq e]
    exact (dd_mem l y).mp hy
  · intro h
    exact ⟨k, (dd_mem l k).mpr h, by simp⟩
end
theorem allS_map (l : List Str) : allS (l.map .str) = some l := by
  induction l with
  | nil => rfl
  | cons k r ih =>
    show (allS (r.map .str)).map _ = _
    rw [ih]
    rfl
theorem nset_strs {l : List Str} (h : l.length < 4000) : nsetD (l.map .str) = some (dd l).length := by
  unfold nsetD
  rw [List.length_map, if_pos (by omega), allS_map]
  rfl
theorem asL_lst {l : List D} {st : Store} : asL st (.lst l) = some l := rfl
theorem asR_lst {l : List D} {st : Store} : asR st (.lst l) = some l := rfl
end Ev
/-! EvM: equality, own things shown to defs -/
namespace Ev
open PySem L2 PySem.Spec PyProof.Rows
section
variable {st : Store}
theorem c_eqself {c k : Nat} {x : D} (hx : Rp c k x) (hk : k ≤ 64) (h : (∀ a, x ≠ .int a) ∧ (∀ a, x ≠ .str a) ∧ ∀ a, x ≠ .bl a) : cmpop .eq x x st = some true := by
  rw [c_eqR hx hx hk hk h, eqv_self hx]
theorem c_neR {c k c' k' : Nat} {x y : D} (hx : Rp c k x) (hy : Rp c' k' y) (hk : k ≤ 64) (hk' : k' ≤ 64) (h : (∀ a, x ≠ .int a) ∧ (∀ a, x ≠ .str a) ∧ ∀ a, x ≠ .bl a) : cmpop .ne x y st = some (!PyData.eqv (pyD x) (pyD y)) :=
  c_ne (eqD_ok (toPy_ok hx.ok) (toPy_ok hy.ok) (shaped_ok hx.ok (Nat.le_trans hx.dp hk)) (shaped_ok hy.ok (Nat.le_trans hy.dp hk')) h)
theorem c_neself {c k : Nat} {x : D} (hx : Rp c k x) (hk : k ≤ 64) (h : (∀ a, x ≠ .int a) ∧ (∀ a, x ≠ .str a) ∧ ∀ a, x ≠ .bl a) : cmpop .ne x x st = some false := by
  rw [c_neR hx hx hk hk h, eqv_self hx]
  rfl
theorem lst3 {l : List D} : (∀ a, D.lst l ≠ .int a) ∧ (∀ a, D.lst l ≠ .str a) ∧ ∀ a, D.lst l ≠ .bl a := ⟨fun _ z => (by cases z), fun _ z => (by cases z), fun _ z => (by cases z)⟩
theorem tup3 {l : List D} : (∀ a, D.tup l ≠ .int a) ∧ (∀ a, D.tup l ≠ .str a) ∧ ∀ a, D.tup l ≠ .bl a := ⟨fun _ z => (by cases z), fun _ z => (by cases z), fun _ z => (by cases z)⟩
theorem eqv_nil {l : List D} : PyData.eqv (pyD (.lst l)) (pyD (.lst [])) = l.isEmpty := by
  cases l with
  | nil => simp [pyD, pyDs, PyData.eqv, PyData.eqvAll]
  | cons x r => simp [pyD, pyDs, PyData.eqv, PyData.eqvAll]
theorem c_eqnil {c k : Nat} {l : List D} (h : Rp c k (.lst l)) (hk : k ≤ 64) : cmpop .eq (.lst l) (.lst []) st = some l.isEmpty := by
  rw [c_eqR h (Rp.lst .nil) hk (by decide) lst3, eqv_nil]
theorem c_nenil {c k : Nat} {l : List D} (h : Rp c k (.lst l)) (hk : k ≤ 64) : cmpop .ne (.lst l) (.lst []) st = some (!l.isEmpty) := by
  rw [c_neR h (Rp.lst .nil) hk (by decide) lst3, eqv_nil]
theorem okX_bl {b x : Bool} (h : st.all noLO = true) : okX b (.bl x) st = true := by
  unfold okX
  rw [h]
  rfl
theorem okX_no {b : Bool} {d : D} (h : st.all noLO = true) (hd : noL d = true) : okX b d st = true := by
  unfold okX
  rw [h, hd]
  rfl
theorem okX_lst {l : List D} (h : st.all noLO = true) (hd : noLs l = true) : okX true (.lst l) st = true := by
  unfold okX
  simp [h, hd]
theorem w_mutX {cl : String → List D → Store → Res D} {gl : String → Option D} {w : Bool} {env : Env} {m : String} {a : CE} {es : CEs} {Q : D → Store → Prop} (k : (ev cl gl false a env st).all fun x s => ∃ l, x = .ref l ∧ (∃ o0, s[l]? = some (.lst o0)) ∧ (evEs cl gl false es env s).all fun ds s => ∃ o, s[l]? = some (.lst o) ∧ ∃ p, mthW m o ds s = some p ∧ Q p.1 (s.set l (.lst p.2))) : (ev cl gl w (.mutX m a es) env st).all Q := by
  simp only [ev, all_bind]
  refine all_mono k fun x s z => ?_
  obtain ⟨l, rfl, ⟨o0, h0⟩, z⟩ := z
  simp only [h0, all_bind]
  refine all_mono z fun ds s z => ?_
  obtain ⟨o, h1, p, h2, q⟩ := z
  rw [h1]
  simp only [all_bind, all_ofO, all_ok]
  exact ⟨p, h2, q⟩
/-- what is wanted behind a turn of a while, k turns left -/
def whK (I : Nat → Env → Store → Prop) (k : Nat) (QO : Out → Store → Prop) (o : Out) (s : Store) : Prop := match o with
  | .nx e => ∃ j, k = j + 1 ∧ I j e s
  | .cont e => ∃ j, k = j + 1 ∧ I j e s
  | .brk e => QO (.nx e) s
  | .ret d => QO (.ret d) s
theorem z_whl {cl : String → List D → Store → Res D} {gl : String → Option D} {wf : Nat} {env : Env} {c : CE} {b : CSs} {QO : Out → Store → Prop} (I : Nat → Env → Store → Prop) (m : Nat) (hm : m < wf) (h0 : I m env st)
    (hs : ∀ k e s, I k e s → (ev cl gl false c e s).all fun x s1 => ∃ r, x = .bl r ∧ (r = true → (evSs cl gl wf b e s1).all (whK I k QO)) ∧ (r = false → QO (.nx e) s1)) : (evS cl gl wf (.while_ c b) env st).all QO := by
  have main : ∀ f k e s, k < f → I k e s → (whileGo (fun e s => tst (ev cl gl false c e s)) (fun e s => evSs cl gl wf b e s) f e s).all QO := by
    intro f
    induction f with
    | zero => intro k e s h; exact absurd h (Nat.not_lt_zero _)
    | succ f ih =>
      intro k e s hk hi
      simp only [whileGo, all_bind, w_tst]
      refine all_mono (hs k e s hi) fun x s1 z => ?_
      obtain ⟨r, rfl, z1, z2⟩ := z
      refine ⟨r, rfl, ?_⟩
      cases r with
      | false =>
        show (Res.ok _ s1).all QO
        rw [all_ok]
        exact z2 rfl
      | true =>
        show (Res.bind _ _).all QO
        rw [all_bind]
        refine all_mono (z1 rfl) fun o s2 q => ?_
        cases o with
        | nx e2 =>
          obtain ⟨j, rfl, h⟩ := q
          exact ih j e2 s2 (by omega) h
        | cont e2 =>
          obtain ⟨j, rfl, h⟩ := q
          exact ih j e2 s2 (by omega) h
        | brk e2 =>
          show (Res.ok _ s2).all QO
          rw [all_ok]
          exact q
        | ret d =>
          show (Res.ok _ s2).all QO
          rw [all_ok]
          exact q
  simp only [evS]
  exact main wf m env st hm h0
end
section
theorem toPs_emp {dr : Nat → Option PyData} {l : List D} {ps : List PyData} (h : toPs dr l = some ps) : ps.isEmpty = l.isEmpty := by
  cases l with
  | nil =>
    cases h
    rfl
  | cons x r =>
    simp only [toPs] at h
    split at h
    · cases h
      rfl
    · cases h
theorem eq_nilA {st : Store} {l : List D} : eqD st (.lst l) (.lst []) = some l.isEmpty := by
  have e : eqD st (.lst l) (.lst []) = (match (toPs (dr1 st) l).map PyData.list, some (PyData.list []) with
    | some p, some q => if SeqAt.shaped p = true ∧ SeqAt.shaped q = true then some (PyData.eqv p q) else eqL st (.lst l) (.lst [])
    | _, _ => eqL st (.lst l) (.lst [])) := rfl
  have e2 : eqL st (.lst l) (.lst []) = some l.isEmpty := by
    show (if l.length = 0 then (if l.length = 0 then some true else none) else some false) = _
    cases l with
    | nil => rfl
    | cons x r => rfl
  rw [e]
  cases h : toPs (dr1 st) l with
  | none => exact e2
  | some ps =>
    show (if _ then _ else _) = _
    rw [e2]
    have := toPs_emp h
    rw [← this]
    split
    · cases ps with
      | nil => simp [PyData.eqv, PyData.eqvAll]
      | cons x r => simp [PyData.eqv, PyData.eqvAll]
    · rfl
theorem c_eq0 {st : Store} {l : List D} : cmpop .eq (.lst l) (.lst []) st = some l.isEmpty := c_eq eq_nilA
theorem c_ne0 {st : Store} {l : List D} : cmpop .ne (.lst l) (.lst []) st = some (!l.isEmpty) := c_ne eq_nilA
theorem w_izip {cl : String → List D → Store → Res D} {gl : String → Option D} {env : Env} {st : Store} {a b : CE} {QP : List D × Chk → Store → Prop} : (evI cl gl (.zip a b) env st).all QP ↔ (ev cl gl false a env st).all fun x st => (ev cl gl false b env st).all fun y st => ∃ p, x = .lst p ∧ ∃ q, y = .lst q ∧ QP (zipL p q, .no) st := by
  simp only [evI, all_bind]
  constructor <;> intro h <;> refine all_mono h fun x s z => all_mono z fun y s z => ?_
  · cases x with
    | lst p =>
      cases y with
      | lst q =>
        have z : (Res.ok (zipL p q, Chk.no) s).all QP := z
        rw [all_ok] at z
        exact ⟨p, rfl, q, rfl, z⟩
      | _ => exact (all_bad.mp z).elim
    | _ => exact (all_bad.mp z).elim
  · obtain ⟨p, rfl, q, rfl, z⟩ := z
    show (Res.ok _ s).all QP
    rw [all_ok]
    exact z
theorem slc_any {l : List D} {lo hi : Option Int} {st : Store} : ∃ q, slcop (.lst l) lo hi st = some (.lst q) ∧ (∀ x, x ∈ q → x ∈ l) ∧ q.length ≤ l.length :=
  ⟨_, rfl, fun x hx => List.mem_of_mem_drop (List.mem_of_mem_take hx), by rw [List.length_take, List.length_drop]; omega⟩
theorem f_list_ref {r : Nat} {l : List D} {st : Store} {Q : D → Store → Prop} (h : st[r]? = some (.lst l)) : (callB "list" [.ref r] st).all Q ↔ Q (.lst l) st := by
  have e : callB "list" [.ref r] st = .ok (.lst l) st := by
    show (match asR st (.ref r) with
      | some l => .ok (.lst l) st
      | none => .bad : Res D) = _
    have : asR st (.ref r) = some l := by
      show (match st[r]? with
        | some (.lst l) => some l
        | _ => none) = _
      rw [h]
    rw [this]
  rw [e, all_ok]
theorem at_last {α : Type} {l : List α} {x : α} : atI (l ++ [x]) (-1) = some x := by
  unfold atI ixN
  have e : ((-1 : Int) + ((l.length : Int) + 1)).toNat = l.length := by omega
  have e2 : (1 : Int) ≤ (l.length : Int) + 1 := by omega
  simp [e, e2]
theorem idx_dct {l : List (D × D)} {k : Str} {st : Store} : idxop (.dct false l) (.str k) st = lookK l (.str k) := rfl
theorem flat_one {α : Type} (x : α) : ∀ n, (List.replicate n [x]).flatten = List.replicate n x
  | 0 => rfl
  | n + 1 => by
    rw [List.replicate_succ, List.flatten_cons, flat_one x n]
    rfl
theorem allB_map {α : Type} (f : α → Bool) (l : List α) : Ev.allB (l.map fun x => .bl (f x)) = some (l.all f) := by
  induction l with
  | nil => rfl
  | cons x r ih => simp only [List.map_cons, Ev.allB, ih, Option.map_some, List.all_cons]
end
section
variable {st : Store}
theorem w_minD {cl : String → List D → Store → Res D} {gl : String → Option D} {w : Bool} {env : Env} {a : CE} {Q : D → Store → Prop} : (ev cl gl w (.minD a) env st).all Q ↔ (ev cl gl true a env st).all fun x st => ∃ l, asL st x = some l ∧ ∃ ns, allI l = some ns ∧ Q (minO ns) st := by
  simp only [ev, all_bind]
  constructor <;> intro h <;> refine all_mono h fun x s z => ?_
  · cases hl : asL s x with
    | none =>
      rw [hl] at z
      exact (all_bad.mp z).elim
    | some l =>
      rw [hl] at z
      simp only [all_bind, all_ofO, all_ok] at z
      obtain ⟨ns, h1, h2⟩ := z
      exact ⟨l, rfl, ns, h1, h2⟩
  · obtain ⟨l, hl, ns, h1, h2⟩ := z
    rw [hl]
    simp only [all_bind, all_ofO, all_ok]
    exact ⟨ns, h1, h2⟩
end
section
variable {cl : String → List D → Store → Res D} {gl : String → Option D} {env : Env} {st : Store} {w : Bool}
theorem dc_go {α : Type} {body : D → Store → Res (Option (D × D))} {ck : Store → Bool} (enc kf vf : α → D) (hck : ck st = true) : ∀ {l : List α} {acc : List (D × D)}, acc.length + l.length ≤ sizeLine → (∀ a, a ∈ l → keyOk false (kf a) = true ∧ body (enc a) st = .ok (some (kf a, vf a)) st) → dcGo body ck (l.map enc) acc st = .ok (l.foldl (fun acc a => putD acc (kf a) (vf a)) acc) st
  | [], acc, _, _ => by
    simp only [List.map_nil, dcGo, hck, if_true, List.foldl_nil]
  | a :: l, acc, hz, h => by
    obtain ⟨h1, h2⟩ := h a List.mem_cons_self
    have hl : (a :: l).length = l.length + 1 := rfl
    have h3 : acc.length < sizeLine := by omega
    have hp := putD_len (l := acc) (k := kf a) (v := vf a)
    simp only [List.map_cons, dcGo, hck, if_true, h2, Res.bind_ok, h1, h3, and_self, List.foldl_cons]
    exact dc_go enc kf vf hck (by omega) fun b hb => h b (List.mem_cons_of_mem _ hb)
/-- {key: value for ..}, without a condition -/
theorem dc_eq0 {α : Type} {vs : List Nat} {g : CG} {it : CI} {k v : CE} {ck : Chk} (enc kf vf : α → D) {l : List α} (hi : (evI cl gl it env st).all fun p s => p = (l.map enc, ck) ∧ s = st) (hck : ck.ok st = true) (hz : l.length ≤ sizeLine)
    (h : ∀ a, a ∈ l → keyOk false (kf a) = true ∧ ∃ e', assignG g (enc a) (wipeE env vs) = some e' ∧ ((ev cl gl false k e' st).all fun d s => d = kf a ∧ s = st) ∧ (ev cl gl false v e' st).all fun d s => d = vf a ∧ s = st) :
    ev cl gl w (.dc vs g it .no k v) env st = .ok (.dct false (l.foldl (fun acc a => putD acc (kf a) (vf a)) [])) st := by
  have e1 := eq_of_all hi
  simp only [ev, e1, Res.bind_ok]
  rw [dc_go enc kf vf hck (by simpa using hz) fun a ha => by
    obtain ⟨h1, e', h2, h3, h4⟩ := h a ha
    have e3 := eq_of_all h3
    have e4 := eq_of_all h4
    refine ⟨h1, ?_⟩
    simp only [h2, evC, Res.bind_ok, e3, e4]]
  rfl
end
end Ev
/-! FK: keys.py: keys, logs -/
open PySem L2 Ev PySem.Spec PyProof.Rows
namespace FK
def LET : Str := "abcdefghijklmnopqrstuvwxyz"
def CHS : Str := "abcdefghijklmnopqrstuvwxyz0123456789_"
def keyB (k : Str) : Bool := decide (1 ≤ k.length) && (decide (k.length ≤ 12) && (decide (k.cps.toList.headD 0 ∈ LET.cps.toList) && k.cps.toList.all fun c => decide (c ∈ CHS.cps.toList)))
def okLog (log : List Str) : Prop := log.length ≤ 200 ∧ ∀ k, k ∈ log → keyB k = true
theorem sm {l : List D} (h : l.length ≤ 100) : l.length ≤ sizeLine := by
  rw [sizeLine_eq]
  omega
theorem keyB_ok {k : Str} (h : keyB k = true) : PyData.strOk k = true ∧ k.length ≤ 12 := by
  unfold keyB at h
  simp only [Bool.and_eq_true, decide_eq_true_eq] at h
  obtain ⟨h1, h2, h3, h4⟩ := h
  refine ⟨?_, h2⟩
  show k.cps.all (· < 0x110000) = true
  rw [Array.all_eq_true_iff_forall_mem]
  intro c hc
  have h5 := List.all_eq_true.mp h4 c (Array.mem_toList_iff.mpr hc)
  have h6 : CHS.cps.toList.all (fun c => decide (c < 0x110000)) = true := by decide +kernel
  exact List.all_eq_true.mp h6 c (of_decide_eq_true h5)
theorem log_rp {log : List Str} (h : okLog log) : Rp 3000 1 (.lst (log.map .str)) := by
  refine (Rp.lst (Rps.all (c := 12) (k := 0) (n := 200) ?_ (by rw [List.length_map]; exact h.1))).mono (by decide) (by decide)
  intro x hx
  obtain ⟨k, hk, rfl⟩ := List.mem_map.mp hx
  obtain ⟨a, b⟩ := keyB_ok (h.2 k hk)
  exact Rp.str a b
def cd_is_key : CDef := ⟨1, 2, [], (.cons (.ite (.or (.not (.isi (.var 0) "str")) (.or (.not (.cmp2 .le .le (.cst (.int 1)) (.blt "len" (.cons (.var 0) .nil)) (.glo "MOST_CHARACTERS"))) (.cmp .notin (.idx (.var 0) (.cst (.int 0))) (.glo "LETTERS")))) (.cons (.ret (.cst (.bl false))) .nil) .nil) (.cons (.ret (.blt "all" (.cons (.lc [1] (.nm 1) (.seq (.var 0)) .no (.cmp .isin (.var 1) (.glo "CHARACTERS"))) .nil))) .nil))⟩
class M_is_key (P : Prog) : Prop where
  d_is_key : assoc P.defs "is_key" = some cd_is_key
  g_LETTERS : assoc P.glob "LETTERS" = some (.str LET)
  g_CHARACTERS : assoc P.glob "CHARACTERS" = some (.str CHS)
  g_MOST : assoc P.glob "MOST_CHARACTERS" = some (.int 12)
def cd_is_integer : CDef := ⟨3, 3, [.non], (.cons (.ite (.or (.not (.isi (.var 0) "int")) (.or (.isi (.var 0) "bool") (.cmp .lt (.var 0) (.var 1)))) (.cons (.ret (.cst (.bl false))) .nil) .nil) (.cons (.ret (.or (.cmp .is (.var 2) (.cst .non)) (.cmp .le (.var 0) (.var 2)))) .nil))⟩
class M_is_integer (P : Prog) : Prop where
  d_is_integer : assoc P.defs "is_integer" = some cd_is_integer
def cd_is_log : CDef := ⟨1, 2, [], (.cons (.ret (.and (.isi (.var 0) "list") (.blt "all" (.cons (.lc [1] (.nm 1) (.seq (.var 0)) .no (.call "is_key" (.cons (.var 1) .nil))) .nil)))) .nil)⟩
class M_is_log (P : Prog) : Prop extends M_is_key P where
  d_is_log : assoc P.defs "is_log" = some cd_is_log
def cd_require_log : CDef := ⟨1, 1, [], (.cons (.ite (.not (.call "is_log" (.cons (.var 0) .nil))) (.cons .bad .nil) .nil) .nil)⟩
class M_require_log (P : Prog) : Prop extends M_is_log P where
  d_require_log : assoc P.defs "require_log" = some cd_require_log
def cd_previous_of : CDef := ⟨1, 5, [], (.cons (.asgO 1 (.lst .nil)) (.cons (.asgO 2 (.dnew false)) (.cons (.for_ (.tup [3, 4]) (.enum (.var 0)) (.cons (.mcall 1 "append" (.cons (.mth "get" (.var 2) (.cons (.var 4) .nil)) .nil)) (.cons (.setI 2 (.var 4) (.var 3)) .nil))) (.cons (.retO 1) .nil))))⟩
class M_previous_of (P : Prog) : Prop where
  d_previous_of : assoc P.defs "previous_of" = some cd_previous_of
variable {P : Prog}
def lastOf (log : List Str) (k : Str) : Nat → Option Nat
  | 0 => none
  | i + 1 => if log[i]? = some k then some i else lastOf log k i
def optD : Option Nat → D
  | none => .non
  | some i => .int i
def prevD (log : List Str) (j : Nat) : D := optD (lastOf log (log.getD j Str.empty) j)
def prevs (log : List Str) : List D := (List.range log.length).map (prevD log)
theorem previous_all [M_previous_of P] {wf n : Nat} {log : List Str} {st : Store} {Q : D → Store → Prop} (hz : log.length ≤ 1000) (q : Q (.lst (prevs log)) st) : (callF P wf (n + 1) "previous_of" [.lst (log.map .str)] st).all Q := by
  have hs : sizeLine = 16777216 := by rw [sizeLine_eq]
  refine call_all (cd := cd_previous_of) (env := [.v (.lst (log.map .str)), .un, .un, .un, .un]) M_previous_of.d_previous_of rfl ?_
  simp only [s_nil, s_seq, s_frz, z_asg, z_asgO, z_asgR, z_par, z_pn, z_pc, z_aug, z_ex, z_ret, z_retN, z_retR, z_ite, z_brk, z_cont, z_pass, z_setIs, z_tn, w_cst, w_var, w_glo, w_bin, w_neg, w_not, w_and, w_or, w_cmp, w_cmp2, w_ife, w_idx, w_slc, w_no, w_so, w_cno, w_cso, w_tup, w_lst, w_dnew, w_nil, w_cons, w_call, w_blt, w_isi, w_iown, w_iseq, w_rng1, w_rng2b, nxK, varE, assignG, own1, oOf, Ev.putK, viewI, O.d, List.getElem?_cons_zero, List.getElem?_cons_succ, List.set_cons_zero, List.set_cons_succ, Option.some.injEq, exists_eq_left', D.bl.injEq, D.int.injEq, EV.own.injEq, b_add, b_adds, b_addl, b_mull, b_muls, b_sub, b_mul, b_fdiv, b_mod, b_pow, at0, at1, at2, at3, c_lt, c_le, c_gt, c_ge, c_eqi, c_nei, c_eqs, c_nes, c_eqb, Option.map_some, len_lst, len_tup, len_scr, f_abs, f_max, f_min, f_intb, f_inti, f_str, f_list_l, f_list_t, seq_lst, seq_str, seq_scr, ck_no, ite_true, if_true, if_false, Bool.false_eq_true, reduceCtorEq, decide_eq_true_eq, decide_eq_false_iff_not, Bool.not_eq_true', Bool.not_eq_false', Bool.not_true, Bool.not_false, not_true_eq_false, not_false_eq_true, true_and, and_true, forall_const, false_implies, implies_true, lpK, w_rngDb, c_isN, c_isnotN, w_mth, z_mcall, mc_own, mc_ref, z_mcallTo, mt_own, z_setK, si_own, si_ref, mw_app, mw_ext, sw_dct, keyOk_int, keyOk_str, setAll, idx_lst, idx_tup, z_retO, ro_own, fz_own, fz_v, ov_lst, ov_dct, ov_non, ov_int, ov_bl, ov_str, ov_tup, w_callF, w_callO, w_lset, Ev.w_rev, w_fld, w_meth, w_mkI, w_setd, w_dcp, z_setX, z_setF, cd_previous_of]
  refine ⟨sm (by simp), ?_⟩
  rw [z_for]
  have hen : (evI (callF P wf n) (assoc P.glob) (.enum (.var 0)) [.v (.lst (log.map .str)), .own (.lst []), .own (.dct false []), .un, .un] st) = .ok (enumL 0 (log.map .str), .no) st := rfl
  rw [hen, all_ok]
  refine ⟨rfl, for0 (fun i env s => s = st ∧ ∃ (l : List (D × D)) (u3 u4 : EV), env = [.v (.lst (log.map .str)), .own (.lst ((List.range i).map (prevD log))), .own (.dct false l), u3, u4] ∧ l.length ≤ i ∧ ∀ k, lookK l (.str k) = (lastOf log k i).map (fun (z : Nat) => D.int (z : Int))) ⟨rfl, [], _, _, rfl, Nat.zero_le _, fun k => rfl⟩ (fun _ _ _ _ _ => rfl) ?_ ?_⟩
  · intro j d env s hd h
    obtain ⟨rfl, l, u3, u4, rfl, hll, hlk⟩ := h
    have hj := some_lt hd
    have hj : j < log.length := by
      have h3 : (enumL 0 (log.map D.str)).length = (log.map D.str).length := enumL_len
      rw [h3, List.length_map] at hj
      exact hj
    obtain ⟨x, hx, rfl⟩ := enumL_get hd
    rw [List.getElem?_map, Option.map_eq_some_iff] at hx
    obtain ⟨k, hk, rfl⟩ := hx
    refine ⟨_, rfl, ?_⟩
    simp only [s_nil, s_seq, s_frz, z_asg, z_asgO, z_asgR, z_par, z_pn, z_pc, z_aug, z_ex, z_ret, z_retN, z_retR, z_ite, z_brk, z_cont, z_pass, z_setIs, z_tn, w_cst, w_var, w_glo, w_bin, w_neg, w_not, w_and, w_or, w_cmp, w_cmp2, w_ife, w_idx, w_slc, w_no, w_so, w_cno, w_cso, w_tup, w_lst, w_dnew, w_nil, w_cons, w_call, w_blt, w_isi, w_iown, w_iseq, w_rng1, w_rng2b, nxK, varE, assignG, own1, oOf, Ev.putK, viewI, O.d, List.getElem?_cons_zero, List.getElem?_cons_succ, List.set_cons_zero, List.set_cons_succ, Option.some.injEq, exists_eq_left', D.bl.injEq, D.int.injEq, EV.own.injEq, b_add, b_adds, b_addl, b_mull, b_muls, b_sub, b_mul, b_fdiv, b_mod, b_pow, at0, at1, at2, at3, c_lt, c_le, c_gt, c_ge, c_eqi, c_nei, c_eqs, c_nes, c_eqb, Option.map_some, len_lst, len_tup, len_scr, f_abs, f_max, f_min, f_intb, f_inti, f_str, f_list_l, f_list_t, seq_lst, seq_str, seq_scr, ck_no, ite_true, if_true, if_false, Bool.false_eq_true, reduceCtorEq, decide_eq_true_eq, decide_eq_false_iff_not, Bool.not_eq_true', Bool.not_eq_false', Bool.not_true, Bool.not_false, not_true_eq_false, not_false_eq_true, true_and, and_true, forall_const, false_implies, implies_true, lpK, w_rngDb, c_isN, c_isnotN, w_mth, z_mcall, mc_own, mc_ref, z_mcallTo, mt_own, z_setK, si_own, si_ref, mw_app, mw_ext, sw_dct, keyOk_int, keyOk_str, setAll, idx_lst, idx_tup, z_retO, ro_own, fz_own, fz_v, ov_lst, ov_dct, ov_non, ov_int, ov_bl, ov_str, ov_tup, w_callF, w_callO, w_lset, Ev.w_rev, w_fld, w_meth, w_mkI, w_setd, w_dcp, z_setX, z_setF, w_mth, get_own]
    refine ⟨rfl, by rw [List.length_map, List.length_range]; omega, by omega, putD l (.str k) (.int (0 + j : Nat)), .v (.int (0 + j : Nat)), .v (.str k), ?_, Nat.le_trans putD_len (by omega), fun k2 => ?_⟩
    · have e : prevD log j = (lookK l (.str k)).getD .non := by
        have e2 : log.getD j Str.empty = k := by
          rw [List.getD_eq_getElem?_getD, hk]
          rfl
        rw [prevD, e2, hlk]
        cases lastOf log k j <;> rfl
      rw [List.range_succ, List.map_append, List.map_cons, List.map_nil, e]
    · rw [look_put, hlk]
      show _ = (if log[j]? = some k2 then some j else lastOf log k2 j).map _
      rw [hk]
      by_cases h2 : k2 = k
      · subst h2
        simp
      · have h3 : ¬ (some k = some k2) := fun z => h2 (Option.some.inj z).symm
        have h4 : ¬ (D.str k2 = D.str k) := fun z => h2 (D.str.inj z)
        rw [if_neg h3, if_neg h4]
  · intro env s h
    obtain ⟨rfl, l, u3, u4, rfl, hll, hlk⟩ := h
    have h3 : (enumL 0 (log.map D.str)).length = log.length := by rw [enumL_len, List.length_map]
    simp only [s_nil, s_seq, s_frz, z_asg, z_asgO, z_asgR, z_par, z_pn, z_pc, z_aug, z_ex, z_ret, z_retN, z_retR, z_ite, z_brk, z_cont, z_pass, z_setIs, z_tn, w_cst, w_var, w_glo, w_bin, w_neg, w_not, w_and, w_or, w_cmp, w_cmp2, w_ife, w_idx, w_slc, w_no, w_so, w_cno, w_cso, w_tup, w_lst, w_dnew, w_nil, w_cons, w_call, w_blt, w_isi, w_iown, w_iseq, w_rng1, w_rng2b, nxK, varE, assignG, own1, oOf, Ev.putK, viewI, O.d, List.getElem?_cons_zero, List.getElem?_cons_succ, List.set_cons_zero, List.set_cons_succ, Option.some.injEq, exists_eq_left', D.bl.injEq, D.int.injEq, EV.own.injEq, b_add, b_adds, b_addl, b_mull, b_muls, b_sub, b_mul, b_fdiv, b_mod, b_pow, at0, at1, at2, at3, c_lt, c_le, c_gt, c_ge, c_eqi, c_nei, c_eqs, c_nes, c_eqb, Option.map_some, len_lst, len_tup, len_scr, f_abs, f_max, f_min, f_intb, f_inti, f_str, f_list_l, f_list_t, seq_lst, seq_str, seq_scr, ck_no, ite_true, if_true, if_false, Bool.false_eq_true, reduceCtorEq, decide_eq_true_eq, decide_eq_false_iff_not, Bool.not_eq_true', Bool.not_eq_false', Bool.not_true, Bool.not_false, not_true_eq_false, not_false_eq_true, true_and, and_true, forall_const, false_implies, implies_true, lpK, w_rngDb, c_isN, c_isnotN, w_mth, z_mcall, mc_own, mc_ref, z_mcallTo, mt_own, z_setK, si_own, si_ref, mw_app, mw_ext, sw_dct, keyOk_int, keyOk_str, setAll, idx_lst, idx_tup, z_retO, ro_own, fz_own, fz_v, ov_lst, ov_dct, ov_non, ov_int, ov_bl, ov_str, ov_tup, w_callF, w_callO, w_lset, Ev.w_rev, w_fld, w_meth, w_mkI, w_setd, w_dcp, z_setX, z_setF, h3]
    exact q
def prevO (log : List Str) (j : Nat) : Option Nat := lastOf log (log.getD j Str.empty) j
theorem prevs_eq [M_previous_of P] {wf n : Nat} {log : List Str} {st : Store} (hz : log.length ≤ 1000) : callF P wf (n + 1) "previous_of" [.lst (log.map .str)] st = .ok (.lst (prevs log)) st :=
  eq_of_all (previous_all hz ⟨rfl, rfl⟩)
theorem key_all [M_is_key P] {wf n : Nat} {k : Str} {st : Store} {Q : D → Store → Prop} (hk : keyB k = true) (q : Q (.bl true) st) : (callF P wf (n + 1) "is_key" [.str k] st).all Q := by
  unfold keyB at hk
  simp only [Bool.and_eq_true, decide_eq_true_eq] at hk
  obtain ⟨h1, h2, h3, h4⟩ := hk
  refine call_all (cd := cd_is_key) (env := [.v (.str k), .un]) M_is_key.d_is_key rfl ?_
  have i1 : isTy st (.str k) "str" = some true := by rfl
  simp only [s_nil, s_seq, s_frz, z_asg, z_asgO, z_asgR, z_par, z_pn, z_pc, z_aug, z_ex, z_ret, z_retN, z_retR, z_ite, z_brk, z_cont, z_pass, z_setIs, z_tn, w_cst, w_var, w_glo, w_bin, w_neg, w_not, w_and, w_or, w_cmp, w_cmp2, w_ife, w_idx, w_slc, w_no, w_so, w_cno, w_cso, w_tup, w_lst, w_dnew, w_nil, w_cons, w_call, w_blt, w_isi, w_iown, w_iseq, w_rng1, w_rng2b, nxK, varE, assignG, own1, oOf, Ev.putK, viewI, O.d, List.getElem?_cons_zero, List.getElem?_cons_succ, List.set_cons_zero, List.set_cons_succ, Option.some.injEq, exists_eq_left', D.bl.injEq, D.int.injEq, EV.own.injEq, b_add, b_adds, b_addl, b_mull, b_muls, b_sub, b_mul, b_fdiv, b_mod, b_pow, at0, at1, at2, at3, c_lt, c_le, c_gt, c_ge, c_eqi, c_nei, c_eqs, c_nes, c_eqb, Option.map_some, len_lst, len_tup, len_scr, f_abs, f_max, f_min, f_intb, f_inti, f_str, f_list_l, f_list_t, seq_lst, seq_str, seq_scr, ck_no, ite_true, if_true, if_false, Bool.false_eq_true, reduceCtorEq, decide_eq_true_eq, decide_eq_false_iff_not, Bool.not_eq_true', Bool.not_eq_false', Bool.not_true, Bool.not_false, not_true_eq_false, not_false_eq_true, true_and, and_true, forall_const, false_implies, implies_true, lpK, w_rngDb, c_isN, c_isnotN, w_mth, z_mcall, mc_own, mc_ref, z_mcallTo, mt_own, z_setK, si_own, si_ref, mw_app, mw_ext, sw_dct, keyOk_int, keyOk_str, setAll, idx_lst, idx_tup, z_retO, ro_own, fz_own, fz_v, ov_lst, ov_dct, ov_non, ov_int, ov_bl, ov_str, ov_tup, w_callF, w_callO, w_lset, Ev.w_rev, w_fld, w_meth, w_mkI, w_setd, w_dcp, z_setX, z_setF, cd_is_key, i1, M_is_key.g_LETTERS (P := P), M_is_key.g_CHARACTERS (P := P), M_is_key.g_MOST (P := P), Bool.not_true]
  have e1 : idxop (.str k) (.int 0) st = some (.str ⟨#[k.cps.toList.headD 0]⟩) := by
    have hz : k.length ≤ sizeLine := by rw [sizeLine_eq]; omega
    obtain ⟨hl, e⟩ := atN (l := k.cps.toList) (i := 0) (Int.le_refl 0) (by
      have : (k.cps.toList.length : Int) = k.length := by simp [Str.length]
      omega)
    show (if k.length ≤ sizeLine then (atI k.cps.toList 0).map fun c => D.str ⟨#[c]⟩ else none) = _
    rw [if_pos hz, e]
    show some (D.str ⟨#[k.cps.toList[0]]⟩) = _
    rw [show k.cps.toList.headD 0 = k.cps.toList[0] by
      revert hl
      cases k.cps.toList with
      | nil => intros hl; exact absurd hl (by simp)
      | cons c r => intros; rfl]
  have hz : k.length ≤ sizeLine := by rw [sizeLine_eq]; omega
  have e2 := c_notin (st := st) (in_chr (c := k.cps.toList.headD 0) (z := LET))
  rw [len_str hz]
  simp only [s_nil, s_seq, s_frz, z_asg, z_asgO, z_asgR, z_par, z_pn, z_pc, z_aug, z_ex, z_ret, z_retN, z_retR, z_ite, z_brk, z_cont, z_pass, z_setIs, z_tn, w_cst, w_var, w_glo, w_bin, w_neg, w_not, w_and, w_or, w_cmp, w_cmp2, w_ife, w_idx, w_slc, w_no, w_so, w_cno, w_cso, w_tup, w_lst, w_dnew, w_nil, w_cons, w_call, w_blt, w_isi, w_iown, w_iseq, w_rng1, w_rng2b, nxK, varE, assignG, own1, oOf, Ev.putK, viewI, O.d, List.getElem?_cons_zero, List.getElem?_cons_succ, List.set_cons_zero, List.set_cons_succ, Option.some.injEq, exists_eq_left', D.bl.injEq, D.int.injEq, EV.own.injEq, b_add, b_adds, b_addl, b_mull, b_muls, b_sub, b_mul, b_fdiv, b_mod, b_pow, at0, at1, at2, at3, c_lt, c_le, c_gt, c_ge, c_eqi, c_nei, c_eqs, c_nes, c_eqb, Option.map_some, len_lst, len_tup, len_scr, f_abs, f_max, f_min, f_intb, f_inti, f_str, f_list_l, f_list_t, seq_lst, seq_str, seq_scr, ck_no, ite_true, if_true, if_false, Bool.false_eq_true, reduceCtorEq, decide_eq_true_eq, decide_eq_false_iff_not, Bool.not_eq_true', Bool.not_eq_false', Bool.not_true, Bool.not_false, not_true_eq_false, not_false_eq_true, true_and, and_true, forall_const, false_implies, implies_true, lpK, w_rngDb, c_isN, c_isnotN, w_mth, z_mcall, mc_own, mc_ref, z_mcallTo, mt_own, z_setK, si_own, si_ref, mw_app, mw_ext, sw_dct, keyOk_int, keyOk_str, setAll, idx_lst, idx_tup, z_retO, ro_own, fz_own, fz_v, ov_lst, ov_dct, ov_non, ov_int, ov_bl, ov_str, ov_tup, w_callF, w_callO, w_lset, Ev.w_rev, w_fld, w_meth, w_mkI, w_setd, w_dcp, z_setX, z_setF, e1, e2]
  refine ⟨fun z => by exfalso; omega, fun _ => ⟨fun z => by exfalso; omega, fun _ => ⟨fun z => absurd h3 z, fun _ => ?_⟩⟩⟩
  refine lc_map (f := fun _ => .bl true) (xs := strL k) ?_ ?_ ?_ ?_
  · simp only [s_nil, s_seq, s_frz, z_asg, z_asgO, z_asgR, z_par, z_pn, z_pc, z_aug, z_ex, z_ret, z_retN, z_retR, z_ite, z_brk, z_cont, z_pass, z_setIs, z_tn, w_cst, w_var, w_glo, w_bin, w_neg, w_not, w_and, w_or, w_cmp, w_cmp2, w_ife, w_idx, w_slc, w_no, w_so, w_cno, w_cso, w_tup, w_lst, w_dnew, w_nil, w_cons, w_call, w_blt, w_isi, w_iown, w_iseq, w_rng1, w_rng2b, nxK, varE, assignG, own1, oOf, Ev.putK, viewI, O.d, List.getElem?_cons_zero, List.getElem?_cons_succ, List.set_cons_zero, List.set_cons_succ, Option.some.injEq, exists_eq_left', D.bl.injEq, D.int.injEq, EV.own.injEq, b_add, b_adds, b_addl, b_mull, b_muls, b_sub, b_mul, b_fdiv, b_mod, b_pow, at0, at1, at2, at3, c_lt, c_le, c_gt, c_ge, c_eqi, c_nei, c_eqs, c_nes, c_eqb, Option.map_some, len_lst, len_tup, len_scr, f_abs, f_max, f_min, f_intb, f_inti, f_str, f_list_l, f_list_t, seq_lst, seq_str, seq_scr, ck_no, ite_true, if_true, if_false, Bool.false_eq_true, reduceCtorEq, decide_eq_true_eq, decide_eq_false_iff_not, Bool.not_eq_true', Bool.not_eq_false', Bool.not_true, Bool.not_false, not_true_eq_false, not_false_eq_true, true_and, and_true, forall_const, false_implies, implies_true, lpK, w_rngDb, c_isN, c_isnotN, w_mth, z_mcall, mc_own, mc_ref, z_mcallTo, mt_own, z_setK, si_own, si_ref, mw_app, mw_ext, sw_dct, keyOk_int, keyOk_str, setAll, idx_lst, idx_tup, z_retO, ro_own, fz_own, fz_v, ov_lst, ov_dct, ov_non, ov_int, ov_bl, ov_str, ov_tup, w_callF, w_callO, w_lset, Ev.w_rev, w_fld, w_meth, w_mkI, w_setd, w_dcp, z_setX, z_setF]
  · show (k.cps.toList.map _).length ≤ _
    rw [List.length_map]
    exact hz
  · intro x hx
    obtain ⟨c, hc, rfl⟩ := List.mem_map.mp hx
    refine ⟨_, rfl, ?_⟩
    have := List.all_eq_true.mp h4 c hc
    simp only [s_nil, s_seq, s_frz, z_asg, z_asgO, z_asgR, z_par, z_pn, z_pc, z_aug, z_ex, z_ret, z_retN, z_retR, z_ite, z_brk, z_cont, z_pass, z_setIs, z_tn, w_cst, w_var, w_glo, w_bin, w_neg, w_not, w_and, w_or, w_cmp, w_cmp2, w_ife, w_idx, w_slc, w_no, w_so, w_cno, w_cso, w_tup, w_lst, w_dnew, w_nil, w_cons, w_call, w_blt, w_isi, w_iown, w_iseq, w_rng1, w_rng2b, nxK, varE, assignG, own1, oOf, Ev.putK, viewI, O.d, List.getElem?_cons_zero, List.getElem?_cons_succ, List.set_cons_zero, List.set_cons_succ, Option.some.injEq, exists_eq_left', D.bl.injEq, D.int.injEq, EV.own.injEq, b_add, b_adds, b_addl, b_mull, b_muls, b_sub, b_mul, b_fdiv, b_mod, b_pow, at0, at1, at2, at3, c_lt, c_le, c_gt, c_ge, c_eqi, c_nei, c_eqs, c_nes, c_eqb, Option.map_some, len_lst, len_tup, len_scr, f_abs, f_max, f_min, f_intb, f_inti, f_str, f_list_l, f_list_t, seq_lst, seq_str, seq_scr, ck_no, ite_true, if_true, if_false, Bool.false_eq_true, reduceCtorEq, decide_eq_true_eq, decide_eq_false_iff_not, Bool.not_eq_true', Bool.not_eq_false', Bool.not_true, Bool.not_false, not_true_eq_false, not_false_eq_true, true_and, and_true, forall_const, false_implies, implies_true, lpK, w_rngDb, c_isN, c_isnotN, w_mth, z_mcall, mc_own, mc_ref, z_mcallTo, mt_own, z_setK, si_own, si_ref, mw_app, mw_ext, sw_dct, keyOk_int, keyOk_str, setAll, idx_lst, idx_tup, z_retO, ro_own, fz_own, fz_v, ov_lst, ov_dct, ov_non, ov_int, ov_bl, ov_str, ov_tup, w_callF, w_callO, w_lset, Ev.w_rev, w_fld, w_meth, w_mkI, w_setd, w_dcp, z_setX, z_setF, M_is_key.g_CHARACTERS (P := P), wipeE, c_in in_chr, this]
  · rw [f_all (allT fun d hd => by
      obtain ⟨_, _, rfl⟩ := List.mem_map.mp hd
      rfl)]
    exact q
theorem islog_all [M_is_log P] {wf n : Nat} {log : List Str} {st : Store} {Q : D → Store → Prop} (hz : log.length ≤ 1000) (hk : ∀ k, k ∈ log → keyB k = true) (q : Q (.bl true) st) : (callF P wf (n + 2) "is_log" [.lst (log.map .str)] st).all Q := by
  have hs : sizeLine = 16777216 := by rw [sizeLine_eq]
  refine call_all (cd := cd_is_log) (env := [.v (.lst (log.map .str)), .un]) M_is_log.d_is_log rfl ?_
  have i1 : isTy st (.lst (log.map .str)) "list" = some true := by rfl
  simp only [s_nil, s_seq, s_frz, z_asg, z_asgO, z_asgR, z_par, z_pn, z_pc, z_aug, z_ex, z_ret, z_retN, z_retR, z_ite, z_brk, z_cont, z_pass, z_setIs, z_tn, w_cst, w_var, w_glo, w_bin, w_neg, w_not, w_and, w_or, w_cmp, w_cmp2, w_ife, w_idx, w_slc, w_no, w_so, w_cno, w_cso, w_tup, w_lst, w_dnew, w_nil, w_cons, w_call, w_blt, w_isi, w_iown, w_iseq, w_rng1, w_rng2b, nxK, varE, assignG, own1, oOf, Ev.putK, viewI, O.d, List.getElem?_cons_zero, List.getElem?_cons_succ, List.set_cons_zero, List.set_cons_succ, Option.some.injEq, exists_eq_left', D.bl.injEq, D.int.injEq, EV.own.injEq, b_add, b_adds, b_addl, b_mull, b_muls, b_sub, b_mul, b_fdiv, b_mod, b_pow, at0, at1, at2, at3, c_lt, c_le, c_gt, c_ge, c_eqi, c_nei, c_eqs, c_nes, c_eqb, Option.map_some, len_lst, len_tup, len_scr, f_abs, f_max, f_min, f_intb, f_inti, f_str, f_list_l, f_list_t, seq_lst, seq_str, seq_scr, ck_no, ite_true, if_true, if_false, Bool.false_eq_true, reduceCtorEq, decide_eq_true_eq, decide_eq_false_iff_not, Bool.not_eq_true', Bool.not_eq_false', Bool.not_true, Bool.not_false, not_true_eq_false, not_false_eq_true, true_and, and_true, forall_const, false_implies, implies_true, lpK, w_rngDb, c_isN, c_isnotN, w_mth, z_mcall, mc_own, mc_ref, z_mcallTo, mt_own, z_setK, si_own, si_ref, mw_app, mw_ext, sw_dct, keyOk_int, keyOk_str, setAll, idx_lst, idx_tup, z_retO, ro_own, fz_own, fz_v, ov_lst, ov_dct, ov_non, ov_int, ov_bl, ov_str, ov_tup, w_callF, w_callO, w_lset, Ev.w_rev, w_fld, w_meth, w_mkI, w_setd, w_dcp, z_setX, z_setF, cd_is_log, i1]
  refine lc_map (f := fun _ => .bl true) (xs := log.map .str) ?_ (by rw [List.length_map]; omega) ?_ ?_
  · simp only [s_nil, s_seq, s_frz, z_asg, z_asgO, z_asgR, z_par, z_pn, z_pc, z_aug, z_ex, z_ret, z_retN, z_retR, z_ite, z_brk, z_cont, z_pass, z_setIs, z_tn, w_cst, w_var, w_glo, w_bin, w_neg, w_not, w_and, w_or, w_cmp, w_cmp2, w_ife, w_idx, w_slc, w_no, w_so, w_cno, w_cso, w_tup, w_lst, w_dnew, w_nil, w_cons, w_call, w_blt, w_isi, w_iown, w_iseq, w_rng1, w_rng2b, nxK, varE, assignG, own1, oOf, Ev.putK, viewI, O.d, List.getElem?_cons_zero, List.getElem?_cons_succ, List.set_cons_zero, List.set_cons_succ, Option.some.injEq, exists_eq_left', D.bl.injEq, D.int.injEq, EV.own.injEq, b_add, b_adds, b_addl, b_mull, b_muls, b_sub, b_mul, b_fdiv, b_mod, b_pow, at0, at1, at2, at3, c_lt, c_le, c_gt, c_ge, c_eqi, c_nei, c_eqs, c_nes, c_eqb, Option.map_some, len_lst, len_tup, len_scr, f_abs, f_max, f_min, f_intb, f_inti, f_str, f_list_l, f_list_t, seq_lst, seq_str, seq_scr, ck_no, ite_true, if_true, if_false, Bool.false_eq_true, reduceCtorEq, decide_eq_true_eq, decide_eq_false_iff_not, Bool.not_eq_true', Bool.not_eq_false', Bool.not_true, Bool.not_false, not_true_eq_false, not_false_eq_true, true_and, and_true, forall_const, false_implies, implies_true, lpK, w_rngDb, c_isN, c_isnotN, w_mth, z_mcall, mc_own, mc_ref, z_mcallTo, mt_own, z_setK, si_own, si_ref, mw_app, mw_ext, sw_dct, keyOk_int, keyOk_str, setAll, idx_lst, idx_tup, z_retO, ro_own, fz_own, fz_v, ov_lst, ov_dct, ov_non, ov_int, ov_bl, ov_str, ov_tup, w_callF, w_callO, w_lset, Ev.w_rev, w_fld, w_meth, w_mkI, w_setd, w_dcp, z_setX, z_setF]
  · intro x hx
    obtain ⟨k, h1, rfl⟩ := List.mem_map.mp hx
    refine ⟨_, rfl, ?_⟩
    simp only [s_nil, s_seq, s_frz, z_asg, z_asgO, z_asgR, z_par, z_pn, z_pc, z_aug, z_ex, z_ret, z_retN, z_retR, z_ite, z_brk, z_cont, z_pass, z_setIs, z_tn, w_cst, w_var, w_glo, w_bin, w_neg, w_not, w_and, w_or, w_cmp, w_cmp2, w_ife, w_idx, w_slc, w_no, w_so, w_cno, w_cso, w_tup, w_lst, w_dnew, w_nil, w_cons, w_call, w_blt, w_isi, w_iown, w_iseq, w_rng1, w_rng2b, nxK, varE, assignG, own1, oOf, Ev.putK, viewI, O.d, List.getElem?_cons_zero, List.getElem?_cons_succ, List.set_cons_zero, List.set_cons_succ, Option.some.injEq, exists_eq_left', D.bl.injEq, D.int.injEq, EV.own.injEq, b_add, b_adds, b_addl, b_mull, b_muls, b_sub, b_mul, b_fdiv, b_mod, b_pow, at0, at1, at2, at3, c_lt, c_le, c_gt, c_ge, c_eqi, c_nei, c_eqs, c_nes, c_eqb, Option.map_some, len_lst, len_tup, len_scr, f_abs, f_max, f_min, f_intb, f_inti, f_str, f_list_l, f_list_t, seq_lst, seq_str, seq_scr, ck_no, ite_true, if_true, if_false, Bool.false_eq_true, reduceCtorEq, decide_eq_true_eq, decide_eq_false_iff_not, Bool.not_eq_true', Bool.not_eq_false', Bool.not_true, Bool.not_false, not_true_eq_false, not_false_eq_true, true_and, and_true, forall_const, false_implies, implies_true, lpK, w_rngDb, c_isN, c_isnotN, w_mth, z_mcall, mc_own, mc_ref, z_mcallTo, mt_own, z_setK, si_own, si_ref, mw_app, mw_ext, sw_dct, keyOk_int, keyOk_str, setAll, idx_lst, idx_tup, z_retO, ro_own, fz_own, fz_v, ov_lst, ov_dct, ov_non, ov_int, ov_bl, ov_str, ov_tup, w_callF, w_callO, w_lset, Ev.w_rev, w_fld, w_meth, w_mkI, w_setd, w_dcp, z_setX, z_setF, wipeE]
    exact key_all (hk k h1) ⟨rfl, rfl⟩
  · rw [f_all (allT fun d hd => by
      obtain ⟨_, _, rfl⟩ := List.mem_map.mp hd
      rfl)]
    exact ⟨_, rfl, q⟩
theorem isint_all [M_is_integer P] {wf n : Nat} {v a b : Int} {st : Store} {Q : D → Store → Prop} (h0 : a ≤ v) (h1 : v ≤ b) (q : Q (.bl true) st) : (callF P wf (n + 1) "is_integer" [.int v, .int a, .int b] st).all Q := by
  refine call_all (cd := cd_is_integer) (env := [.v (.int v), .v (.int a), .v (.int b)]) M_is_integer.d_is_integer rfl ?_
  have i1 : isTy st (.int v) "int" = some true := by rfl
  have i2 : isTy st (.int v) "bool" = some false := by rfl
  have i3 : cmpop .is (.int b) .non st = some false := rfl
  simp only [s_nil, s_seq, s_frz, z_asg, z_asgO, z_asgR, z_par, z_pn, z_pc, z_aug, z_ex, z_ret, z_retN, z_retR, z_ite, z_brk, z_cont, z_pass, z_setIs, z_tn, w_cst, w_var, w_glo, w_bin, w_neg, w_not, w_and, w_or, w_cmp, w_cmp2, w_ife, w_idx, w_slc, w_no, w_so, w_cno, w_cso, w_tup, w_lst, w_dnew, w_nil, w_cons, w_call, w_blt, w_isi, w_iown, w_iseq, w_rng1, w_rng2b, nxK, varE, assignG, own1, oOf, Ev.putK, viewI, O.d, List.getElem?_cons_zero, List.getElem?_cons_succ, List.set_cons_zero, List.set_cons_succ, Option.some.injEq, exists_eq_left', D.bl.injEq, D.int.injEq, EV.own.injEq, b_add, b_adds, b_addl, b_mull, b_muls, b_sub, b_mul, b_fdiv, b_mod, b_pow, at0, at1, at2, at3, c_lt, c_le, c_gt, c_ge, c_eqi, c_nei, c_eqs, c_nes, c_eqb, Option.map_some, len_lst, len_tup, len_scr, f_abs, f_max, f_min, f_intb, f_inti, f_str, f_list_l, f_list_t, seq_lst, seq_str, seq_scr, ck_no, ite_true, if_true, if_false, Bool.false_eq_true, reduceCtorEq, decide_eq_true_eq, decide_eq_false_iff_not, Bool.not_eq_true', Bool.not_eq_false', Bool.not_true, Bool.not_false, not_true_eq_false, not_false_eq_true, true_and, and_true, forall_const, false_implies, implies_true, lpK, w_rngDb, c_isN, c_isnotN, w_mth, z_mcall, mc_own, mc_ref, z_mcallTo, mt_own, z_setK, si_own, si_ref, mw_app, mw_ext, sw_dct, keyOk_int, keyOk_str, setAll, idx_lst, idx_tup, z_retO, ro_own, fz_own, fz_v, ov_lst, ov_dct, ov_non, ov_int, ov_bl, ov_str, ov_tup, w_callF, w_callO, w_lset, Ev.w_rev, w_fld, w_meth, w_mkI, w_setd, w_dcp, z_setX, z_setF, cd_is_integer, i1, i2, i3]
  exact ⟨fun z => by exfalso; omega, fun _ => by simpa only [h1, decide_true] using q⟩
theorem reqlog_eq [M_require_log P] {wf n : Nat} {log : List Str} {st : Store} (hz : okLog log) : callF P wf (n + 3) "require_log" [.lst (log.map .str)] st = .ok .non st := by
  refine eq_of_all (call_all (cd := cd_require_log) (env := [.v (.lst (log.map .str))]) M_require_log.d_require_log rfl ?_)
  have hl : callF P wf (n + 2) "is_log" [.lst (log.map .str)] st = .ok (.bl true) st := eq_of_all (islog_all (Nat.le_trans hz.1 (by decide)) hz.2 ⟨rfl, rfl⟩)
  simp only [s_nil, s_seq, s_frz, z_asg, z_asgO, z_asgR, z_par, z_pn, z_pc, z_aug, z_ex, z_ret, z_retN, z_retR, z_ite, z_brk, z_cont, z_pass, z_setIs, z_tn, w_cst, w_var, w_glo, w_bin, w_neg, w_not, w_and, w_or, w_cmp, w_cmp2, w_ife, w_idx, w_slc, w_no, w_so, w_cno, w_cso, w_tup, w_lst, w_dnew, w_nil, w_cons, w_call, w_blt, w_isi, w_iown, w_iseq, w_rng1, w_rng2b, nxK, varE, assignG, own1, oOf, Ev.putK, viewI, O.d, List.getElem?_cons_zero, List.getElem?_cons_succ, List.set_cons_zero, List.set_cons_succ, Option.some.injEq, exists_eq_left', D.bl.injEq, D.int.injEq, EV.own.injEq, b_add, b_adds, b_addl, b_mull, b_muls, b_sub, b_mul, b_fdiv, b_mod, b_pow, at0, at1, at2, at3, c_lt, c_le, c_gt, c_ge, c_eqi, c_nei, c_eqs, c_nes, c_eqb, Option.map_some, len_lst, len_tup, len_scr, f_abs, f_max, f_min, f_intb, f_inti, f_str, f_list_l, f_list_t, seq_lst, seq_str, seq_scr, ck_no, ite_true, if_true, if_false, Bool.false_eq_true, reduceCtorEq, decide_eq_true_eq, decide_eq_false_iff_not, Bool.not_eq_true', Bool.not_eq_false', Bool.not_true, Bool.not_false, not_true_eq_false, not_false_eq_true, true_and, and_true, forall_const, false_implies, implies_true, lpK, w_rngDb, c_isN, c_isnotN, w_mth, z_mcall, mc_own, mc_ref, z_mcallTo, mt_own, z_setK, si_own, si_ref, mw_app, mw_ext, sw_dct, keyOk_int, keyOk_str, setAll, idx_lst, idx_tup, z_retO, ro_own, fz_own, fz_v, ov_lst, ov_dct, ov_non, ov_int, ov_bl, ov_str, ov_tup, w_callF, w_callO, w_lset, Ev.w_rev, w_fld, w_meth, w_mkI, w_setd, w_dcp, z_setX, z_setF, cd_require_log, hl, all_ok]
end FK
/-! FB: the draws of the laws about pairs -/
open PySem L2 Ev PySem.Spec PyProof.Rows FK
namespace FB
def cd__law_source : CDef := ⟨2, 3, [], (.cons (.asg (.nm 2) (.ife (.cmp .lt (.var 1) (.blt "len" (.cons (.var 0) .nil))) (.idx (.var 0) (.var 1)) (.cst (.int 0)))) (.cons (.retR (.lst (.cons (.blt "max" (.cons (.cst (.int 0)) (.cons (.bin .sub (.var 2) (.bin .pow (.cst (.int 10)) (.cst (.int 18)))) .nil))) (.cons (.bin .add (.bin .mul (.bin .add (.bin .mod (.var 2) (.bin .add (.bin .pow (.cst (.int 10)) (.cst (.int 38))) (.cst (.int 133)))) (.cst (.int 1))) (.cst (.int 64))) (.var 1)) (.cons (.cst (.int 0)) .nil))))) .nil))⟩
class M__law_source (P : Prog) : Prop where
  d__law_source : assoc P.defs "_law_source" = some cd__law_source
def cd__law_draw : CDef := ⟨2, 4, [], (.cons (.ite (.cmp .gt (.idx (.var 0) (.cst (.int 0))) (.cst (.int 0))) (.cons (.asg (.nm 3) (.bin .mod (.idx (.var 0) (.cst (.int 0))) (.var 1))) (.cons (.setI 0 (.cst (.int 0)) (.bin .fdiv (.idx (.var 0) (.cst (.int 0))) (.var 1))) (.cons (.ret (.var 3)) .nil))) .nil) (.cons (.setI 0 (.cst (.int 2)) (.bin .add (.idx (.var 0) (.cst (.int 2))) (.cst (.int 1)))) (.cons (.asg (.nm 2) (.bin .mod (.bin .pow (.bin .add (.idx (.var 0) (.cst (.int 1))) (.bin .mul (.cst (.int 67867979)) (.idx (.var 0) (.cst (.int 2))))) (.cst (.int 3))) (.bin .add (.bin .pow (.cst (.int 10)) (.cst (.int 39))) (.cst (.int 3))))) (.cons (.asg (.nm 2) (.bin .mod (.bin .pow (.bin .add (.var 2) (.bin .mul (.cst (.int 982451707)) (.idx (.var 0) (.cst (.int 2))))) (.cst (.int 2))) (.bin .add (.bin .pow (.cst (.int 10)) (.cst (.int 37))) (.cst (.int 43))))) (.cons (.ret (.bin .mod (.bin .fdiv (.var 2) (.bin .pow (.cst (.int 10)) (.cst (.int 7)))) (.var 1))) .nil)))))⟩
class M__law_draw (P : Prog) : Prop where
  d__law_draw : assoc P.defs "_law_draw" = some cd__law_draw
def cd__law_keys : CDef := ⟨2, 5, [], (.cons (.asgR 2 (.lst (.cons (.cst (.str "a")) (.cons (.cst (.str "b")) (.cons (.cst (.str "c")) (.cons (.cst (.str "d_1")) (.cons (.cst (.str "e")) (.cons (.cst (.str "key_of_12_ch")) (.cons (.cst (.str "x9")) (.cons (.cst (.str "z")) (.cons (.cst (.str "price")) (.cons (.cst (.str "q_")) (.cons (.cst (.str "m")) (.cons (.cst (.str "n0")) (.cons (.cst (.str "ab")) (.cons (.cst (.str "a_")) (.cons (.cst (.str "y7_7")) (.cons (.cst (.str "t")) .nil)))))))))))))))))) (.cons (.asgR 2 (.bin .add (.var 2) (.lc [4] (.nm 4) (.rng1 (.blt "max" (.cons (.cst (.int 0)) (.cons (.bin .sub (.var 1) (.cst (.int 16))) .nil)))) .no (.bin .add (.cst (.str "k")) (.blt "str" (.cons (.var 4) .nil)))))) (.cons (.ret (.lc [3] (.nm 3) (.rng1 (.bin .add (.cst (.int 1)) (.call "_law_draw" (.cons (.var 0) (.cons (.var 1) .nil))))) .no (.mut "pop" 2 (.cons (.call "_law_draw" (.cons (.var 0) (.cons (.blt "len" (.cons (.var 2) .nil)) .nil))) .nil)))) .nil)))⟩
class M__law_keys (P : Prog) : Prop extends M__law_draw P where
  d__law_keys : assoc P.defs "_law_keys" = some cd__law_keys
def cd__law_log : CDef := ⟨3, 9, [], (.cons (.par [(0, 4), (1, 5)] (.cons (.callF "_law_keys" (.cons (.var 0) (.cons (.var 1) .nil))) (.cons (.lst .nil) .nil))) (.cons (.par [(0, 6), (0, 7)] (.cons (.call "_law_draw" (.cons (.var 0) (.cons (.cst (.int 3)) .nil))) (.cons (.call "_law_draw" (.cons (.var 0) (.cons (.bin .add (.var 2) (.cst (.int 1))) .nil))) .nil))) (.cons (.for_ (.nm 3) (.rng1 (.var 7)) (.cons (.asg (.nm 8) (.idx (.lst (.cons (.call "_law_draw" (.cons (.var 0) (.cons (.blt "len" (.cons (.var 4) .nil)) .nil))) (.cons (.bin .mod (.var 3) (.blt "len" (.cons (.var 4) .nil))) (.cons (.blt "min" (.cons (.call "_law_draw" (.cons (.var 0) (.cons (.cst (.int 3)) .nil))) (.cons (.bin .sub (.blt "len" (.cons (.var 4) .nil)) (.cst (.int 1))) .nil))) .nil)))) (.var 6))) (.cons (.ite (.and (.cmp .eq (.var 6) (.cst (.int 1))) (.cmp .eq (.call "_law_draw" (.cons (.var 0) (.cons (.cst (.int 6)) .nil))) (.cst (.int 0)))) (.cons (.asg (.nm 8) (.call "_law_draw" (.cons (.var 0) (.cons (.blt "len" (.cons (.var 4) .nil)) .nil)))) .nil) .nil) (.cons (.mcall 5 "append" (.cons (.idx (.var 4) (.var 8)) .nil)) .nil)))) (.cons (.retO 5) .nil))))⟩
class M__law_log (P : Prog) : Prop extends M__law_keys P where
  d__law_log : assoc P.defs "_law_log" = some cd__law_log
variable {P : Prog}
/-- no list stands in a list of the store -/
def NL (st : Store) : Prop := st.all noLO = true
theorem NL.push {st : Store} {o : O} (h : NL st) (ho : noLO o = true) : NL (st ++ [o]) := by
  unfold NL
  rw [List.all_append, h]
  simp [ho]
theorem NL.set {st : Store} {o : O} (h : NL st) (ho : noLO o = true) (i : Nat) : NL (st.set i o) := by
  refine List.all_eq_true.mpr fun x hx => ?_
  rcases List.mem_or_eq_of_mem_set hx with q | rfl
  · exact List.all_eq_true.mp h x q
  · exact ho
theorem noLs_strs : ∀ l : List Str, noLs (l.map .str) = true
  | [] => rfl
  | x :: r => by simp [noLs, noL, noLs_strs r]
theorem noLs_of : ∀ {l : List D}, (∀ d, d ∈ l → noL d = true) → noLs l = true
  | [], _ => rfl
  | x :: r, h => by
    simp only [noLs, h x List.mem_cons_self, noLs_of fun d hd => h d (List.mem_cons_of_mem _ hd), Bool.and_self]
def PS (st : Store) (l : Nat) (b : Int) : Prop := (∃ a s c : Int, st[l]? = some (.lst [.int a, .int s, .int c]) ∧ 0 ≤ a ∧ 0 ≤ s ∧ s < 2 ^ 140 ∧ 0 ≤ c ∧ c ≤ b) ∧ NL st
theorem mul_small2 {i j : Int} (h : j.natAbs < 18446744073709551616) : mulOk i j = true := by
  unfold mulOk
  simp [h]
theorem pow_ok2 {i : Int} {k : Nat} (h : i.natAbs < 2 ^ k) (hk : k < 1000000) : powOk i 2 = true := by
  unfold powOk
  rw [Bool.and_eq_true]
  refine ⟨by decide, decide_eq_true ?_⟩
  unfold Builtin.Int.intBits
  split
  · simp
  · rename_i hz
    have hz : i ≠ 0 := by simpa using hz
    have : i.natAbs.log2 < k := (Nat.log2_lt (by omega)).mpr h
    omega
theorem draw_all [M__law_draw P] {wf n l : Nat} {m b : Int} {st : Store} {Q : D → Store → Prop} (hp : PS st l b) (hb : b < 2 ^ 40) (h0 : 0 < m) (h1 : m < 2 ^ 62)
    (k : ∀ r st', 0 ≤ r → r < m → PS st' l (b + 1) → st'.length = st.length → (∀ i, i ≠ l → st'[i]? = st[i]?) → Q (.int r) st') : (callF P wf (n + 1) "_law_draw" [.ref l, .int m] st).all Q := by
  obtain ⟨⟨a, s, c, hl, ha, hs, hs2, hc, hc2⟩, hN⟩ := hp
  have hlt : l < st.length := some_lt hl
  have fin : ∀ (r a' c' : Int), 0 ≤ r → r < m → 0 ≤ a' → 0 ≤ c' → c' ≤ b + 1 → Q (.int r) (st.set l (.lst [.int a', .int s, .int c'])) := fun r a' c' q1 q2 q3 q4 q5 => by
    refine k r _ q1 q2 ⟨⟨a', s, c', by rw [List.getElem?_set_self hlt], q3, hs, hs2, q4, q5⟩, hN.set (by simp [noLO, noLs, noL]) _⟩ (List.length_set ..) fun i hi => List.getElem?_set_ne (Ne.symm hi)
  refine call_all (cd := cd__law_draw) (env := [.v (.ref l), .v (.int m), .un, .un]) M__law_draw.d__law_draw rfl ?_
  simp only [s_nil, s_seq, s_frz, z_asg, z_asgO, z_asgR, z_par, z_pn, z_pc, z_aug, z_ex, z_ret, z_retN, z_retR, z_ite, z_brk, z_cont, z_pass, z_setIs, z_tn, w_cst, w_var, w_glo, w_bin, w_neg, w_not, w_and, w_or, w_cmp, w_cmp2, w_ife, w_idx, w_slc, w_no, w_so, w_cno, w_cso, w_tup, w_lst, w_dnew, w_nil, w_cons, w_call, w_blt, w_isi, w_iown, w_iseq, w_rng1, w_rng2, nxK, varE, assignG, own1, oOf, Ev.putK, viewI, O.d, List.getElem?_cons_zero, List.getElem?_cons_succ, List.set_cons_zero, List.set_cons_succ, Option.some.injEq, exists_eq_left', D.bl.injEq, D.int.injEq, EV.own.injEq, b_add, b_adds, b_addl, b_mull, b_muls, b_sub, b_mul, b_fdiv, b_mod, b_pow, at0, at1, at2, at3, c_lt, c_le, c_gt, c_ge, c_eqi, c_nei, c_eqs, c_nes, c_eqb, Option.map_some, len_lst, len_tup, len_scr, f_abs, f_max, f_min, f_intb, f_inti, f_str, f_list_l, f_list_t, seq_lst, seq_str, seq_scr, ck_no, ite_true, if_true, if_false, Bool.false_eq_true, reduceCtorEq, decide_eq_true_eq, decide_eq_false_iff_not, Bool.not_eq_true', Bool.not_eq_false', Bool.not_true, Bool.not_false, not_true_eq_false, not_false_eq_true, true_and, and_true, forall_const, false_implies, implies_true, z_retO, ro_own, fz_own, fz_v, ov_lst, ov_dct, ov_non, ov_int, ov_bl, ov_str, ov_tup, w_callF, w_callO, cd__law_draw, idx_ref hl]
  refine ⟨fun hpos => ⟨h0, z_setI ?_⟩, fun hneg => z_setI ?_⟩
  · simp only [s_nil, s_seq, s_frz, z_asg, z_asgO, z_asgR, z_par, z_pn, z_pc, z_aug, z_ex, z_ret, z_retN, z_retR, z_ite, z_brk, z_cont, z_pass, z_setIs, z_tn, w_cst, w_var, w_glo, w_bin, w_neg, w_not, w_and, w_or, w_cmp, w_cmp2, w_ife, w_idx, w_slc, w_no, w_so, w_cno, w_cso, w_tup, w_lst, w_dnew, w_nil, w_cons, w_call, w_blt, w_isi, w_iown, w_iseq, w_rng1, w_rng2, nxK, varE, assignG, own1, oOf, Ev.putK, viewI, O.d, List.getElem?_cons_zero, List.getElem?_cons_succ, List.set_cons_zero, List.set_cons_succ, Option.some.injEq, exists_eq_left', D.bl.injEq, D.int.injEq, EV.own.injEq, b_add, b_adds, b_addl, b_mull, b_muls, b_sub, b_mul, b_fdiv, b_mod, b_pow, at0, at1, at2, at3, c_lt, c_le, c_gt, c_ge, c_eqi, c_nei, c_eqs, c_nes, c_eqb, Option.map_some, len_lst, len_tup, len_scr, f_abs, f_max, f_min, f_intb, f_inti, f_str, f_list_l, f_list_t, seq_lst, seq_str, seq_scr, ck_no, ite_true, if_true, if_false, Bool.false_eq_true, reduceCtorEq, decide_eq_true_eq, decide_eq_false_iff_not, Bool.not_eq_true', Bool.not_eq_false', Bool.not_true, Bool.not_false, not_true_eq_false, not_false_eq_true, true_and, and_true, forall_const, false_implies, implies_true, z_retO, ro_own, fz_own, fz_v, ov_lst, ov_dct, ov_non, ov_int, ov_bl, ov_str, ov_tup, w_callF, w_callO, idx_ref hl]
    refine ⟨⟨h0, log2_small (Int.le_of_lt h0) h1⟩, _, _, put_ref (p := .lst [.int (a / m), .int s, .int c]) rfl hl rfl, ?_⟩
    simp only [s_nil, s_seq, s_frz, z_asg, z_asgO, z_asgR, z_par, z_pn, z_pc, z_aug, z_ex, z_ret, z_retN, z_retR, z_ite, z_brk, z_cont, z_pass, z_setIs, z_tn, w_cst, w_var, w_glo, w_bin, w_neg, w_not, w_and, w_or, w_cmp, w_cmp2, w_ife, w_idx, w_slc, w_no, w_so, w_cno, w_cso, w_tup, w_lst, w_dnew, w_nil, w_cons, w_call, w_blt, w_isi, w_iown, w_iseq, w_rng1, w_rng2, nxK, varE, assignG, own1, oOf, Ev.putK, viewI, O.d, List.getElem?_cons_zero, List.getElem?_cons_succ, List.set_cons_zero, List.set_cons_succ, Option.some.injEq, exists_eq_left', D.bl.injEq, D.int.injEq, EV.own.injEq, b_add, b_adds, b_addl, b_mull, b_muls, b_sub, b_mul, b_fdiv, b_mod, b_pow, at0, at1, at2, at3, c_lt, c_le, c_gt, c_ge, c_eqi, c_nei, c_eqs, c_nes, c_eqb, Option.map_some, len_lst, len_tup, len_scr, f_abs, f_max, f_min, f_intb, f_inti, f_str, f_list_l, f_list_t, seq_lst, seq_str, seq_scr, ck_no, ite_true, if_true, if_false, Bool.false_eq_true, reduceCtorEq, decide_eq_true_eq, decide_eq_false_iff_not, Bool.not_eq_true', Bool.not_eq_false', Bool.not_true, Bool.not_false, not_true_eq_false, not_false_eq_true, true_and, and_true, forall_const, false_implies, implies_true, z_retO, ro_own, fz_own, fz_v, ov_lst, ov_dct, ov_non, ov_int, ov_bl, ov_str, ov_tup, w_callF, w_callO]
    exact fin _ _ _ (Int.emod_nonneg _ (by omega)) (Int.emod_lt_of_pos _ h0) (Int.ediv_nonneg ha (Int.le_of_lt h0)) hc (by omega)
  · simp only [s_nil, s_seq, s_frz, z_asg, z_asgO, z_asgR, z_par, z_pn, z_pc, z_aug, z_ex, z_ret, z_retN, z_retR, z_ite, z_brk, z_cont, z_pass, z_setIs, z_tn, w_cst, w_var, w_glo, w_bin, w_neg, w_not, w_and, w_or, w_cmp, w_cmp2, w_ife, w_idx, w_slc, w_no, w_so, w_cno, w_cso, w_tup, w_lst, w_dnew, w_nil, w_cons, w_call, w_blt, w_isi, w_iown, w_iseq, w_rng1, w_rng2, nxK, varE, assignG, own1, oOf, Ev.putK, viewI, O.d, List.getElem?_cons_zero, List.getElem?_cons_succ, List.set_cons_zero, List.set_cons_succ, Option.some.injEq, exists_eq_left', D.bl.injEq, D.int.injEq, EV.own.injEq, b_add, b_adds, b_addl, b_mull, b_muls, b_sub, b_mul, b_fdiv, b_mod, b_pow, at0, at1, at2, at3, c_lt, c_le, c_gt, c_ge, c_eqi, c_nei, c_eqs, c_nes, c_eqb, Option.map_some, len_lst, len_tup, len_scr, f_abs, f_max, f_min, f_intb, f_inti, f_str, f_list_l, f_list_t, seq_lst, seq_str, seq_scr, ck_no, ite_true, if_true, if_false, Bool.false_eq_true, reduceCtorEq, decide_eq_true_eq, decide_eq_false_iff_not, Bool.not_eq_true', Bool.not_eq_false', Bool.not_true, Bool.not_false, not_true_eq_false, not_false_eq_true, true_and, and_true, forall_const, false_implies, implies_true, z_retO, ro_own, fz_own, fz_v, ov_lst, ov_dct, ov_non, ov_int, ov_bl, ov_str, ov_tup, w_callF, w_callO, idx_ref hl]
    refine ⟨_, _, put_ref (p := .lst [.int a, .int s, .int (c + 1)]) rfl hl rfl, ?_⟩
    have hl2 : (st.set l (.lst [.int a, .int s, .int (c + 1)]))[l]? = some (.lst [.int a, .int s, .int (c + 1)]) := List.getElem?_set_self hlt
    simp only [s_nil, s_seq, s_frz, z_asg, z_asgO, z_asgR, z_par, z_pn, z_pc, z_aug, z_ex, z_ret, z_retN, z_retR, z_ite, z_brk, z_cont, z_pass, z_setIs, z_tn, w_cst, w_var, w_glo, w_bin, w_neg, w_not, w_and, w_or, w_cmp, w_cmp2, w_ife, w_idx, w_slc, w_no, w_so, w_cno, w_cso, w_tup, w_lst, w_dnew, w_nil, w_cons, w_call, w_blt, w_isi, w_iown, w_iseq, w_rng1, w_rng2, nxK, varE, assignG, own1, oOf, Ev.putK, viewI, O.d, List.getElem?_cons_zero, List.getElem?_cons_succ, List.set_cons_zero, List.set_cons_succ, Option.some.injEq, exists_eq_left', D.bl.injEq, D.int.injEq, EV.own.injEq, b_add, b_adds, b_addl, b_mull, b_muls, b_sub, b_mul, b_fdiv, b_mod, b_pow, at0, at1, at2, at3, c_lt, c_le, c_gt, c_ge, c_eqi, c_nei, c_eqs, c_nes, c_eqb, Option.map_some, len_lst, len_tup, len_scr, f_abs, f_max, f_min, f_intb, f_inti, f_str, f_list_l, f_list_t, seq_lst, seq_str, seq_scr, ck_no, ite_true, if_true, if_false, Bool.false_eq_true, reduceCtorEq, decide_eq_true_eq, decide_eq_false_iff_not, Bool.not_eq_true', Bool.not_eq_false', Bool.not_true, Bool.not_false, not_true_eq_false, not_false_eq_true, true_and, and_true, forall_const, false_implies, implies_true, z_retO, ro_own, fz_own, fz_v, ov_lst, ov_dct, ov_non, ov_int, ov_bl, ov_str, ov_tup, w_callF, w_callO, idx_ref hl2]
    have q1 := Int.emod_nonneg ((s + 67867979 * (c + 1)) ^ Int.toNat 3) (show (10 ^ Int.toNat 39 + 3 : Int) ≠ 0 by decide)
    have q2 := Int.emod_lt_of_pos ((s + 67867979 * (c + 1)) ^ Int.toNat 3) (show (0 : Int) < 10 ^ Int.toNat 39 + 3 by decide)
    have q3 : (10 ^ Int.toNat 39 + 3 : Int) < 2 ^ 140 := by decide
    refine ⟨mul_small (by decide), pow_ok (k := 200) (by omega) (by decide), by decide +kernel, by decide, mul_small (by decide), pow_ok2 (k := 200) (by omega) (by decide), by decide +kernel, by decide, by decide +kernel, ⟨by decide, by decide⟩, h0, ?_⟩
    exact fin _ _ _ (Int.emod_nonneg _ (by omega)) (Int.emod_lt_of_pos _ h0) ha (by omega) (by omega)
def Fr (l : Nat) (st st' : Store) : Prop := st.length ≤ st'.length ∧ ∀ i, i ≠ l → i < st.length → st'[i]? = st[i]?
theorem Fr.refl (l : Nat) (st : Store) : Fr l st st := ⟨Nat.le_refl _, fun _ _ _ => rfl⟩
theorem Fr.trans {l : Nat} {a b c : Store} (h : Fr l a b) (k : Fr l b c) : Fr l a c := ⟨Nat.le_trans h.1 k.1, fun i h1 h2 => (k.2 i h1 (Nat.lt_of_lt_of_le h2 h.1)).trans (h.2 i h1 h2)⟩
theorem Fr.push (l : Nat) (st : Store) (o : O) : Fr l st (st ++ [o]) := ⟨by simp, fun i _ h => List.getElem?_append_left h⟩
theorem PS.mono {st : Store} {l : Nat} {b c : Int} (h : PS st l b) (hb : b ≤ c) : PS st l c := by
  obtain ⟨⟨a, s, c', h1, h2, h3, h4, h5, h6⟩, hN⟩ := h
  exact ⟨⟨a, s, c', h1, h2, h3, h4, h5, by omega⟩, hN⟩
theorem PS.lt {st : Store} {l : Nat} {b : Int} (h : PS st l b) : l < st.length := by
  obtain ⟨⟨a, s, c', h1, _⟩, _⟩ := h
  exact some_lt h1
theorem PS.push {st : Store} {l : Nat} {b : Int} (h : PS st l b) {o : O} (ho : noLO o = true) : PS (st ++ [o]) l b := by
  have := h.lt
  obtain ⟨⟨a, s, c', h1, h2⟩, hN⟩ := h
  exact ⟨⟨a, s, c', by rw [List.getElem?_append_left this]; exact h1, h2⟩, hN.push ho⟩
theorem PS.set {st : Store} {l : Nat} {b : Int} (h : PS st l b) {o : O} (ho : noLO o = true) {i : Nat} (hi : i ≠ l) : PS (st.set i o) l b := by
  obtain ⟨⟨a, s, c', h1, h2⟩, hN⟩ := h
  exact ⟨⟨a, s, c', by rw [List.getElem?_set_ne hi]; exact h1, h2⟩, hN.set ho _⟩
theorem rngL_len {lo : Int} {n : Nat} : (rngL lo n).length = n := by simp [rngL]
theorem in62_of {i : Int} (h0 : 0 ≤ i) (h1 : i < 2 ^ 62) : in62 i = true := by
  unfold in62
  rw [Bool.and_eq_true]
  exact ⟨decide_eq_true (by omega), decide_eq_true h1⟩
def sSrc : CSs := .cons (.retR (.lst (.cons (.blt "max" (.cons (.cst (.int 0)) (.cons (.bin .sub (.var 2) (.bin .pow (.cst (.int 10)) (.cst (.int 18)))) .nil))) (.cons (.bin .add (.bin .mul (.bin .add (.bin .mod (.var 2) (.bin .add (.bin .pow (.cst (.int 10)) (.cst (.int 38))) (.cst (.int 133)))) (.cst (.int 1))) (.cst (.int 64))) (.var 1)) (.cons (.cst (.int 0)) .nil))))) .nil
theorem source_all [M__law_source P] {wf n : Nat} {ns : List Int} {j : Int} {st : Store} {Q : D → Store → Prop} (hN : NL st) (h0 : 0 ≤ j) (h1 : j < 5) (k : ∀ st', PS st' st.length 0 → st'.length = st.length + 1 → (∀ i, i < st.length → st'[i]? = st[i]?) → Q (.ref st.length) st') : (callF P wf (n + 1) "_law_source" [.scr ns, .int j] st).all Q := by
  have fin : ∀ a s : Int, 0 ≤ a → 0 ≤ s → s < 2 ^ 140 → Q (.ref st.length) (st ++ [.lst [.int a, .int s, .int 0]]) := fun a s q1 q2 q3 =>
    k _ ⟨⟨a, s, 0, by simp, q1, q2, q3, by decide, by decide⟩, hN.push (by simp [noLO, noLs, noL])⟩ (by simp) fun i hi => List.getElem?_append_left hi
  have cell : ∀ c : Int, (evSs (callF P wf n) (assoc P.glob) wf sSrc [.v (.scr ns), .v (.int j), .v (.int c)] st).all fun o s => match o with
      | .nx _ => Q .non s
      | .ret d => Q d s
      | _ => False := fun c => by
    simp only [s_nil, s_seq, s_frz, z_asg, z_asgO, z_asgR, z_par, z_pn, z_pc, z_aug, z_ex, z_ret, z_retN, z_retR, z_ite, z_brk, z_cont, z_pass, z_setIs, z_tn, w_cst, w_var, w_glo, w_bin, w_neg, w_not, w_and, w_or, w_cmp, w_cmp2, w_ife, w_idx, w_slc, w_no, w_so, w_cno, w_cso, w_tup, w_lst, w_dnew, w_nil, w_cons, w_call, w_blt, w_isi, w_iown, w_iseq, w_rng1, w_rng2, nxK, varE, assignG, own1, oOf, Ev.putK, viewI, O.d, List.getElem?_cons_zero, List.getElem?_cons_succ, List.set_cons_zero, List.set_cons_succ, Option.some.injEq, exists_eq_left', D.bl.injEq, D.int.injEq, EV.own.injEq, b_add, b_adds, b_addl, b_mull, b_muls, b_sub, b_mul, b_fdiv, b_mod, b_pow, at0, at1, at2, at3, c_lt, c_le, c_gt, c_ge, c_eqi, c_nei, c_eqs, c_nes, c_eqb, Option.map_some, len_lst, len_tup, len_scr, f_abs, f_max, f_min, f_intb, f_inti, f_str, f_list_l, f_list_t, seq_lst, seq_str, seq_scr, ck_no, ite_true, if_true, if_false, Bool.false_eq_true, reduceCtorEq, decide_eq_true_eq, decide_eq_false_iff_not, Bool.not_eq_true', Bool.not_eq_false', Bool.not_true, Bool.not_false, not_true_eq_false, not_false_eq_true, true_and, and_true, forall_const, false_implies, implies_true, z_retO, ro_own, fz_own, fz_v, ov_lst, ov_dct, ov_non, ov_int, ov_bl, ov_str, ov_tup, w_callF, w_callO, sSrc]
    have q1 := Int.emod_nonneg c (show (10 ^ Int.toNat 38 + 133 : Int) ≠ 0 by decide)
    have q2 := Int.emod_lt_of_pos c (show (0 : Int) < 10 ^ Int.toNat 38 + 133 by decide)
    have q3 : (10 ^ Int.toNat 38 + 133 : Int) < 2 ^ 130 := by decide
    refine ⟨by decide +kernel, by decide +kernel, by decide, mul_small2 (by decide), sm (by simp), fin _ _ ?_ (by omega) (by omega)⟩
    split <;> omega
  refine call_all (cd := cd__law_source) (env := [.v (.scr ns), .v (.int j), .un]) M__law_source.d__law_source rfl ?_
  rw [cd__law_source, s_seq, z_asg, w_ife]
  simp only [w_cmp, w_var, w_blt, w_cons, w_nil, w_idx, w_cst, varE, List.getElem?_cons_zero, List.getElem?_cons_succ, Option.some.injEq, exists_eq_left', len_scr, c_lt, D.bl.injEq, decide_eq_true_eq, decide_eq_false_iff_not]
  refine ⟨fun hlt => ?_, fun _ => ⟨_, rfl, cell 0⟩⟩
  obtain ⟨hi, er⟩ := atN (l := ns.map D.int) h0 (by rw [List.length_map]; exact hlt)
  rw [List.getElem_map] at er
  exact ⟨_, (show idxop (.scr ns) (.int j) st = _ from er), _, rfl, cell _⟩
/-! ### keys -/
def base : List Str := ["a", "b", "c", "d_1", "e", "key_of_12_ch", "x9", "z", "price", "q_", "m", "n0", "ab", "a_", "y7_7", "t"]
theorem base_ok : ∀ k, k ∈ base → keyB k = true := by
  have h : base.all keyB = true := by decide +kernel
  exact fun k hk => List.all_eq_true.mp h k hk
def kn (i : Nat) : Str := ("k" : Str) ++ (toString (i : Int) : Str)
theorem kn_ok : ∀ i, i < 200 → keyB (kn i) = true ∧ (toString (i : Int) : Str).length ≤ 1000 ∧ ((i : Int)).natAbs.log2 < 1920 := by
  have h : (List.range 200).all (fun i => keyB (kn i) && (decide ((toString (i : Int) : Str).length ≤ 1000) && decide (((i : Int)).natAbs.log2 < 1920))) = true := by decide +kernel
  intro i hi
  have := List.all_eq_true.mp h i (List.mem_range.mpr hi)
  simp only [Bool.and_eq_true, decide_eq_true_eq] at this
  exact this
def allN (m : Nat) : List Str := base ++ (List.range (m - 16)).map kn
theorem allN_ok {m : Nat} (h : m ≤ 200) : ∀ k, k ∈ allN m → keyB k = true := fun k hk => by
  rcases List.mem_append.mp hk with q | q
  · exact base_ok k q
  · obtain ⟨i, hi, rfl⟩ := List.mem_map.mp q
    exact (kn_ok i (by have := List.mem_range.mp hi; omega)).1
theorem allN_len {m : Nat} : (allN m).length = 16 + (m - 16) := by
  rw [allN, List.length_append, List.length_map, List.length_range]
  rfl
theorem b_addrl {a b : List D} {r : Nat} {st : Store} {Q : D → Store → Prop} (h : st[r]? = some (.lst a)) : (binop .add (.ref r) (.lst b) st).all Q ↔ a.length + b.length ≤ sizeLine ∧ Q (.lst (a ++ b)) st := by
  have e : binop .add (.ref r) (.lst b) st = (if a.length + b.length ≤ sizeLine then .ok (.lst (a ++ b)) st else .bad) := by
    simp only [binop, asL, h]
  rw [e, all_guard, all_ok]
def knD (d : D) : D := match d with
  | .int i => .str (("k" : Str) ++ (toString i : Str))
  | d => d
/-- some of the names, by draws -/
theorem keys_all [M__law_keys P] {wf n l m : Nat} {b : Int} {st : Store} {Q : D → Store → Prop} (hp : PS st l b) (hb0 : 0 ≤ b) (hb : b < 2 ^ 39) (h0 : 1 ≤ m) (h1 : m ≤ 200)
    (k : ∀ (ks : List Str) st', ks ≠ [] → ks.length ≤ 200 → (∀ k, k ∈ ks → keyB k = true) → PS st' l (b + 300) → Fr l st st' → Q (.lst (ks.map .str)) st') : (callF P wf (n + 2) "_law_keys" [.ref l, .int m] st).all Q := by
  have hs : sizeLine = 16777216 := by rw [sizeLine_eq]
  have hll := hp.lt
  refine call_all (cd := cd__law_keys) (env := [.v (.ref l), .v (.int m), .un, .un, .un]) M__law_keys.d__law_keys rfl ?_
  simp only [s_nil, s_seq, s_frz, z_asg, z_asgO, z_asgR, z_par, z_pn, z_pc, z_aug, z_ex, z_ret, z_retN, z_retR, z_ite, z_brk, z_cont, z_pass, z_setIs, z_tn, w_cst, w_var, w_glo, w_bin, w_neg, w_not, w_and, w_or, w_cmp, w_cmp2, w_ife, w_idx, w_slc, w_no, w_so, w_cno, w_cso, w_tup, w_lst, w_dnew, w_nil, w_cons, w_call, w_blt, w_isi, w_iown, w_iseq, w_rng1, w_rng2, nxK, varE, assignG, own1, oOf, Ev.putK, viewI, O.d, List.getElem?_cons_zero, List.getElem?_cons_succ, List.set_cons_zero, List.set_cons_succ, Option.some.injEq, exists_eq_left', D.bl.injEq, D.int.injEq, EV.own.injEq, b_add, b_adds, b_addl, b_mull, b_muls, b_sub, b_mul, b_fdiv, b_mod, b_pow, at0, at1, at2, at3, c_lt, c_le, c_gt, c_ge, c_eqi, c_nei, c_eqs, c_nes, c_eqb, Option.map_some, len_lst, len_tup, len_scr, f_abs, f_max, f_min, f_intb, f_inti, f_str, f_list_l, f_list_t, seq_lst, seq_str, seq_scr, ck_no, ite_true, if_true, if_false, Bool.false_eq_true, reduceCtorEq, decide_eq_true_eq, decide_eq_false_iff_not, Bool.not_eq_true', Bool.not_eq_false', Bool.not_true, Bool.not_false, not_true_eq_false, not_false_eq_true, true_and, and_true, forall_const, false_implies, implies_true, z_retO, ro_own, fz_own, fz_v, ov_lst, ov_dct, ov_non, ov_int, ov_bl, ov_str, ov_tup, w_callF, w_callO, cd__law_keys]
  refine ⟨sm (by simp), ?_⟩
  have hb1 : (st ++ [O.lst [D.str "a", .str "b", .str "c", .str "d_1", .str "e", .str "key_of_12_ch", .str "x9", .str "z", .str "price", .str "q_", .str "m", .str "n0", .str "ab", .str "a_", .str "y7_7", .str "t"]])[st.length]? = some (.lst (base.map .str)) := by
    rw [List.getElem?_append_right (Nat.le_refl _), Nat.sub_self]
    rfl
  refine lc_map (f := knD) (xs := rngL 0 (m - 16)) ?_ (by rw [rngL_len]; omega) ?_ ?_
  · simp only [s_nil, s_seq, s_frz, z_asg, z_asgO, z_asgR, z_par, z_pn, z_pc, z_aug, z_ex, z_ret, z_retN, z_retR, z_ite, z_brk, z_cont, z_pass, z_setIs, z_tn, w_cst, w_var, w_glo, w_bin, w_neg, w_not, w_and, w_or, w_cmp, w_cmp2, w_ife, w_idx, w_slc, w_no, w_so, w_cno, w_cso, w_tup, w_lst, w_dnew, w_nil, w_cons, w_call, w_blt, w_isi, w_iown, w_iseq, w_rng1, w_rng2, nxK, varE, assignG, own1, oOf, Ev.putK, viewI, O.d, List.getElem?_cons_zero, List.getElem?_cons_succ, List.set_cons_zero, List.set_cons_succ, Option.some.injEq, exists_eq_left', D.bl.injEq, D.int.injEq, EV.own.injEq, b_add, b_adds, b_addl, b_mull, b_muls, b_sub, b_mul, b_fdiv, b_mod, b_pow, at0, at1, at2, at3, c_lt, c_le, c_gt, c_ge, c_eqi, c_nei, c_eqs, c_nes, c_eqb, Option.map_some, len_lst, len_tup, len_scr, f_abs, f_max, f_min, f_intb, f_inti, f_str, f_list_l, f_list_t, seq_lst, seq_str, seq_scr, ck_no, ite_true, if_true, if_false, Bool.false_eq_true, reduceCtorEq, decide_eq_true_eq, decide_eq_false_iff_not, Bool.not_eq_true', Bool.not_eq_false', Bool.not_true, Bool.not_false, not_true_eq_false, not_false_eq_true, true_and, and_true, forall_const, false_implies, implies_true, z_retO, ro_own, fz_own, fz_v, ov_lst, ov_dct, ov_non, ov_int, ov_bl, ov_str, ov_tup, w_callF, w_callO]
    have e : (if ((m : Int) - 16) > 0 then ((m : Int) - 16) else 0).toNat = m - 16 := by split <;> omega
    rw [e]
    exact ⟨in62_of (by split <;> omega) (by split <;> omega), rfl⟩
  · intro x hx
    simp only [rngL, List.mem_map, List.mem_range] at hx
    obtain ⟨i, hi, rfl⟩ := hx
    obtain ⟨_, k2, k3⟩ := kn_ok i (by omega)
    refine ⟨_, rfl, ?_⟩
    rw [Int.zero_add]
    simp only [s_nil, s_seq, s_frz, z_asg, z_asgO, z_asgR, z_par, z_pn, z_pc, z_aug, z_ex, z_ret, z_retN, z_retR, z_ite, z_brk, z_cont, z_pass, z_setIs, z_tn, w_cst, w_var, w_glo, w_bin, w_neg, w_not, w_and, w_or, w_cmp, w_cmp2, w_ife, w_idx, w_slc, w_no, w_so, w_cno, w_cso, w_tup, w_lst, w_dnew, w_nil, w_cons, w_call, w_blt, w_isi, w_iown, w_iseq, w_rng1, w_rng2, nxK, varE, assignG, own1, oOf, Ev.putK, viewI, O.d, List.getElem?_cons_zero, List.getElem?_cons_succ, List.set_cons_zero, List.set_cons_succ, Option.some.injEq, exists_eq_left', D.bl.injEq, D.int.injEq, EV.own.injEq, b_add, b_adds, b_addl, b_mull, b_muls, b_sub, b_mul, b_fdiv, b_mod, b_pow, at0, at1, at2, at3, c_lt, c_le, c_gt, c_ge, c_eqi, c_nei, c_eqs, c_nes, c_eqb, Option.map_some, len_lst, len_tup, len_scr, f_abs, f_max, f_min, f_intb, f_inti, f_str, f_list_l, f_list_t, seq_lst, seq_str, seq_scr, ck_no, ite_true, if_true, if_false, Bool.false_eq_true, reduceCtorEq, decide_eq_true_eq, decide_eq_false_iff_not, Bool.not_eq_true', Bool.not_eq_false', Bool.not_true, Bool.not_false, not_true_eq_false, not_false_eq_true, true_and, and_true, forall_const, false_implies, implies_true, z_retO, ro_own, fz_own, fz_v, ov_lst, ov_dct, ov_non, ov_int, ov_bl, ov_str, ov_tup, w_callF, w_callO, wipeE]
    refine ⟨k3, ?_, rfl⟩
    have : (("k" : Str)).length = 1 := by decide +kernel
    omega
  · rw [b_addrl hb1]
    have e1 : (rngL 0 (m - 16)).map knD = ((List.range (m - 16)).map kn).map .str := by
      rw [rngL, List.map_map, List.map_map]
      refine List.map_congr_left fun i _ => ?_
      show knD (.int (0 + (i : Int))) = .str (kn i)
      rw [Int.zero_add]
      rfl
    have e2 : base.map D.str ++ ((List.range (m - 16)).map kn).map .str = (allN m).map .str := by
      rw [allN, List.map_append]
    rw [e1, e2]
    have hal := allN_len (m := m)
    refine ⟨by rw [List.length_map, List.length_map, List.length_map, List.length_range]; show 16 + _ ≤ _; omega, ?_⟩
    simp only [s_nil, s_seq, s_frz, z_asg, z_asgO, z_asgR, z_par, z_pn, z_pc, z_aug, z_ex, z_ret, z_retN, z_retR, z_ite, z_brk, z_cont, z_pass, z_setIs, z_tn, w_cst, w_var, w_glo, w_bin, w_neg, w_not, w_and, w_or, w_cmp, w_cmp2, w_ife, w_idx, w_slc, w_no, w_so, w_cno, w_cso, w_tup, w_lst, w_dnew, w_nil, w_cons, w_call, w_blt, w_isi, w_iown, w_iseq, w_rng1, w_rng2, nxK, varE, assignG, own1, oOf, Ev.putK, viewI, O.d, List.getElem?_cons_zero, List.getElem?_cons_succ, List.set_cons_zero, List.set_cons_succ, Option.some.injEq, exists_eq_left', D.bl.injEq, D.int.injEq, EV.own.injEq, b_add, b_adds, b_addl, b_mull, b_muls, b_sub, b_mul, b_fdiv, b_mod, b_pow, at0, at1, at2, at3, c_lt, c_le, c_gt, c_ge, c_eqi, c_nei, c_eqs, c_nes, c_eqb, Option.map_some, len_lst, len_tup, len_scr, f_abs, f_max, f_min, f_intb, f_inti, f_str, f_list_l, f_list_t, seq_lst, seq_str, seq_scr, ck_no, ite_true, if_true, if_false, Bool.false_eq_true, reduceCtorEq, decide_eq_true_eq, decide_eq_false_iff_not, Bool.not_eq_true', Bool.not_eq_false', Bool.not_true, Bool.not_false, not_true_eq_false, not_false_eq_true, true_and, and_true, forall_const, false_implies, implies_true, z_retO, ro_own, fz_own, fz_v, ov_lst, ov_dct, ov_non, ov_int, ov_bl, ov_str, ov_tup, w_callF, w_callO]
    generalize hst1 : (st ++ [O.lst [D.str "a", .str "b", .str "c", .str "d_1", .str "e", .str "key_of_12_ch", .str "x9", .str "z", .str "price", .str "q_", .str "m", .str "n0", .str "ab", .str "a_", .str "y7_7", .str "t"]]) = st1 at *
    have hp1 : PS st1 l b := by
      rw [← hst1]
      exact hp.push (noLs_strs base)
    have hf1 : Fr l st st1 := by
      rw [← hst1]
      exact Fr.push _ _ _
    have hj : (st1 ++ [O.lst ((allN m).map .str)])[st1.length]? = some (.lst ((allN m).map .str)) := by simp
    have hll1 := hp1.lt
    rw [w_lc]
    simp only [s_nil, s_seq, s_frz, z_asg, z_asgO, z_asgR, z_par, z_pn, z_pc, z_aug, z_ex, z_ret, z_retN, z_retR, z_ite, z_brk, z_cont, z_pass, z_setIs, z_tn, w_cst, w_var, w_glo, w_bin, w_neg, w_not, w_and, w_or, w_cmp, w_cmp2, w_ife, w_idx, w_slc, w_no, w_so, w_cno, w_cso, w_tup, w_lst, w_dnew, w_nil, w_cons, w_call, w_blt, w_isi, w_iown, w_iseq, w_rng1, w_rng2, nxK, varE, assignG, own1, oOf, Ev.putK, viewI, O.d, List.getElem?_cons_zero, List.getElem?_cons_succ, List.set_cons_zero, List.set_cons_succ, Option.some.injEq, exists_eq_left', D.bl.injEq, D.int.injEq, EV.own.injEq, b_add, b_adds, b_addl, b_mull, b_muls, b_sub, b_mul, b_fdiv, b_mod, b_pow, at0, at1, at2, at3, c_lt, c_le, c_gt, c_ge, c_eqi, c_nei, c_eqs, c_nes, c_eqb, Option.map_some, len_lst, len_tup, len_scr, f_abs, f_max, f_min, f_intb, f_inti, f_str, f_list_l, f_list_t, seq_lst, seq_str, seq_scr, ck_no, ite_true, if_true, if_false, Bool.false_eq_true, reduceCtorEq, decide_eq_true_eq, decide_eq_false_iff_not, Bool.not_eq_true', Bool.not_eq_false', Bool.not_true, Bool.not_false, not_true_eq_false, not_false_eq_true, true_and, and_true, forall_const, false_implies, implies_true, z_retO, ro_own, fz_own, fz_v, ov_lst, ov_dct, ov_non, ov_int, ov_bl, ov_str, ov_tup, w_callF, w_callO]
    refine draw_all (hp1.push (noLs_strs _)) (by omega) (by omega) (by omega) fun r s2 r0 r1 hp2 hl2 hf2 => ?_
    simp only [s_nil, s_seq, s_frz, z_asg, z_asgO, z_asgR, z_par, z_pn, z_pc, z_aug, z_ex, z_ret, z_retN, z_retR, z_ite, z_brk, z_cont, z_pass, z_setIs, z_tn, w_cst, w_var, w_glo, w_bin, w_neg, w_not, w_and, w_or, w_cmp, w_cmp2, w_ife, w_idx, w_slc, w_no, w_so, w_cno, w_cso, w_tup, w_lst, w_dnew, w_nil, w_cons, w_call, w_blt, w_isi, w_iown, w_iseq, w_rng1, w_rng2, nxK, varE, assignG, own1, oOf, Ev.putK, viewI, O.d, List.getElem?_cons_zero, List.getElem?_cons_succ, List.set_cons_zero, List.set_cons_succ, Option.some.injEq, exists_eq_left', D.bl.injEq, D.int.injEq, EV.own.injEq, b_add, b_adds, b_addl, b_mull, b_muls, b_sub, b_mul, b_fdiv, b_mod, b_pow, at0, at1, at2, at3, c_lt, c_le, c_gt, c_ge, c_eqi, c_nei, c_eqs, c_nes, c_eqb, Option.map_some, len_lst, len_tup, len_scr, f_abs, f_max, f_min, f_intb, f_inti, f_str, f_list_l, f_list_t, seq_lst, seq_str, seq_scr, ck_no, ite_true, if_true, if_false, Bool.false_eq_true, reduceCtorEq, decide_eq_true_eq, decide_eq_false_iff_not, Bool.not_eq_true', Bool.not_eq_false', Bool.not_true, Bool.not_false, not_true_eq_false, not_false_eq_true, true_and, and_true, forall_const, false_implies, implies_true, z_retO, ro_own, fz_own, fz_v, ov_lst, ov_dct, ov_non, ov_int, ov_bl, ov_str, ov_tup, w_callF, w_callO]
    have hj2 : s2[st1.length]? = some (.lst ((allN m).map .str)) := (hf2 _ (by omega)).trans hj
    have hfr2 : Fr l st s2 := hf1.trans ⟨by rw [hl2]; simp, fun i hi hil => (hf2 i hi).trans (List.getElem?_append_left hil)⟩
    refine ⟨in62_of (by omega) (by omega), by rw [rngL_len]; omega, ?_⟩
    have key := lc_all (cl := callF P wf (n + 1)) (gl := assoc P.glob) (env := [.v (.ref l), .v (.int m), .v (.ref st1.length), .un, .un]) (g := .nm 3) (vs := [3]) (c := .no)
      (e := .mut "pop" 2 (.cons (.call "_law_draw" (.cons (.var 0) (.cons (.blt "len" (.cons (.var 2) .nil)) .nil))) .nil)) (ck := Chk.no.ok) (xs := rngL 0 (Int.toNat (1 + r)))
      (fun i acc s => ∃ left, s[st1.length]? = some (.lst left) ∧ left.length + i = 16 + (m - 16) ∧ (∀ d, d ∈ left ++ acc → ∃ k, d = .str k ∧ keyB k = true) ∧ acc.length = i ∧ PS s l (b + 1 + i) ∧ Fr l st s) (Int.toNat (1 + r)) 0 [] s2 (by rw [rngL_len]; omega)
      ⟨_, hj2, by rw [List.length_map, hal]; omega, fun d hd => by
        rw [List.append_nil] at hd
        obtain ⟨k, hk, rfl⟩ := List.mem_map.mp hd
        exact ⟨k, rfl, allN_ok h1 k hk⟩, rfl, hp2.mono (by omega), hfr2⟩ (fun _ _ _ _ _ => rfl) ?_
    · rw [List.drop_zero] at key
      refine all_mono key fun ds s h => ?_
      obtain ⟨left, g1, g2, g3, g4, g5, g6⟩ := h
      rw [List.nil_append] at g3 g4
      rw [rngL_len] at g2 g4 g5
      have hk : ∃ ks : List Str, ds = ks.map .str ∧ ∀ k, k ∈ ks → keyB k = true := by
        have g7 : ∀ d, d ∈ ds → ∃ k, d = .str k ∧ keyB k = true := fun d hd => g3 d (List.mem_append_right _ hd)
        clear g3 g4 key
        induction ds with
        | nil => exact ⟨[], rfl, fun k h => by simp at h⟩
        | cons d ds ih =>
          obtain ⟨ks, e1, e2⟩ := ih fun x hx => g7 x (List.mem_cons_of_mem _ hx)
          obtain ⟨k, e3, e4⟩ := g7 d List.mem_cons_self
          exact ⟨k :: ks, by rw [e1, e3]; rfl, fun x hx => (List.mem_cons.mp hx).elim (fun q => q ▸ e4) (e2 x)⟩
      obtain ⟨ks, rfl, hk⟩ := hk
      rw [List.length_map] at g4
      exact k ks s (fun h => by rw [h] at g4; simp at g4; omega) (by omega) hk (g5.mono (by omega)) g6
    · intro j x acc s hx h
      obtain ⟨left, g1, g2, g3, g4, g5, g6⟩ := h
      have hjl := some_lt hx
      rw [rngL_len] at hjl
      refine ⟨_, rfl, ?_⟩
      rw [w_cno]
      refine ⟨fun _ => w_mut rfl g1 ?_, fun z => by cases z⟩
      simp only [s_nil, s_seq, s_frz, z_asg, z_asgO, z_asgR, z_par, z_pn, z_pc, z_aug, z_ex, z_ret, z_retN, z_retR, z_ite, z_brk, z_cont, z_pass, z_setIs, z_tn, w_cst, w_var, w_glo, w_bin, w_neg, w_not, w_and, w_or, w_cmp, w_cmp2, w_ife, w_idx, w_slc, w_no, w_so, w_cno, w_cso, w_tup, w_lst, w_dnew, w_nil, w_cons, w_call, w_blt, w_isi, w_iown, w_iseq, w_rng1, w_rng2, nxK, varE, assignG, own1, oOf, Ev.putK, viewI, O.d, List.getElem?_cons_zero, List.getElem?_cons_succ, List.set_cons_zero, List.set_cons_succ, Option.some.injEq, exists_eq_left', D.bl.injEq, D.int.injEq, EV.own.injEq, b_add, b_adds, b_addl, b_mull, b_muls, b_sub, b_mul, b_fdiv, b_mod, b_pow, at0, at1, at2, at3, c_lt, c_le, c_gt, c_ge, c_eqi, c_nei, c_eqs, c_nes, c_eqb, Option.map_some, len_lst, len_tup, len_scr, f_abs, f_max, f_min, f_intb, f_inti, f_str, f_list_l, f_list_t, seq_lst, seq_str, seq_scr, ck_no, ite_true, if_true, if_false, Bool.false_eq_true, reduceCtorEq, decide_eq_true_eq, decide_eq_false_iff_not, Bool.not_eq_true', Bool.not_eq_false', Bool.not_true, Bool.not_false, not_true_eq_false, not_false_eq_true, true_and, and_true, forall_const, false_implies, implies_true, z_retO, ro_own, fz_own, fz_v, ov_lst, ov_dct, ov_non, ov_int, ov_bl, ov_str, ov_tup, w_callF, w_callO, wipeE, len_ref g1]
      refine draw_all g5 (by omega) (by omega) (by omega) fun r s3 r0 r1 hp3 hl3 hf3 => ?_
      have hne : st1.length ≠ l := by omega
      have h6 : s3[st1.length]? = some (.lst left) := (hf3 _ hne).trans g1
      have hr : r.toNat < left.length := by omega
      refine ⟨left, h6, _, popI r0 (by omega) (by omega) (List.getElem?_eq_getElem hr), left.eraseIdx r.toNat, by rw [List.getElem?_set_self (some_lt h6)], by rw [List.length_eraseIdx_of_lt hr]; omega, ?_, by simp [g4], ?_, ?_⟩
      · intro d hd
        rcases List.mem_append.mp hd with q | q
        · exact g3 d (List.mem_append_left _ (List.mem_of_mem_eraseIdx q))
        · rcases List.mem_append.mp q with q | q
          · exact g3 d (List.mem_append_right _ q)
          · rw [List.mem_singleton.mp q]
            exact g3 _ (List.mem_append_left _ (List.getElem_mem _))
      · refine (hp3.set (o := .lst (left.eraseIdx r.toNat)) (noLs_of fun d hd => ?_) hne).mono (by omega)
        obtain ⟨k, rfl, _⟩ := g3 d (List.mem_append_left _ (List.mem_of_mem_eraseIdx hd))
        rfl
      · refine ⟨by rw [List.length_set, hl3]; exact g6.1, fun i hi hil => ?_⟩
        have : st.length < st1.length := by rw [← hst1]; simp
        rw [List.getElem?_set_ne (by omega), hf3 i hi]
        exact g6.2 i hi hil
theorem pick3 {a b c r : Int} (h0 : 0 ≤ r) (h1 : r < 3) : ∃ v, atI [D.int a, D.int b, D.int c] r = some (.int v) ∧ (v = a ∨ v = b ∨ v = c) := by
  have : r = 0 ∨ r = 1 ∨ r = 2 := by omega
  rcases this with rfl | rfl | rfl
  · exact ⟨a, at0, .inl rfl⟩
  · exact ⟨b, at1, .inr (.inl rfl)⟩
  · exact ⟨c, at2, .inr (.inr rfl)⟩
theorem log_all [M__law_log P] {wf n l mk mi : Nat} {b : Int} {st : Store} {Q : D → Store → Prop} (hp : PS st l b) (hb0 : 0 ≤ b) (hb : b < 2 ^ 38) (h0 : 1 ≤ mk) (h1 : mk ≤ 200) (h2 : mi ≤ 200)
    (k : ∀ (log : List Str) st', log.length ≤ mi → (∀ k, k ∈ log → keyB k = true) → PS st' l (b + 1200) → Fr l st st' → Q (.lst (log.map .str)) st') : (callF P wf (n + 3) "_law_log" [.ref l, .int mk, .int mi] st).all Q := by
  have hs : sizeLine = 16777216 := by rw [sizeLine_eq]
  refine call_all (cd := cd__law_log) (env := [.v (.ref l), .v (.int mk), .v (.int mi), .un, .un, .un, .un, .un, .un]) M__law_log.d__law_log rfl ?_
  simp only [s_nil, s_seq, s_frz, z_asg, z_asgO, z_asgR, z_par, z_pn, z_pc, z_aug, z_ex, z_ret, z_retN, z_retR, z_ite, z_brk, z_cont, z_pass, z_setIs, z_tn, w_cst, w_var, w_glo, w_bin, w_neg, w_not, w_and, w_or, w_cmp, w_cmp2, w_ife, w_idx, w_slc, w_no, w_so, w_cno, w_cso, w_tup, w_lst, w_dnew, w_nil, w_cons, w_call, w_blt, w_isi, w_iown, w_iseq, w_rng1, w_rng2, nxK, varE, assignG, own1, oOf, Ev.putK, viewI, O.d, List.getElem?_cons_zero, List.getElem?_cons_succ, List.set_cons_zero, List.set_cons_succ, Option.some.injEq, exists_eq_left', D.bl.injEq, D.int.injEq, EV.own.injEq, b_add, b_adds, b_addl, b_mull, b_muls, b_sub, b_mul, b_fdiv, b_mod, b_pow, at0, at1, at2, at3, c_lt, c_le, c_gt, c_ge, c_eqi, c_nei, c_eqs, c_nes, c_eqb, Option.map_some, len_lst, len_tup, len_scr, f_abs, f_max, f_min, f_intb, f_inti, f_str, f_list_l, f_list_t, seq_lst, seq_str, seq_scr, ck_no, ite_true, if_true, if_false, Bool.false_eq_true, reduceCtorEq, decide_eq_true_eq, decide_eq_false_iff_not, Bool.not_eq_true', Bool.not_eq_false', Bool.not_true, Bool.not_false, not_true_eq_false, not_false_eq_true, true_and, and_true, forall_const, false_implies, implies_true, z_retO, ro_own, fz_own, fz_v, ov_lst, ov_dct, ov_non, ov_int, ov_bl, ov_str, ov_tup, w_callF, w_callO, cd__law_log]
  refine keys_all hp hb0 (by omega) h0 h1 fun ks s1 hk0 hkl hkk hp1 hf1 => ?_
  refine ⟨sm (by simp), ?_⟩
  refine draw_all hp1 (by omega) (by decide) (by decide) fun way s2 w0 w1 hp2 hl2 hf2 => ?_
  refine draw_all hp2 (by omega) (by omega) (by omega) fun many s3 m0 m1 hp3 hl3 hf3 => ?_
  have hfr3 : Fr l st s3 := hf1.trans (Fr.trans ⟨by omega, fun i hi _ => hf2 i hi⟩ ⟨by omega, fun i hi _ => hf3 i hi⟩)
  have hkl0 : 0 < ks.length := List.length_pos_iff.mpr hk0
  rw [z_for]
  simp only [s_nil, s_seq, s_frz, z_asg, z_asgO, z_asgR, z_par, z_pn, z_pc, z_aug, z_ex, z_ret, z_retN, z_retR, z_ite, z_brk, z_cont, z_pass, z_setIs, z_tn, w_cst, w_var, w_glo, w_bin, w_neg, w_not, w_and, w_or, w_cmp, w_cmp2, w_ife, w_idx, w_slc, w_no, w_so, w_cno, w_cso, w_tup, w_lst, w_dnew, w_nil, w_cons, w_call, w_blt, w_isi, w_iown, w_iseq, w_rng1, w_rng2, nxK, varE, assignG, own1, oOf, Ev.putK, viewI, O.d, List.getElem?_cons_zero, List.getElem?_cons_succ, List.set_cons_zero, List.set_cons_succ, Option.some.injEq, exists_eq_left', D.bl.injEq, D.int.injEq, EV.own.injEq, b_add, b_adds, b_addl, b_mull, b_muls, b_sub, b_mul, b_fdiv, b_mod, b_pow, at0, at1, at2, at3, c_lt, c_le, c_gt, c_ge, c_eqi, c_nei, c_eqs, c_nes, c_eqb, Option.map_some, len_lst, len_tup, len_scr, f_abs, f_max, f_min, f_intb, f_inti, f_str, f_list_l, f_list_t, seq_lst, seq_str, seq_scr, ck_no, ite_true, if_true, if_false, Bool.false_eq_true, reduceCtorEq, decide_eq_true_eq, decide_eq_false_iff_not, Bool.not_eq_true', Bool.not_eq_false', Bool.not_true, Bool.not_false, not_true_eq_false, not_false_eq_true, true_and, and_true, forall_const, false_implies, implies_true, z_retO, ro_own, fz_own, fz_v, ov_lst, ov_dct, ov_non, ov_int, ov_bl, ov_str, ov_tup, w_callF, w_callO]
  refine ⟨in62_of m0 (by omega), rfl, for0 (fun i env s => ∃ (fs : List Str) (u3 u8 : EV), env = [.v (.ref l), .v (.int mk), .v (.int mi), u3, .v (.lst (ks.map .str)), .own (.lst (fs.map .str)), .v (.int way), .v (.int many), u8] ∧ fs.length = i ∧ (∀ k, k ∈ fs → keyB k = true) ∧ PS s l (b + 302 + 4 * i) ∧ Fr l st s)
    ⟨[], _, _, rfl, rfl, fun k h => by simp at h, hp3.mono (by omega), hfr3⟩ (fun _ _ _ _ _ => rfl) ?_ ?_⟩
  · intro j d env s hd h
    obtain ⟨fs, u3, u8, rfl, hl, hk, hp4, hf4⟩ := h
    have hj := some_lt hd
    rw [rngL_len] at hj
    have hd2 : d = .int j := by
      simp only [rngL, List.getElem?_map, Option.map_eq_some_iff] at hd
      obtain ⟨i, hi, rfl⟩ := hd
      obtain ⟨_, q2⟩ := List.getElem?_eq_some_iff.mp hi
      simp at q2
      subst q2
      simp
    subst hd2
    refine ⟨_, rfl, ?_⟩
    have ap : ∀ (sp : Int) s5 (K1 : Out → Store → Prop), 0 ≤ sp → sp < ks.length → (K1 (.nx [.v (.ref l), .v (.int mk), .v (.int mi), .v (.int j), .v (.lst (ks.map .str)), .own (.lst ((fs ++ [ks.getD sp.toNat Str.empty]).map .str)), .v (.int way), .v (.int many), .v (.int sp)]) s5) →
        (evS (callF P wf (n + 2)) (assoc P.glob) wf (.mcall 5 "append" (.cons (.idx (.var 4) (.var 8)) .nil)) [.v (.ref l), .v (.int mk), .v (.int mi), .v (.int j), .v (.lst (ks.map .str)), .own (.lst (fs.map .str)), .v (.int way), .v (.int many), .v (.int sp)] s5).all K1 := fun sp s5 K1 p0 p1 kk => by
      obtain ⟨hi, er⟩ := atN (l := ks.map D.str) p0 (by rw [List.length_map]; exact p1)
      rw [List.getElem_map] at er
      have hi' : sp.toNat < ks.length := by omega
      rw [z_mown rfl]
      simp only [s_nil, s_seq, s_frz, z_asg, z_asgO, z_asgR, z_par, z_pn, z_pc, z_aug, z_ex, z_ret, z_retN, z_retR, z_ite, z_brk, z_cont, z_pass, z_setIs, z_tn, w_cst, w_var, w_glo, w_bin, w_neg, w_not, w_and, w_or, w_cmp, w_cmp2, w_ife, w_idx, w_slc, w_no, w_so, w_cno, w_cso, w_tup, w_lst, w_dnew, w_nil, w_cons, w_call, w_blt, w_isi, w_iown, w_iseq, w_rng1, w_rng2, nxK, varE, assignG, own1, oOf, Ev.putK, viewI, O.d, List.getElem?_cons_zero, List.getElem?_cons_succ, List.set_cons_zero, List.set_cons_succ, Option.some.injEq, exists_eq_left', D.bl.injEq, D.int.injEq, EV.own.injEq, b_add, b_adds, b_addl, b_mull, b_muls, b_sub, b_mul, b_fdiv, b_mod, b_pow, at0, at1, at2, at3, c_lt, c_le, c_gt, c_ge, c_eqi, c_nei, c_eqs, c_nes, c_eqb, Option.map_some, len_lst, len_tup, len_scr, f_abs, f_max, f_min, f_intb, f_inti, f_str, f_list_l, f_list_t, seq_lst, seq_str, seq_scr, ck_no, ite_true, if_true, if_false, Bool.false_eq_true, reduceCtorEq, decide_eq_true_eq, decide_eq_false_iff_not, Bool.not_eq_true', Bool.not_eq_false', Bool.not_true, Bool.not_false, not_true_eq_false, not_false_eq_true, true_and, and_true, forall_const, false_implies, implies_true, z_retO, ro_own, fz_own, fz_v, ov_lst, ov_dct, ov_non, ov_int, ov_bl, ov_str, ov_tup, w_callF, w_callO]
      refine ⟨_, (show idxop (.lst (ks.map D.str)) (.int sp) s5 = _ from er), _, app1 (by rw [List.length_map]; omega), ?_⟩
      have e : ks.getD sp.toNat Str.empty = ks[sp.toNat]'hi' := by
        rw [List.getD_eq_getElem?_getD, List.getElem?_eq_getElem hi']
        rfl
      rw [e, List.map_append] at kk
      exact kk
    have mem : ∀ sp : Int, 0 ≤ sp → sp < ks.length → keyB (ks.getD sp.toNat Str.empty) = true := fun sp p0 p1 => by
      have hi' : sp.toNat < ks.length := by omega
      have e : ks.getD sp.toNat Str.empty = ks[sp.toNat]'hi' := by
        rw [List.getD_eq_getElem?_getD, List.getElem?_eq_getElem hi']
        rfl
      rw [e]
      exact hkk _ (List.getElem_mem _)
    have done : ∀ (sp : Int) s5, 0 ≤ sp → sp < ks.length → PS s5 l (b + 302 + 4 * (j + 1 : Nat)) → Fr l st s5 → ∃ (fs2 : List Str) (u3 u8 : EV), [EV.v (.ref l), .v (.int mk), .v (.int mi), .v (.int j), .v (.lst (ks.map .str)), .own (.lst ((fs ++ [ks.getD sp.toNat Str.empty]).map .str)), .v (.int way), .v (.int many), .v (.int sp)] = [.v (.ref l), .v (.int mk), .v (.int mi), u3, .v (.lst (ks.map .str)), .own (.lst (fs2.map .str)), .v (.int way), .v (.int many), u8] ∧ fs2.length = j + 1 ∧ (∀ k, k ∈ fs2 → keyB k = true) ∧ PS s5 l (b + 302 + 4 * (j + 1 : Nat)) ∧ Fr l st s5 := fun sp s5 p0 p1 p2 p3 =>
      ⟨_, _, _, rfl, by simp [hl], fun x hx => by
        rcases List.mem_append.mp hx with q | q
        · exact hk x q
        · rw [List.mem_singleton.mp q]
          exact mem sp p0 p1, p2, p3⟩
    simp only [s_nil, s_seq, s_frz, z_asg, z_asgO, z_asgR, z_par, z_pn, z_pc, z_aug, z_ex, z_ret, z_retN, z_retR, z_ite, z_brk, z_cont, z_pass, z_setIs, z_tn, w_cst, w_var, w_glo, w_bin, w_neg, w_not, w_and, w_or, w_cmp, w_cmp2, w_ife, w_idx, w_slc, w_no, w_so, w_cno, w_cso, w_tup, w_lst, w_dnew, w_nil, w_cons, w_call, w_blt, w_isi, w_iown, w_iseq, w_rng1, w_rng2, nxK, varE, assignG, own1, oOf, Ev.putK, viewI, O.d, List.getElem?_cons_zero, List.getElem?_cons_succ, List.set_cons_zero, List.set_cons_succ, Option.some.injEq, exists_eq_left', D.bl.injEq, D.int.injEq, EV.own.injEq, b_add, b_adds, b_addl, b_mull, b_muls, b_sub, b_mul, b_fdiv, b_mod, b_pow, at0, at1, at2, at3, c_lt, c_le, c_gt, c_ge, c_eqi, c_nei, c_eqs, c_nes, c_eqb, Option.map_some, len_lst, len_tup, len_scr, f_abs, f_max, f_min, f_intb, f_inti, f_str, f_list_l, f_list_t, seq_lst, seq_str, seq_scr, ck_no, ite_true, if_true, if_false, Bool.false_eq_true, reduceCtorEq, decide_eq_true_eq, decide_eq_false_iff_not, Bool.not_eq_true', Bool.not_eq_false', Bool.not_true, Bool.not_false, not_true_eq_false, not_false_eq_true, true_and, and_true, forall_const, false_implies, implies_true, z_retO, ro_own, fz_own, fz_v, ov_lst, ov_dct, ov_non, ov_int, ov_bl, ov_str, ov_tup, w_callF, w_callO, List.length_map]
    refine draw_all hp4 (by omega) (by omega) (by omega) fun a1 s4 a10 a11 hp5 hl5 hf5 => ?_
    have hf5' : Fr l st s4 := hf4.trans ⟨by omega, fun i hi _ => hf5 i hi⟩
    refine ⟨by omega, draw_all hp5 (by omega) (by decide) (by decide) fun a2 s5 a20 a21 hp6 hl6 hf6 => ?_⟩
    have hf6' : Fr l st s5 := hf5'.trans ⟨by omega, fun i hi _ => hf6 i hi⟩
    rw [f_min]
    obtain ⟨v, ev, hv⟩ := pick3 (a := a1) (b := (j : Int) % ks.length) (c := if (ks.length : Int) - 1 < a2 then (ks.length : Int) - 1 else a2) w0 w1
    have e1 := Int.emod_nonneg (j : Int) (show (ks.length : Int) ≠ 0 by omega)
    have e2 := Int.emod_lt_of_pos (j : Int) (show (0 : Int) < ks.length by omega)
    have e3 : 0 ≤ (if (ks.length : Int) - 1 < a2 then (ks.length : Int) - 1 else a2) ∧ (if (ks.length : Int) - 1 < a2 then (ks.length : Int) - 1 else a2) < ks.length := by split <;> omega
    have hv0 : 0 ≤ v ∧ v < ks.length := by
      rcases hv with rfl | rfl | rfl
      · exact ⟨a10, a11⟩
      · exact ⟨e1, e2⟩
      · exact e3
    refine ⟨sm (by simp), _, ev, fun hw => ?_, fun hw => ?_⟩
    · refine draw_all hp6 (by omega) (by decide) (by decide) fun a3 s6 a30 a31 hp7 hl7 hf7 => ?_
      have hf7' : Fr l st s6 := hf6'.trans ⟨by omega, fun i hi _ => hf7 i hi⟩
      refine ⟨_, c_eqi, fun hr => ?_, fun hr => ?_⟩
      · refine draw_all hp7 (by omega) (by omega) (by omega) fun a4 s7 a40 a41 hp8 hl8 hf8 => ?_
        exact ap a4 s7 _ a40 a41 (done a4 s7 a40 a41 (hp8.mono (by omega)) (hf7'.trans ⟨by omega, fun i hi _ => hf8 i hi⟩))
      · exact ap v s6 _ hv0.1 hv0.2 (done v s6 hv0.1 hv0.2 (hp7.mono (by omega)) hf7')
    · first
        | exact ap v s5 _ hv0.1 hv0.2 (done v s5 hv0.1 hv0.2 (hp6.mono (by omega)) hf6')
        | exact ⟨fun z => (by cases z), fun _ => ap v s5 _ hv0.1 hv0.2 (done v s5 hv0.1 hv0.2 (hp6.mono (by omega)) hf6')⟩
  · intro env s h
    obtain ⟨fs, u3, u8, rfl, hl, hk, hp4, hf4⟩ := h
    rw [rngL_len] at hl hp4
    simp only [s_nil, s_seq, s_frz, z_asg, z_asgO, z_asgR, z_par, z_pn, z_pc, z_aug, z_ex, z_ret, z_retN, z_retR, z_ite, z_brk, z_cont, z_pass, z_setIs, z_tn, w_cst, w_var, w_glo, w_bin, w_neg, w_not, w_and, w_or, w_cmp, w_cmp2, w_ife, w_idx, w_slc, w_no, w_so, w_cno, w_cso, w_tup, w_lst, w_dnew, w_nil, w_cons, w_call, w_blt, w_isi, w_iown, w_iseq, w_rng1, w_rng2, nxK, varE, assignG, own1, oOf, Ev.putK, viewI, O.d, List.getElem?_cons_zero, List.getElem?_cons_succ, List.set_cons_zero, List.set_cons_succ, Option.some.injEq, exists_eq_left', D.bl.injEq, D.int.injEq, EV.own.injEq, b_add, b_adds, b_addl, b_mull, b_muls, b_sub, b_mul, b_fdiv, b_mod, b_pow, at0, at1, at2, at3, c_lt, c_le, c_gt, c_ge, c_eqi, c_nei, c_eqs, c_nes, c_eqb, Option.map_some, len_lst, len_tup, len_scr, f_abs, f_max, f_min, f_intb, f_inti, f_str, f_list_l, f_list_t, seq_lst, seq_str, seq_scr, ck_no, ite_true, if_true, if_false, Bool.false_eq_true, reduceCtorEq, decide_eq_true_eq, decide_eq_false_iff_not, Bool.not_eq_true', Bool.not_eq_false', Bool.not_true, Bool.not_false, not_true_eq_false, not_false_eq_true, true_and, and_true, forall_const, false_implies, implies_true, z_retO, ro_own, fz_own, fz_v, ov_lst, ov_dct, ov_non, ov_int, ov_bl, ov_str, ov_tup, w_callF, w_callO]
    exact k fs s (by omega) hk (hp4.mono (by omega)) hf4
theorem pick2 {a b r : Int} (h0 : 0 ≤ r) (h1 : r < 2) : ∃ v, atI [D.int a, D.int b] r = some (.int v) ∧ (v = a ∨ v = b) := by
  have : r = 0 ∨ r = 1 := by omega
  rcases this with rfl | rfl
  · exact ⟨a, at0, .inl rfl⟩
  · exact ⟨b, at1, .inr rfl⟩
theorem pick4 {a b c d r : Int} (h0 : 0 ≤ r) (h1 : r < 4) : ∃ v, atI [D.int a, D.int b, D.int c, D.int d] r = some (.int v) ∧ (v = a ∨ v = b ∨ v = c ∨ v = d) := by
  have : r = 0 ∨ r = 1 ∨ r = 2 ∨ r = 3 := by omega
  rcases this with rfl | rfl | rfl | rfl
  · exact ⟨a, at0, .inl rfl⟩
  · exact ⟨b, at1, .inr (.inl rfl)⟩
  · exact ⟨c, at2, .inr (.inr (.inl rfl))⟩
  · exact ⟨d, at3, .inr (.inr (.inr rfl))⟩
end FB
/-! FR: keys.py: events, runs -/
open PySem L2 Ev PySem.Spec PyProof.Rows FK
namespace FR
def cd_is_event : CDef := ⟨1, 1, [], (.cons (.ite (.or (.not (.isi (.var 0) "tuple")) (.or (.cmp .eq (.var 0) (.tup .nil)) (.not (.isi (.idx (.var 0) (.cst (.int 0))) "str")))) (.cons (.ret (.cst (.bl false))) .nil) .nil) (.cons (.ite (.cmp .eq (.blt "len" (.cons (.var 0) .nil)) (.cst (.int 2))) (.cons (.ret (.and (.cmp .eq (.idx (.var 0) (.cst (.int 0))) (.glo "WRITE")) (.call "is_key" (.cons (.idx (.var 0) (.cst (.int 1))) .nil)))) .nil) .nil) (.cons (.ret (.cmp .eq (.var 0) (.tup (.cons (.glo "SEND") .nil)))) .nil)))⟩
class M_is_event (P : Prog) : Prop extends M_is_key P where
  d_is_event : assoc P.defs "is_event" = some cd_is_event
  g_WRITE : assoc P.glob "WRITE" = some (.str "write")
  g_SEND : assoc P.glob "SEND" = some (.str "send")
def cd_are_events : CDef := ⟨1, 2, [], (.cons (.ret (.and (.isi (.var 0) "list") (.blt "all" (.cons (.lc [1] (.nm 1) (.seq (.var 0)) .no (.call "is_event" (.cons (.var 1) .nil))) .nil)))) .nil)⟩
class M_are_events (P : Prog) : Prop extends M_is_event P where
  d_are_events : assoc P.defs "are_events" = some cd_are_events
def cd_is_run : CDef := ⟨1, 3, [], (.cons (.ite (.not (.call "are_events" (.cons (.var 0) .nil))) (.cons (.ret (.cst (.bl false))) .nil) .nil) (.cons (.asgO 1 (.lst .nil)) (.cons (.for_ (.nm 2) (.seq (.var 0)) (.cons (.ite (.cmp .eq (.var 2) (.tup (.cons (.glo "SEND") .nil))) (.cons (.ite (.cmp .eq (.var 1) (.lst .nil)) (.cons (.ret (.cst (.bl false))) .nil) .nil) (.cons (.mcall 1 "pop" (.cons (.cst (.int 0)) .nil)) .nil)) (.cons (.ite (.cmp .notin (.idx (.var 2) (.cst (.int 1))) (.var 1)) (.cons (.mcall 1 "append" (.cons (.idx (.var 2) (.cst (.int 1))) .nil)) .nil) .nil) .nil)) .nil)) (.cons (.ret (.cst (.bl true))) .nil))))⟩
class M_is_run (P : Prog) : Prop extends M_are_events P where
  d_is_run : assoc P.defs "is_run" = some cd_is_run
variable {P : Prog}
inductive E where
  | send | wr (k : Str)
  deriving DecidableEq
def E.d : E → D
  | .send => .tup [.str "send"]
  | .wr k => .tup [.str "write", .str k]
def E.ok : E → Bool
  | .send => true
  | .wr k => keyB k
/-! ### events -/
theorem E.okD {e : E} (h : e.ok = true) : okD e.d = true := by
  cases e with
  | send => decide +kernel
  | wr k =>
    have hk : keyB k = true := h
    unfold keyB at hk
    simp only [Bool.and_eq_true, decide_eq_true_eq] at hk
    obtain ⟨_, _, _, h4⟩ := hk
    have hs : PyData.strOk k = true := by
      unfold PyData.strOk
      rw [← Array.all_toList, List.all_eq_true]
      intro c hc
      have h5 := of_decide_eq_true (List.all_eq_true.mp h4 c hc)
      have h6 : ∀ c, c ∈ CHS.cps.toList → c < 0x110000 := by decide +kernel
      exact decide_eq_true (h6 c h5)
    show okDs [.str "write", .str k] = true
    simp only [okDs, Ev.okD, hs, Bool.and_true, Bool.true_and]
    decide +kernel
theorem E.sh {e : E} (h : e.ok = true) : SeqAt.shaped (pyD e.d) = true := shaped_ok (E.okD h) (by
  cases e <;> simp [E.d, pyD, pyDs, PyData.depth, PyData.depthAll])
theorem E.noF (e : E) : (∀ a, e.d ≠ .int a) ∧ (∀ a, e.d ≠ .str a) ∧ ∀ a, e.d ≠ .bl a := by
  cases e <;> exact ⟨fun _ z => (by cases z), fun _ z => (by cases z), fun _ z => (by cases z)⟩
theorem eq_send {e : E} {st : Store} (h : e.ok = true) : eqD st e.d (.tup [.str "send"]) = some (decide (e = .send)) := by
  have r := eqD_ok (toPy_ok (st := st) (E.okD h)) (toPy_ok (E.okD (e := .send) rfl)) (E.sh h) (E.sh (e := .send) rfl) e.noF
  refine Eq.trans r ?_
  cases e with
  | send => simp [E.d, pyD, pyDs, PyData.eqv, PyData.eqvAll]
  | wr k => simp [E.d, pyD, pyDs, PyData.eqv, PyData.eqvAll]
theorem eq_unit {e : E} {st : Store} (h : e.ok = true) : eqD st e.d (.tup []) = some false := by
  have r := eqD_ok (toPy_ok (st := st) (E.okD h)) (toPy_ok (d := .tup []) rfl) (E.sh h) (shaped_ok rfl (by simp [pyD, pyDs, PyData.depth, PyData.depthAll])) e.noF
  refine Eq.trans r ?_
  cases e with
  | send => simp [E.d, pyD, pyDs, PyData.eqv, PyData.eqvAll]
  | wr k => simp [E.d, pyD, pyDs, PyData.eqv, PyData.eqvAll]
theorem event_all [M_is_event P] {wf n : Nat} {e : E} {st : Store} {Q : D → Store → Prop} (he : e.ok = true) (q : Q (.bl true) st) : (callF P wf (n + 2) "is_event" [e.d] st).all Q := by
  refine call_all (cd := cd_is_event) (env := [.v e.d]) M_is_event.d_is_event rfl ?_
  have i1 : isTy st e.d "tuple" = some true := by cases e <;> rfl
  have i2 : ∀ x : Str, isTy st (.str x) "str" = some true := fun _ => rfl
  have u := c_eq (eq_unit (st := st) he)
  have v := c_eq (eq_send (st := st) he)
  cases e with
  | send =>
    have u : cmpop .eq (.tup [.str "send"]) (.tup []) st = some false := u
    have v : cmpop .eq (.tup [.str "send"]) (.tup [.str "send"]) st = some true := v
    have i1 : isTy st (.tup [.str "send"]) "tuple" = some true := i1
    simp only [s_nil, s_seq, s_frz, z_asg, z_asgO, z_asgR, z_par, z_pn, z_pc, z_aug, z_ex, z_ret, z_retN, z_retR, z_ite, z_brk, z_cont, z_pass, z_setIs, z_tn, w_cst, w_var, w_glo, w_bin, w_neg, w_not, w_and, w_or, w_cmp, w_cmp2, w_ife, w_idx, w_slc, w_no, w_so, w_cno, w_cso, w_tup, w_lst, w_dnew, w_nil, w_cons, w_call, w_blt, w_isi, w_iown, w_iseq, w_rng1, w_rng2, nxK, varE, assignG, own1, oOf, Ev.putK, viewI, O.d, List.getElem?_cons_zero, List.getElem?_cons_succ, List.set_cons_zero, List.set_cons_succ, Option.some.injEq, exists_eq_left', D.bl.injEq, D.int.injEq, EV.own.injEq, b_add, b_adds, b_addl, b_mull, b_muls, b_sub, b_mul, b_fdiv, b_mod, b_pow, at0, at1, at2, at3, c_lt, c_le, c_gt, c_ge, c_eqi, c_nei, c_eqs, c_nes, c_eqb, Option.map_some, len_lst, len_tup, len_scr, f_abs, f_max, f_min, f_intb, f_inti, f_str, f_list_l, f_list_t, seq_lst, seq_str, seq_scr, ck_no, ite_true, if_true, if_false, Bool.false_eq_true, reduceCtorEq, decide_eq_true_eq, decide_eq_false_iff_not, Bool.not_eq_true', Bool.not_eq_false', Bool.not_true, Bool.not_false, not_true_eq_false, not_false_eq_true, true_and, and_true, forall_const, false_implies, implies_true, z_retO, ro_own, fz_own, fz_v, ov_lst, ov_dct, ov_non, ov_int, ov_bl, ov_str, ov_tup, w_callF, w_callO, cd_is_event, E.d, i1, i2, u, v, idx_tup, M_is_event.g_SEND (P := P)]
    refine ⟨by decide, fun z => ?_, fun _ => ⟨by decide, q⟩⟩
    simp at z
  | wr k =>
    have u : cmpop .eq (.tup [.str "write", .str k]) (.tup []) st = some false := u
    have i1 : isTy st (.tup [.str "write", .str k]) "tuple" = some true := i1
    simp only [s_nil, s_seq, s_frz, z_asg, z_asgO, z_asgR, z_par, z_pn, z_pc, z_aug, z_ex, z_ret, z_retN, z_retR, z_ite, z_brk, z_cont, z_pass, z_setIs, z_tn, w_cst, w_var, w_glo, w_bin, w_neg, w_not, w_and, w_or, w_cmp, w_cmp2, w_ife, w_idx, w_slc, w_no, w_so, w_cno, w_cso, w_tup, w_lst, w_dnew, w_nil, w_cons, w_call, w_blt, w_isi, w_iown, w_iseq, w_rng1, w_rng2, nxK, varE, assignG, own1, oOf, Ev.putK, viewI, O.d, List.getElem?_cons_zero, List.getElem?_cons_succ, List.set_cons_zero, List.set_cons_succ, Option.some.injEq, exists_eq_left', D.bl.injEq, D.int.injEq, EV.own.injEq, b_add, b_adds, b_addl, b_mull, b_muls, b_sub, b_mul, b_fdiv, b_mod, b_pow, at0, at1, at2, at3, c_lt, c_le, c_gt, c_ge, c_eqi, c_nei, c_eqs, c_nes, c_eqb, Option.map_some, len_lst, len_tup, len_scr, f_abs, f_max, f_min, f_intb, f_inti, f_str, f_list_l, f_list_t, seq_lst, seq_str, seq_scr, ck_no, ite_true, if_true, if_false, Bool.false_eq_true, reduceCtorEq, decide_eq_true_eq, decide_eq_false_iff_not, Bool.not_eq_true', Bool.not_eq_false', Bool.not_true, Bool.not_false, not_true_eq_false, not_false_eq_true, true_and, and_true, forall_const, false_implies, implies_true, z_retO, ro_own, fz_own, fz_v, ov_lst, ov_dct, ov_non, ov_int, ov_bl, ov_str, ov_tup, w_callF, w_callO, cd_is_event, E.d, i1, i2, u, v, idx_tup, M_is_event.g_SEND (P := P), M_is_event.g_WRITE (P := P)]
    refine ⟨by decide, fun _ => ?_, fun z => ?_⟩
    · exact key_all he ⟨_, rfl, q⟩
    simp at z
theorem events_all [M_are_events P] {wf n : Nat} {es : List E} {ck : Chk} {x : D} {st : Store} {Q : D → Store → Prop} (he : ∀ e, e ∈ es → e.ok = true) (hz : es.length ≤ sizeLine) (hx : seqI x st = some (es.map E.d, ck)) (hc : ck.ok st = true) (hT : isTy st x "list" = some true) (q : Q (.bl true) st) : (callF P wf (n + 3) "are_events" [x] st).all Q := by
  refine call_all (cd := cd_are_events) (env := [.v x, .un]) M_are_events.d_are_events rfl ?_
  simp only [s_nil, s_seq, s_frz, z_asg, z_asgO, z_asgR, z_par, z_pn, z_pc, z_aug, z_ex, z_ret, z_retN, z_retR, z_ite, z_brk, z_cont, z_pass, z_setIs, z_tn, w_cst, w_var, w_glo, w_bin, w_neg, w_not, w_and, w_or, w_cmp, w_cmp2, w_ife, w_idx, w_slc, w_no, w_so, w_cno, w_cso, w_tup, w_lst, w_dnew, w_nil, w_cons, w_call, w_blt, w_isi, w_iown, w_iseq, w_rng1, w_rng2, nxK, varE, assignG, own1, oOf, Ev.putK, viewI, O.d, List.getElem?_cons_zero, List.getElem?_cons_succ, List.set_cons_zero, List.set_cons_succ, Option.some.injEq, exists_eq_left', D.bl.injEq, D.int.injEq, EV.own.injEq, b_add, b_adds, b_addl, b_mull, b_muls, b_sub, b_mul, b_fdiv, b_mod, b_pow, at0, at1, at2, at3, c_lt, c_le, c_gt, c_ge, c_eqi, c_nei, c_eqs, c_nes, c_eqb, Option.map_some, len_lst, len_tup, len_scr, f_abs, f_max, f_min, f_intb, f_inti, f_str, f_list_l, f_list_t, seq_lst, seq_str, seq_scr, ck_no, ite_true, if_true, if_false, Bool.false_eq_true, reduceCtorEq, decide_eq_true_eq, decide_eq_false_iff_not, Bool.not_eq_true', Bool.not_eq_false', Bool.not_true, Bool.not_false, not_true_eq_false, not_false_eq_true, true_and, and_true, forall_const, false_implies, implies_true, z_retO, ro_own, fz_own, fz_v, ov_lst, ov_dct, ov_non, ov_int, ov_bl, ov_str, ov_tup, w_callF, w_callO, cd_are_events, hT]
  refine lc_map (f := fun _ => .bl true) (xs := es.map E.d) ?_ (by rw [List.length_map]; exact hz) ?_ ?_
  · simp only [s_nil, s_seq, s_frz, z_asg, z_asgO, z_asgR, z_par, z_pn, z_pc, z_aug, z_ex, z_ret, z_retN, z_retR, z_ite, z_brk, z_cont, z_pass, z_setIs, z_tn, w_cst, w_var, w_glo, w_bin, w_neg, w_not, w_and, w_or, w_cmp, w_cmp2, w_ife, w_idx, w_slc, w_no, w_so, w_cno, w_cso, w_tup, w_lst, w_dnew, w_nil, w_cons, w_call, w_blt, w_isi, w_iown, w_iseq, w_rng1, w_rng2, nxK, varE, assignG, own1, oOf, Ev.putK, viewI, O.d, List.getElem?_cons_zero, List.getElem?_cons_succ, List.set_cons_zero, List.set_cons_succ, Option.some.injEq, exists_eq_left', D.bl.injEq, D.int.injEq, EV.own.injEq, b_add, b_adds, b_addl, b_mull, b_muls, b_sub, b_mul, b_fdiv, b_mod, b_pow, at0, at1, at2, at3, c_lt, c_le, c_gt, c_ge, c_eqi, c_nei, c_eqs, c_nes, c_eqb, Option.map_some, len_lst, len_tup, len_scr, f_abs, f_max, f_min, f_intb, f_inti, f_str, f_list_l, f_list_t, seq_lst, seq_str, seq_scr, ck_no, ite_true, if_true, if_false, Bool.false_eq_true, reduceCtorEq, decide_eq_true_eq, decide_eq_false_iff_not, Bool.not_eq_true', Bool.not_eq_false', Bool.not_true, Bool.not_false, not_true_eq_false, not_false_eq_true, true_and, and_true, forall_const, false_implies, implies_true, z_retO, ro_own, fz_own, fz_v, ov_lst, ov_dct, ov_non, ov_int, ov_bl, ov_str, ov_tup, w_callF, w_callO, hx]
    exact hc
  · intro d hd
    obtain ⟨e, h1, rfl⟩ := List.mem_map.mp hd
    refine ⟨_, rfl, ?_⟩
    simp only [s_nil, s_seq, s_frz, z_asg, z_asgO, z_asgR, z_par, z_pn, z_pc, z_aug, z_ex, z_ret, z_retN, z_retR, z_ite, z_brk, z_cont, z_pass, z_setIs, z_tn, w_cst, w_var, w_glo, w_bin, w_neg, w_not, w_and, w_or, w_cmp, w_cmp2, w_ife, w_idx, w_slc, w_no, w_so, w_cno, w_cso, w_tup, w_lst, w_dnew, w_nil, w_cons, w_call, w_blt, w_isi, w_iown, w_iseq, w_rng1, w_rng2, nxK, varE, assignG, own1, oOf, Ev.putK, viewI, O.d, List.getElem?_cons_zero, List.getElem?_cons_succ, List.set_cons_zero, List.set_cons_succ, Option.some.injEq, exists_eq_left', D.bl.injEq, D.int.injEq, EV.own.injEq, b_add, b_adds, b_addl, b_mull, b_muls, b_sub, b_mul, b_fdiv, b_mod, b_pow, at0, at1, at2, at3, c_lt, c_le, c_gt, c_ge, c_eqi, c_nei, c_eqs, c_nes, c_eqb, Option.map_some, len_lst, len_tup, len_scr, f_abs, f_max, f_min, f_intb, f_inti, f_str, f_list_l, f_list_t, seq_lst, seq_str, seq_scr, ck_no, ite_true, if_true, if_false, Bool.false_eq_true, reduceCtorEq, decide_eq_true_eq, decide_eq_false_iff_not, Bool.not_eq_true', Bool.not_eq_false', Bool.not_true, Bool.not_false, not_true_eq_false, not_false_eq_true, true_and, and_true, forall_const, false_implies, implies_true, z_retO, ro_own, fz_own, fz_v, ov_lst, ov_dct, ov_non, ov_int, ov_bl, ov_str, ov_tup, w_callF, w_callO, wipeE]
    exact event_all (he e h1) ⟨rfl, rfl⟩
  · rw [f_all (allT fun d hd => by
      obtain ⟨_, _, rfl⟩ := List.mem_map.mp hd
      rfl)]
    exact ⟨_, rfl, q⟩
/-! ### playing -/
def play : List Str → List E → Option (List Str)
  | ws, [] => some ws
  | ws, .send :: r => match ws with
    | [] => none
    | _ :: ws => play ws r
  | ws, .wr k :: r => play (if k ∈ ws then ws else ws ++ [k]) r
theorem play_append : ∀ (a b : List E) (ws : List Str), play ws (a ++ b) = (play ws a).bind fun v => play v b
  | [], b, ws => rfl
  | .send :: a, b, [] => rfl
  | .send :: a, b, w :: ws => play_append a b ws
  | .wr k :: a, b, ws => play_append a b _
theorem strOk_of {k : Str} (h : keyB k = true) : PyData.strOk k = true := by
  have := E.okD (e := .wr k) h
  have h2 : okDs [.str "write", .str k] = true := this
  simp only [okDs, Ev.okD, Bool.and_eq_true] at h2
  exact h2.2.1
theorem eq_nil {ks : List Str} {st : Store} (h : ∀ k, k ∈ ks → keyB k = true) : eqD st (.lst (ks.map .str)) (.lst []) = some (decide (ks = [])) := by
  have ok : okDs (ks.map .str) = true := okDs_all fun d hd => by
    obtain ⟨k, h1, rfl⟩ := List.mem_map.mp hd
    exact strOk_of (h k h1)
  have ok2 : Ev.okD (.lst (ks.map .str)) = true := ok
  have r := eqD_ok (x := .lst (ks.map .str)) (y := .lst []) (toPy_ok (st := st) ok2) (toPy_ok (d := .lst []) rfl) (shaped_ok ok2 ?_) (shaped_ok rfl (by simp [pyD, pyDs, PyData.depth, PyData.depthAll])) ⟨fun _ z => (by cases z), fun _ z => (by cases z), fun _ z => (by cases z)⟩
  · refine Eq.trans r ?_
    cases ks with
    | nil => simp [pyD, pyDs, PyData.eqv, PyData.eqvAll]
    | cons k r => simp [pyD, pyDs, PyData.eqv, PyData.eqvAll]
  · simp only [pyD, pyDs_map, PyData.depth]
    have := depth_all (n := 0) (l := (ks.map D.str).map pyD) fun d hd => by
      obtain ⟨x, h1, rfl⟩ := List.mem_map.mp hd
      obtain ⟨k, h2, rfl⟩ := List.mem_map.mp h1
      exact Nat.le_refl 0
    omega
theorem play_take {es : List E} {j : Nat} {e : E} {ws : List Str} (h : es[j]? = some e) (hp : play [] (es.take j) = some ws) : play [] es = (play ws [e]).bind fun v => play v (es.drop (j + 1)) := by
  have hj := some_lt h
  have e1 : es = es.take j ++ (e :: es.drop (j + 1)) := by
    rw [List.getElem?_eq_getElem hj] at h
    cases h
    rw [← List.drop_eq_getElem_cons hj, List.take_append_drop]
  conv => lhs; rw [e1, play_append, hp]
  show play ws ([e] ++ es.drop (j + 1)) = _
  rw [play_append]
theorem play_succ {es : List E} {j : Nat} {e : E} {ws : List Str} (h : es[j]? = some e) (hp : play [] (es.take j) = some ws) : play [] (es.take (j + 1)) = play ws [e] := by
  rw [List.take_succ, h, play_append, hp]
  rfl
theorem run_all [M_is_run P] {wf n : Nat} {es : List E} {ck : Chk} {x : D} {st : Store} {Q : D → Store → Prop} (he : ∀ e, e ∈ es → e.ok = true) (hz : es.length ≤ sizeLine) (hx : seqI x st = some (es.map E.d, ck)) (hc : ck.ok st = true) (hw : ck.isOw = false) (hT : isTy st x "list" = some true) (q : Q (.bl (play [] es).isSome) st) : (callF P wf (n + 4) "is_run" [x] st).all Q := by
  refine call_all (cd := cd_is_run) (env := [.v x, .un, .un]) M_is_run.d_is_run rfl ?_
  rw [cd_is_run, s_seq, z_ite]
  simp only [w_not, w_call, w_cons, w_nil, w_var, varE, List.getElem?_cons_zero, Option.some.injEq, exists_eq_left']
  refine events_all he hz hx hc hT ⟨true, rfl, ?_⟩
  simp only [s_nil, s_seq, s_frz, z_asg, z_asgO, z_asgR, z_par, z_pn, z_pc, z_aug, z_ex, z_ret, z_retN, z_retR, z_ite, z_brk, z_cont, z_pass, z_setIs, z_tn, w_cst, w_var, w_glo, w_bin, w_neg, w_not, w_and, w_or, w_cmp, w_cmp2, w_ife, w_idx, w_slc, w_no, w_so, w_cno, w_cso, w_tup, w_lst, w_dnew, w_nil, w_cons, w_call, w_blt, w_isi, w_iown, w_iseq, w_rng1, w_rng2, nxK, varE, assignG, own1, oOf, Ev.putK, viewI, O.d, List.getElem?_cons_zero, List.getElem?_cons_succ, List.set_cons_zero, List.set_cons_succ, Option.some.injEq, exists_eq_left', D.bl.injEq, D.int.injEq, EV.own.injEq, b_add, b_adds, b_addl, b_mull, b_muls, b_sub, b_mul, b_fdiv, b_mod, b_pow, at0, at1, at2, at3, c_lt, c_le, c_gt, c_ge, c_eqi, c_nei, c_eqs, c_nes, c_eqb, Option.map_some, len_lst, len_tup, len_scr, f_abs, f_max, f_min, f_intb, f_inti, f_str, f_list_l, f_list_t, seq_lst, seq_str, seq_scr, ck_no, ite_true, if_true, if_false, Bool.false_eq_true, reduceCtorEq, decide_eq_true_eq, decide_eq_false_iff_not, Bool.not_eq_true', Bool.not_eq_false', Bool.not_true, Bool.not_false, not_true_eq_false, not_false_eq_true, true_and, and_true, forall_const, false_implies, implies_true, z_retO, ro_own, fz_own, fz_v, ov_lst, ov_dct, ov_non, ov_int, ov_bl, ov_str, ov_tup, w_callF, w_callO]
  rw [z_for]
  simp only [s_nil, s_seq, s_frz, z_asg, z_asgO, z_asgR, z_par, z_pn, z_pc, z_aug, z_ex, z_ret, z_retN, z_retR, z_ite, z_brk, z_cont, z_pass, z_setIs, z_tn, w_cst, w_var, w_glo, w_bin, w_neg, w_not, w_and, w_or, w_cmp, w_cmp2, w_ife, w_idx, w_slc, w_no, w_so, w_cno, w_cso, w_tup, w_lst, w_dnew, w_nil, w_cons, w_call, w_blt, w_isi, w_iown, w_iseq, w_rng1, w_rng2, nxK, varE, assignG, own1, oOf, Ev.putK, viewI, O.d, List.getElem?_cons_zero, List.getElem?_cons_succ, List.set_cons_zero, List.set_cons_succ, Option.some.injEq, exists_eq_left', D.bl.injEq, D.int.injEq, EV.own.injEq, b_add, b_adds, b_addl, b_mull, b_muls, b_sub, b_mul, b_fdiv, b_mod, b_pow, at0, at1, at2, at3, c_lt, c_le, c_gt, c_ge, c_eqi, c_nei, c_eqs, c_nes, c_eqb, Option.map_some, len_lst, len_tup, len_scr, f_abs, f_max, f_min, f_intb, f_inti, f_str, f_list_l, f_list_t, seq_lst, seq_str, seq_scr, ck_no, ite_true, if_true, if_false, Bool.false_eq_true, reduceCtorEq, decide_eq_true_eq, decide_eq_false_iff_not, Bool.not_eq_true', Bool.not_eq_false', Bool.not_true, Bool.not_false, not_true_eq_false, not_false_eq_true, true_and, and_true, forall_const, false_implies, implies_true, z_retO, ro_own, fz_own, fz_v, ov_lst, ov_dct, ov_non, ov_int, ov_bl, ov_str, ov_tup, w_callF, w_callO, hx]
  refine ⟨by decide, hw, for0 (fun j env s => s = st ∧ ∃ ws u, env = [.v x, .own (.lst (ws.map .str)), u] ∧ play [] (es.take j) = some ws ∧ ws.length ≤ j ∧ ∀ k, k ∈ ws → keyB k = true) ⟨rfl, [], .un, rfl, rfl, Nat.le_refl 0, fun k h => by simp at h⟩ (fun j e s _ h => by rw [h.1]; exact hc) ?_ ?_⟩
  · intro j d env s hd h
    obtain ⟨rfl, ws, u, rfl, hp, hwl, hk⟩ := h
    rw [List.getElem?_map, Option.map_eq_some_iff] at hd
    obtain ⟨e, hj, rfl⟩ := hd
    have hok := he e (List.mem_of_getElem? hj)
    refine ⟨_, rfl, ?_⟩
    have v := c_eq (eq_send (st := s) hok)
    have u2 := c_eq (eq_nil (st := s) hk)
    have pt := play_take hj hp
    have ps := play_succ hj hp
    simp only [s_nil, s_seq, s_frz, z_asg, z_asgO, z_asgR, z_par, z_pn, z_pc, z_aug, z_ex, z_ret, z_retN, z_retR, z_ite, z_brk, z_cont, z_pass, z_setIs, z_tn, w_cst, w_var, w_glo, w_bin, w_neg, w_not, w_and, w_or, w_cmp, w_cmp2, w_ife, w_idx, w_slc, w_no, w_so, w_cno, w_cso, w_tup, w_lst, w_dnew, w_nil, w_cons, w_call, w_blt, w_isi, w_iown, w_iseq, w_rng1, w_rng2, nxK, varE, assignG, own1, oOf, Ev.putK, viewI, O.d, List.getElem?_cons_zero, List.getElem?_cons_succ, List.set_cons_zero, List.set_cons_succ, Option.some.injEq, exists_eq_left', D.bl.injEq, D.int.injEq, EV.own.injEq, b_add, b_adds, b_addl, b_mull, b_muls, b_sub, b_mul, b_fdiv, b_mod, b_pow, at0, at1, at2, at3, c_lt, c_le, c_gt, c_ge, c_eqi, c_nei, c_eqs, c_nes, c_eqb, Option.map_some, len_lst, len_tup, len_scr, f_abs, f_max, f_min, f_intb, f_inti, f_str, f_list_l, f_list_t, seq_lst, seq_str, seq_scr, ck_no, ite_true, if_true, if_false, Bool.false_eq_true, reduceCtorEq, decide_eq_true_eq, decide_eq_false_iff_not, Bool.not_eq_true', Bool.not_eq_false', Bool.not_true, Bool.not_false, not_true_eq_false, not_false_eq_true, true_and, and_true, forall_const, false_implies, implies_true, z_retO, ro_own, fz_own, fz_v, ov_lst, ov_dct, ov_non, ov_int, ov_bl, ov_str, ov_tup, w_callF, w_callO, v, u2, M_is_event.g_SEND (P := P)]
    have hjl := some_lt hj
    refine ⟨by decide, fun h => ?_, fun h => ?_⟩
    · subst h
      refine ⟨by decide, fun h => ?_, fun h => ?_⟩
      · subst h
        have pt : play [] es = none := pt
        rw [pt] at q
        exact q
      · cases ws with
        | nil => exact absurd rfl h
        | cons w ws =>
          rw [z_mown rfl]
          simp only [s_nil, s_seq, s_frz, z_asg, z_asgO, z_asgR, z_par, z_pn, z_pc, z_aug, z_ex, z_ret, z_retN, z_retR, z_ite, z_brk, z_cont, z_pass, z_setIs, z_tn, w_cst, w_var, w_glo, w_bin, w_neg, w_not, w_and, w_or, w_cmp, w_cmp2, w_ife, w_idx, w_slc, w_no, w_so, w_cno, w_cso, w_tup, w_lst, w_dnew, w_nil, w_cons, w_call, w_blt, w_isi, w_iown, w_iseq, w_rng1, w_rng2, nxK, varE, assignG, own1, oOf, Ev.putK, viewI, O.d, List.getElem?_cons_zero, List.getElem?_cons_succ, List.set_cons_zero, List.set_cons_succ, Option.some.injEq, exists_eq_left', D.bl.injEq, D.int.injEq, EV.own.injEq, b_add, b_adds, b_addl, b_mull, b_muls, b_sub, b_mul, b_fdiv, b_mod, b_pow, at0, at1, at2, at3, c_lt, c_le, c_gt, c_ge, c_eqi, c_nei, c_eqs, c_nes, c_eqb, Option.map_some, len_lst, len_tup, len_scr, f_abs, f_max, f_min, f_intb, f_inti, f_str, f_list_l, f_list_t, seq_lst, seq_str, seq_scr, ck_no, ite_true, if_true, if_false, Bool.false_eq_true, reduceCtorEq, decide_eq_true_eq, decide_eq_false_iff_not, Bool.not_eq_true', Bool.not_eq_false', Bool.not_true, Bool.not_false, not_true_eq_false, not_false_eq_true, true_and, and_true, forall_const, false_implies, implies_true, z_retO, ro_own, fz_own, fz_v, ov_lst, ov_dct, ov_non, ov_int, ov_bl, ov_str, ov_tup, w_callF, w_callO]
          refine ⟨_, pop0 (by simp only [List.length_map, List.length_cons] at hwl ⊢; omega), ?_⟩
          simp only [s_nil, s_seq, s_frz, z_asg, z_asgO, z_asgR, z_par, z_pn, z_pc, z_aug, z_ex, z_ret, z_retN, z_retR, z_ite, z_brk, z_cont, z_pass, z_setIs, z_tn, w_cst, w_var, w_glo, w_bin, w_neg, w_not, w_and, w_or, w_cmp, w_cmp2, w_ife, w_idx, w_slc, w_no, w_so, w_cno, w_cso, w_tup, w_lst, w_dnew, w_nil, w_cons, w_call, w_blt, w_isi, w_iown, w_iseq, w_rng1, w_rng2, nxK, varE, assignG, own1, oOf, Ev.putK, viewI, O.d, List.getElem?_cons_zero, List.getElem?_cons_succ, List.set_cons_zero, List.set_cons_succ, Option.some.injEq, exists_eq_left', D.bl.injEq, D.int.injEq, EV.own.injEq, b_add, b_adds, b_addl, b_mull, b_muls, b_sub, b_mul, b_fdiv, b_mod, b_pow, at0, at1, at2, at3, c_lt, c_le, c_gt, c_ge, c_eqi, c_nei, c_eqs, c_nes, c_eqb, Option.map_some, len_lst, len_tup, len_scr, f_abs, f_max, f_min, f_intb, f_inti, f_str, f_list_l, f_list_t, seq_lst, seq_str, seq_scr, ck_no, ite_true, if_true, if_false, Bool.false_eq_true, reduceCtorEq, decide_eq_true_eq, decide_eq_false_iff_not, Bool.not_eq_true', Bool.not_eq_false', Bool.not_true, Bool.not_false, not_true_eq_false, not_false_eq_true, true_and, and_true, forall_const, false_implies, implies_true, z_retO, ro_own, fz_own, fz_v, ov_lst, ov_dct, ov_non, ov_int, ov_bl, ov_str, ov_tup, w_callF, w_callO]
          exact ⟨_, _, rfl, ps, by simp only [List.length_cons] at hwl; omega, fun k hk2 => hk k (List.mem_cons_of_mem _ hk2)⟩
    · cases e with
      | send => exact absurd rfl h
      | wr k =>
        have i0 : idxop (E.wr k).d (.int 1) s = some (.str k) := at1
        refine ⟨_, i0, _, c_notin in_strs, fun hm => ?_, fun hm => ?_⟩
        · have hm : k ∉ ws := by simpa using hm
          rw [z_mown rfl]
          simp only [s_nil, s_seq, s_frz, z_asg, z_asgO, z_asgR, z_par, z_pn, z_pc, z_aug, z_ex, z_ret, z_retN, z_retR, z_ite, z_brk, z_cont, z_pass, z_setIs, z_tn, w_cst, w_var, w_glo, w_bin, w_neg, w_not, w_and, w_or, w_cmp, w_cmp2, w_ife, w_idx, w_slc, w_no, w_so, w_cno, w_cso, w_tup, w_lst, w_dnew, w_nil, w_cons, w_call, w_blt, w_isi, w_iown, w_iseq, w_rng1, w_rng2, nxK, varE, assignG, own1, oOf, Ev.putK, viewI, O.d, List.getElem?_cons_zero, List.getElem?_cons_succ, List.set_cons_zero, List.set_cons_succ, Option.some.injEq, exists_eq_left', D.bl.injEq, D.int.injEq, EV.own.injEq, b_add, b_adds, b_addl, b_mull, b_muls, b_sub, b_mul, b_fdiv, b_mod, b_pow, at0, at1, at2, at3, c_lt, c_le, c_gt, c_ge, c_eqi, c_nei, c_eqs, c_nes, c_eqb, Option.map_some, len_lst, len_tup, len_scr, f_abs, f_max, f_min, f_intb, f_inti, f_str, f_list_l, f_list_t, seq_lst, seq_str, seq_scr, ck_no, ite_true, if_true, if_false, Bool.false_eq_true, reduceCtorEq, decide_eq_true_eq, decide_eq_false_iff_not, Bool.not_eq_true', Bool.not_eq_false', Bool.not_true, Bool.not_false, not_true_eq_false, not_false_eq_true, true_and, and_true, forall_const, false_implies, implies_true, z_retO, ro_own, fz_own, fz_v, ov_lst, ov_dct, ov_non, ov_int, ov_bl, ov_str, ov_tup, w_callF, w_callO, i0]
          refine ⟨_, app1 (by rw [List.length_map]; omega), ?_⟩
          have ps : play [] (es.take (j + 1)) = some (ws ++ [k]) := by
            rw [ps]
            show some (if k ∈ ws then ws else ws ++ [k]) = _
            rw [if_neg hm]
          simp only [s_nil, s_seq, s_frz, z_asg, z_asgO, z_asgR, z_par, z_pn, z_pc, z_aug, z_ex, z_ret, z_retN, z_retR, z_ite, z_brk, z_cont, z_pass, z_setIs, z_tn, w_cst, w_var, w_glo, w_bin, w_neg, w_not, w_and, w_or, w_cmp, w_cmp2, w_ife, w_idx, w_slc, w_no, w_so, w_cno, w_cso, w_tup, w_lst, w_dnew, w_nil, w_cons, w_call, w_blt, w_isi, w_iown, w_iseq, w_rng1, w_rng2, nxK, varE, assignG, own1, oOf, Ev.putK, viewI, O.d, List.getElem?_cons_zero, List.getElem?_cons_succ, List.set_cons_zero, List.set_cons_succ, Option.some.injEq, exists_eq_left', D.bl.injEq, D.int.injEq, EV.own.injEq, b_add, b_adds, b_addl, b_mull, b_muls, b_sub, b_mul, b_fdiv, b_mod, b_pow, at0, at1, at2, at3, c_lt, c_le, c_gt, c_ge, c_eqi, c_nei, c_eqs, c_nes, c_eqb, Option.map_some, len_lst, len_tup, len_scr, f_abs, f_max, f_min, f_intb, f_inti, f_str, f_list_l, f_list_t, seq_lst, seq_str, seq_scr, ck_no, ite_true, if_true, if_false, Bool.false_eq_true, reduceCtorEq, decide_eq_true_eq, decide_eq_false_iff_not, Bool.not_eq_true', Bool.not_eq_false', Bool.not_true, Bool.not_false, not_true_eq_false, not_false_eq_true, true_and, and_true, forall_const, false_implies, implies_true, z_retO, ro_own, fz_own, fz_v, ov_lst, ov_dct, ov_non, ov_int, ov_bl, ov_str, ov_tup, w_callF, w_callO]
          refine ⟨_, _, by rw [List.map_append]; rfl, ps, by simp; omega, fun k2 hk2 => ?_⟩
          rcases List.mem_append.mp hk2 with z | z
          · exact hk k2 z
          · rw [List.mem_singleton.mp z]
            exact hok
        · have hm : k ∈ ws := by simpa using hm
          have ps : play [] (es.take (j + 1)) = some ws := by
            rw [ps]
            show some (if k ∈ ws then ws else ws ++ [k]) = _
            rw [if_pos hm]
          exact ⟨_, _, rfl, ps, by omega, hk⟩
  · intro env s h
    obtain ⟨rfl, ws, u, rfl, hp, hwl, hk⟩ := h
    rw [List.length_map, List.take_length] at hp
    rw [hp] at q
    simp only [s_nil, s_seq, s_frz, z_asg, z_asgO, z_asgR, z_par, z_pn, z_pc, z_aug, z_ex, z_ret, z_retN, z_retR, z_ite, z_brk, z_cont, z_pass, z_setIs, z_tn, w_cst, w_var, w_glo, w_bin, w_neg, w_not, w_and, w_or, w_cmp, w_cmp2, w_ife, w_idx, w_slc, w_no, w_so, w_cno, w_cso, w_tup, w_lst, w_dnew, w_nil, w_cons, w_call, w_blt, w_isi, w_iown, w_iseq, w_rng1, w_rng2, nxK, varE, assignG, own1, oOf, Ev.putK, viewI, O.d, List.getElem?_cons_zero, List.getElem?_cons_succ, List.set_cons_zero, List.set_cons_succ, Option.some.injEq, exists_eq_left', D.bl.injEq, D.int.injEq, EV.own.injEq, b_add, b_adds, b_addl, b_mull, b_muls, b_sub, b_mul, b_fdiv, b_mod, b_pow, at0, at1, at2, at3, c_lt, c_le, c_gt, c_ge, c_eqi, c_nei, c_eqs, c_nes, c_eqb, Option.map_some, len_lst, len_tup, len_scr, f_abs, f_max, f_min, f_intb, f_inti, f_str, f_list_l, f_list_t, seq_lst, seq_str, seq_scr, ck_no, ite_true, if_true, if_false, Bool.false_eq_true, reduceCtorEq, decide_eq_true_eq, decide_eq_false_iff_not, Bool.not_eq_true', Bool.not_eq_false', Bool.not_true, Bool.not_false, not_true_eq_false, not_false_eq_true, true_and, and_true, forall_const, false_implies, implies_true, z_retO, ro_own, fz_own, fz_v, ov_lst, ov_dct, ov_non, ov_int, ov_bl, ov_str, ov_tup, w_callF, w_callO]
    exact q
end FR
/-! FG: the draws of the laws about queues -/
open PySem L2 Ev PySem.Spec PyProof.Rows FK FR
open FB (NL Fr rngL_len in62_of mul_small2 pow_ok2 noLs_strs noLs_of)
namespace FG
def cd__law_source : CDef := ⟨2, 3, [], (.cons (.asg (.nm 2) (.ife (.cmp .lt (.var 1) (.blt "len" (.cons (.var 0) .nil))) (.idx (.var 0) (.var 1)) (.cst (.int 0)))) (.cons (.retR (.lst (.cons (.blt "max" (.cons (.cst (.int 0)) (.cons (.bin .sub (.blt "abs" (.cons (.var 2) .nil)) (.bin .pow (.cst (.int 10)) (.cst (.int 18)))) .nil))) (.cons (.bin .add (.bin .add (.bin .mul (.bin .mod (.var 2) (.bin .add (.bin .pow (.cst (.int 10)) (.cst (.int 41))) (.cst (.int 109)))) (.cst (.int 83))) (.bin .mul (.cst (.int 17)) (.var 1))) (.cst (.int 3))) (.cons (.cst (.int 0)) .nil))))) .nil))⟩
class M__law_source (P : Prog) : Prop where
  d__law_source : assoc P.defs "_law_source" = some cd__law_source
def cd__law_draw : CDef := ⟨2, 4, [], (.cons (.ite (.cmp .gt (.idx (.var 0) (.cst (.int 0))) (.cst (.int 0))) (.cons (.asg (.nm 3) (.bin .mod (.idx (.var 0) (.cst (.int 0))) (.var 1))) (.cons (.setI 0 (.cst (.int 0)) (.bin .fdiv (.idx (.var 0) (.cst (.int 0))) (.var 1))) (.cons (.ret (.var 3)) .nil))) .nil) (.cons (.setI 0 (.cst (.int 2)) (.bin .add (.idx (.var 0) (.cst (.int 2))) (.cst (.int 1)))) (.cons (.asg (.nm 2) (.bin .mod (.bin .pow (.bin .add (.idx (.var 0) (.cst (.int 1))) (.bin .mul (.bin .mul (.cst (.int 32452843)) (.idx (.var 0) (.cst (.int 2)))) (.idx (.var 0) (.cst (.int 2))))) (.cst (.int 3))) (.bin .add (.bin .pow (.cst (.int 10)) (.cst (.int 40))) (.cst (.int 121))))) (.cons (.asg (.nm 2) (.bin .mod (.bin .pow (.bin .add (.var 2) (.bin .mul (.cst (.int 49979687)) (.idx (.var 0) (.cst (.int 2))))) (.cst (.int 3))) (.bin .add (.bin .pow (.cst (.int 10)) (.cst (.int 38))) (.cst (.int 133))))) (.cons (.ret (.bin .mod (.bin .fdiv (.var 2) (.cst (.int 999979))) (.var 1))) .nil)))))⟩
class M__law_draw (P : Prog) : Prop where
  d__law_draw : assoc P.defs "_law_draw" = some cd__law_draw
def cd__law_mixed : CDef := ⟨2, 4, [], (.cons (.asgR 2 (.blt "list" (.cons (.var 1) .nil))) (.cons (.ret (.lc [3] (.nm 3) (.rng1 (.blt "len" (.cons (.var 1) .nil))) .no (.mut "pop" 2 (.cons (.call "_law_draw" (.cons (.var 0) (.cons (.blt "len" (.cons (.var 2) .nil)) .nil))) .nil)))) .nil))⟩
class M__law_mixed (P : Prog) : Prop extends M__law_draw P where
  d__law_mixed : assoc P.defs "_law_mixed" = some cd__law_mixed
def cd__law_keys : CDef := ⟨2, 3, [], (.cons (.asg (.nm 2) (.bin .add (.blt "list" (.cons (.cst (.str "abcdefghijklmnopqrstuvwxyz")) .nil)) (.lst (.cons (.cst (.str "a1")) (.cons (.cst (.str "a_")) (.cons (.cst (.str "ab")) (.cons (.cst (.str "abc_de_fg_12")) (.cons (.cst (.str "abc_de_fg_13")) (.cons (.cst (.str "write")) (.cons (.cst (.str "send")) .nil)))))))))) (.cons (.asg (.nm 2) (.bin .add (.var 2) (.lst (.cons (.cst (.str "log")) (.cons (.cst (.str "none")) (.cons (.cst (.str "any")) (.cons (.cst (.str "z9")) (.cons (.cst (.str "zz")) (.cons (.cst (.str "undo")) (.cons (.cst (.str "sure")) .nil)))))))))) (.cons (.ret (.slc (.callF "_law_mixed" (.cons (.var 0) (.cons (.var 2) .nil))) .no (.so (.bin .add (.cst (.int 1)) (.call "_law_draw" (.cons (.var 0) (.cons (.var 1) .nil))))))) .nil)))⟩
class M__law_keys (P : Prog) : Prop extends M__law_mixed P where
  d__law_keys : assoc P.defs "_law_keys" = some cd__law_keys
def cd__law_drawn_run : CDef := ⟨3, 8, [], (.cons (.par [(1, 4), (1, 5), (0, 6)] (.cons (.lst .nil) (.cons (.lst .nil) (.cons (.idx (.lst (.cons (.cst (.int 1)) (.cons (.cst (.int 2)) (.cons (.cst (.int 5)) .nil)))) (.call "_law_draw" (.cons (.var 0) (.cons (.cst (.int 3)) .nil)))) .nil)))) (.cons (.for_ (.nm 3) (.rng1 (.var 2)) (.cons (.ite (.and (.cmp .ne (.var 5) (.lst .nil)) (.cmp .gt (.call "_law_draw" (.cons (.var 0) (.cons (.bin .add (.var 6) (.cst (.int 1))) .nil))) (.cst (.int 0)))) (.cons (.mcall 5 "pop" (.cons (.cst (.int 0)) .nil)) (.cons (.mcall 4 "append" (.cons (.tup (.cons (.cst (.str "send")) .nil)) .nil)) .nil)) (.cons (.asg (.nm 7) (.idx (.var 1) (.call "_law_draw" (.cons (.var 0) (.cons (.blt "len" (.cons (.var 1) .nil)) .nil))))) (.cons (.ite (.and (.cmp .ne (.var 5) (.lst .nil)) (.cmp .eq (.call "_law_draw" (.cons (.var 0) (.cons (.cst (.int 4)) .nil))) (.cst (.int 0)))) (.cons (.asg (.nm 7) (.idx (.var 5) (.cst (.int 0)))) .nil) .nil) (.cons (.mcall 4 "append" (.cons (.tup (.cons (.cst (.str "write")) (.cons (.var 7) .nil))) .nil)) (.cons (.ite (.cmp .notin (.var 7) (.var 5)) (.cons (.mcall 5 "append" (.cons (.var 7) .nil)) .nil) .nil) .nil))))) .nil)) (.cons (.retO 4) .nil)))⟩
class M__law_drawn_run (P : Prog) : Prop extends M__law_draw P where
  d__law_drawn_run : assoc P.defs "_law_drawn_run" = some cd__law_drawn_run
variable {P : Prog}
/-- the source of the draws stands at l, at most b draws are counted -/
def PZ (st : Store) (l : Nat) (b : Int) : Prop := (∃ a s c : Int, st[l]? = some (.lst [.int a, .int s, .int c]) ∧ 0 ≤ a ∧ 0 ≤ s ∧ s < 2 ^ 150 ∧ 0 ≤ c ∧ c ≤ b) ∧ NL st
theorem PZ.mono {st : Store} {l : Nat} {b c : Int} (h : PZ st l b) (hb : b ≤ c) : PZ st l c := by
  obtain ⟨⟨a, s, c', h1, h2, h3, h4, h5, h6⟩, hN⟩ := h
  exact ⟨⟨a, s, c', h1, h2, h3, h4, h5, by omega⟩, hN⟩
theorem PZ.lt {st : Store} {l : Nat} {b : Int} (h : PZ st l b) : l < st.length := by
  obtain ⟨⟨a, s, c', h1, _⟩, _⟩ := h
  exact some_lt h1
theorem PZ.push {st : Store} {l : Nat} {b : Int} (h : PZ st l b) {o : O} (ho : noLO o = true) : PZ (st ++ [o]) l b := by
  have := h.lt
  obtain ⟨⟨a, s, c', h1, h2⟩, hN⟩ := h
  exact ⟨⟨a, s, c', by rw [List.getElem?_append_left this]; exact h1, h2⟩, hN.push ho⟩
theorem PZ.set {st : Store} {l : Nat} {b : Int} (h : PZ st l b) {o : O} (ho : noLO o = true) {i : Nat} (hi : i ≠ l) : PZ (st.set i o) l b := by
  obtain ⟨⟨a, s, c', h1, h2⟩, hN⟩ := h
  exact ⟨⟨a, s, c', by rw [List.getElem?_set_ne hi]; exact h1, h2⟩, hN.set ho _⟩
theorem PZ.fr {st s : Store} {l : Nat} {b : Int} (h : PZ st l b) (e : s[l]? = st[l]?) (n : NL s) : PZ s l b := by
  obtain ⟨⟨a, s', c', h1, h2⟩, hN⟩ := h
  exact ⟨⟨a, s', c', e.trans h1, h2⟩, n⟩
theorem log2_big {i : Int} (h0 : 0 ≤ i) (h1 : i < 2 ^ 120) : i.natAbs.log2 < 9000 := by
  by_cases hz : i.natAbs = 0
  · rw [hz]
    decide
  · have : i.natAbs.log2 < 120 := (Nat.log2_lt hz).mpr (by omega)
    omega
theorem draw_all [M__law_draw P] {wf n l : Nat} {m b : Int} {st : Store} {Q : D → Store → Prop} (hp : PZ st l b) (hb : b < 2 ^ 40) (h0 : 0 < m) (h1 : m < 2 ^ 62)
    (k : ∀ r st', 0 ≤ r → r < m → PZ st' l (b + 1) → st'.length = st.length → (∀ i, i ≠ l → st'[i]? = st[i]?) → Q (.int r) st') : (callF P wf (n + 1) "_law_draw" [.ref l, .int m] st).all Q := by
  obtain ⟨⟨a, s, c, hl, ha, hs, hs2, hc, hc2⟩, hN⟩ := hp
  have hlt : l < st.length := some_lt hl
  have fin : ∀ (r a' c' : Int), 0 ≤ r → r < m → 0 ≤ a' → 0 ≤ c' → c' ≤ b + 1 → Q (.int r) (st.set l (.lst [.int a', .int s, .int c'])) := fun r a' c' q1 q2 q3 q4 q5 => by
    refine k r _ q1 q2 ⟨⟨a', s, c', by rw [List.getElem?_set_self hlt], q3, hs, hs2, q4, q5⟩, hN.set (by simp [noLO, noLs, noL]) _⟩ (List.length_set ..) fun i hi => List.getElem?_set_ne (Ne.symm hi)
  refine call_all (cd := cd__law_draw) (env := [.v (.ref l), .v (.int m), .un, .un]) M__law_draw.d__law_draw rfl ?_
  simp only [s_nil, s_seq, s_frz, z_asg, z_asgO, z_asgR, z_par, z_pn, z_pc, z_aug, z_ex, z_ret, z_retN, z_retR, z_ite, z_brk, z_cont, z_pass, z_setIs, z_tn, w_cst, w_var, w_glo, w_bin, w_neg, w_not, w_and, w_or, w_cmp, w_cmp2, w_ife, w_idx, w_slc, w_no, w_so, w_cno, w_cso, w_tup, w_lst, w_dnew, w_nil, w_cons, w_call, w_blt, w_isi, w_iown, w_iseq, w_rng1, w_rng2b, nxK, varE, assignG, own1, oOf, Ev.putK, viewI, O.d, List.getElem?_cons_zero, List.getElem?_cons_succ, List.set_cons_zero, List.set_cons_succ, Option.some.injEq, exists_eq_left', D.bl.injEq, D.int.injEq, EV.own.injEq, b_add, b_adds, b_addl, b_mull, b_muls, b_sub, b_mul, b_fdiv, b_mod, b_pow, at0, at1, at2, at3, c_lt, c_le, c_gt, c_ge, c_eqi, c_nei, c_eqs, c_nes, c_eqb, Option.map_some, len_lst, len_tup, len_scr, f_abs, f_max, f_min, f_intb, f_inti, f_str, f_list_l, f_list_t, seq_lst, seq_str, seq_scr, ck_no, ite_true, if_true, if_false, Bool.false_eq_true, reduceCtorEq, decide_eq_true_eq, decide_eq_false_iff_not, Bool.not_eq_true', Bool.not_eq_false', Bool.not_true, Bool.not_false, not_true_eq_false, not_false_eq_true, true_and, and_true, forall_const, false_implies, implies_true, lpK, w_rngDb, c_isN, c_isnotN, w_mth, z_mcall, mc_own, mc_ref, z_mcallTo, mt_own, z_setK, si_own, si_ref, mw_app, mw_ext, sw_dct, keyOk_int, keyOk_str, setAll, idx_lst, idx_tup, z_retO, ro_own, fz_own, fz_v, ov_lst, ov_dct, ov_non, ov_int, ov_bl, ov_str, ov_tup, w_callF, w_callO, w_lset, Ev.w_rev, w_fld, w_meth, w_mkI, w_setd, w_dcp, z_setX, z_setF, cd__law_draw, idx_ref hl]
  refine ⟨fun hpos => ⟨h0, ⟨h0, log2_big (Int.le_of_lt h0) (by omega)⟩, _, hl, .lst [.int (a / m), .int s, .int c], rfl, ?_⟩, fun hneg => ⟨_, hl, .lst [.int a, .int s, .int (c + 1)], rfl, ?_⟩⟩
  · exact fin _ _ _ (Int.emod_nonneg _ (by omega)) (Int.emod_lt_of_pos _ h0) (Int.ediv_nonneg ha (Int.le_of_lt h0)) hc (by omega)
  · have hl2 : (st.set l (.lst [.int a, .int s, .int (c + 1)]))[l]? = some (.lst [.int a, .int s, .int (c + 1)]) := List.getElem?_set_self hlt
    simp only [s_nil, s_seq, s_frz, z_asg, z_asgO, z_asgR, z_par, z_pn, z_pc, z_aug, z_ex, z_ret, z_retN, z_retR, z_ite, z_brk, z_cont, z_pass, z_setIs, z_tn, w_cst, w_var, w_glo, w_bin, w_neg, w_not, w_and, w_or, w_cmp, w_cmp2, w_ife, w_idx, w_slc, w_no, w_so, w_cno, w_cso, w_tup, w_lst, w_dnew, w_nil, w_cons, w_call, w_blt, w_isi, w_iown, w_iseq, w_rng1, w_rng2b, nxK, varE, assignG, own1, oOf, Ev.putK, viewI, O.d, List.getElem?_cons_zero, List.getElem?_cons_succ, List.set_cons_zero, List.set_cons_succ, Option.some.injEq, exists_eq_left', D.bl.injEq, D.int.injEq, EV.own.injEq, b_add, b_adds, b_addl, b_mull, b_muls, b_sub, b_mul, b_fdiv, b_mod, b_pow, at0, at1, at2, at3, c_lt, c_le, c_gt, c_ge, c_eqi, c_nei, c_eqs, c_nes, c_eqb, Option.map_some, len_lst, len_tup, len_scr, f_abs, f_max, f_min, f_intb, f_inti, f_str, f_list_l, f_list_t, seq_lst, seq_str, seq_scr, ck_no, ite_true, if_true, if_false, Bool.false_eq_true, reduceCtorEq, decide_eq_true_eq, decide_eq_false_iff_not, Bool.not_eq_true', Bool.not_eq_false', Bool.not_true, Bool.not_false, not_true_eq_false, not_false_eq_true, true_and, and_true, forall_const, false_implies, implies_true, lpK, w_rngDb, c_isN, c_isnotN, w_mth, z_mcall, mc_own, mc_ref, z_mcallTo, mt_own, z_setK, si_own, si_ref, mw_app, mw_ext, sw_dct, keyOk_int, keyOk_str, setAll, idx_lst, idx_tup, z_retO, ro_own, fz_own, fz_v, ov_lst, ov_dct, ov_non, ov_int, ov_bl, ov_str, ov_tup, w_callF, w_callO, w_lset, Ev.w_rev, w_fld, w_meth, w_mkI, w_setd, w_dcp, z_setX, z_setF, idx_ref hl2]
    have cc : 0 ≤ 32452843 * (c + 1) * (c + 1) ∧ 32452843 * (c + 1) * (c + 1) ≤ 32452843 * 2 ^ 40 * 2 ^ 40 := by
      refine ⟨Int.mul_nonneg (by omega) (by omega), ?_⟩
      exact Int.mul_le_mul (by omega) (by omega) (by omega) (by decide)
    have q1 := Int.emod_nonneg ((s + 32452843 * (c + 1) * (c + 1)) ^ Int.toNat 3) (show (10 ^ Int.toNat 40 + 121 : Int) ≠ 0 by decide)
    have q2 := Int.emod_lt_of_pos ((s + 32452843 * (c + 1) * (c + 1)) ^ Int.toNat 3) (show (0 : Int) < 10 ^ Int.toNat 40 + 121 by decide)
    have q3 : (10 ^ Int.toNat 40 + 121 : Int) < 2 ^ 140 := by decide
    refine ⟨mul_small2 (by omega), mul_small2 (by omega), pow_ok (k := 200) (by omega) (by decide), by decide +kernel, by decide, mul_small2 (by omega), pow_ok (k := 200) (by omega) (by decide), by decide +kernel, by decide, ⟨by decide, by decide⟩, h0, ?_⟩
    exact fin _ _ _ (Int.emod_nonneg _ (by omega)) (Int.emod_lt_of_pos _ h0) ha (by omega) (by omega)
def sSrc : CSs := .cons (.retR (.lst (.cons (.blt "max" (.cons (.cst (.int 0)) (.cons (.bin .sub (.blt "abs" (.cons (.var 2) .nil)) (.bin .pow (.cst (.int 10)) (.cst (.int 18)))) .nil))) (.cons (.bin .add (.bin .add (.bin .mul (.bin .mod (.var 2) (.bin .add (.bin .pow (.cst (.int 10)) (.cst (.int 41))) (.cst (.int 109)))) (.cst (.int 83))) (.bin .mul (.cst (.int 17)) (.var 1))) (.cst (.int 3))) (.cons (.cst (.int 0)) .nil))))) .nil
theorem source_all [M__law_source P] {wf n : Nat} {ns : List Int} {j : Int} {st : Store} {Q : D → Store → Prop} (hN : NL st) (h0 : 0 ≤ j) (h1 : j < 6) (k : ∀ st', PZ st' st.length 0 → st'.length = st.length + 1 → (∀ i, i < st.length → st'[i]? = st[i]?) → Q (.ref st.length) st') : (callF P wf (n + 1) "_law_source" [.scr ns, .int j] st).all Q := by
  have fin : ∀ a s : Int, 0 ≤ a → 0 ≤ s → s < 2 ^ 150 → Q (.ref st.length) (st ++ [.lst [.int a, .int s, .int 0]]) := fun a s q1 q2 q3 =>
    k _ ⟨⟨a, s, 0, by simp, q1, q2, q3, by decide, by decide⟩, hN.push (by simp [noLO, noLs, noL])⟩ (by simp) fun i hi => List.getElem?_append_left hi
  have cell : ∀ c : Int, (evSs (callF P wf n) (assoc P.glob) wf sSrc [.v (.scr ns), .v (.int j), .v (.int c)] st).all fun o s => match o with
      | .nx _ => Q .non s
      | .ret d => Q d s
      | _ => False := fun c => by
    simp only [s_nil, s_seq, s_frz, z_asg, z_asgO, z_asgR, z_par, z_pn, z_pc, z_aug, z_ex, z_ret, z_retN, z_retR, z_ite, z_brk, z_cont, z_pass, z_setIs, z_tn, w_cst, w_var, w_glo, w_bin, w_neg, w_not, w_and, w_or, w_cmp, w_cmp2, w_ife, w_idx, w_slc, w_no, w_so, w_cno, w_cso, w_tup, w_lst, w_dnew, w_nil, w_cons, w_call, w_blt, w_isi, w_iown, w_iseq, w_rng1, w_rng2b, nxK, varE, assignG, own1, oOf, Ev.putK, viewI, O.d, List.getElem?_cons_zero, List.getElem?_cons_succ, List.set_cons_zero, List.set_cons_succ, Option.some.injEq, exists_eq_left', D.bl.injEq, D.int.injEq, EV.own.injEq, b_add, b_adds, b_addl, b_mull, b_muls, b_sub, b_mul, b_fdiv, b_mod, b_pow, at0, at1, at2, at3, c_lt, c_le, c_gt, c_ge, c_eqi, c_nei, c_eqs, c_nes, c_eqb, Option.map_some, len_lst, len_tup, len_scr, f_abs, f_max, f_min, f_intb, f_inti, f_str, f_list_l, f_list_t, seq_lst, seq_str, seq_scr, ck_no, ite_true, if_true, if_false, Bool.false_eq_true, reduceCtorEq, decide_eq_true_eq, decide_eq_false_iff_not, Bool.not_eq_true', Bool.not_eq_false', Bool.not_true, Bool.not_false, not_true_eq_false, not_false_eq_true, true_and, and_true, forall_const, false_implies, implies_true, lpK, w_rngDb, c_isN, c_isnotN, w_mth, z_mcall, mc_own, mc_ref, z_mcallTo, mt_own, z_setK, si_own, si_ref, mw_app, mw_ext, sw_dct, keyOk_int, keyOk_str, setAll, idx_lst, idx_tup, z_retO, ro_own, fz_own, fz_v, ov_lst, ov_dct, ov_non, ov_int, ov_bl, ov_str, ov_tup, w_callF, w_callO, w_lset, Ev.w_rev, w_fld, w_meth, w_mkI, w_setd, w_dcp, z_setX, z_setF, sSrc]
    have q1 := Int.emod_nonneg c (show (10 ^ Int.toNat 41 + 109 : Int) ≠ 0 by decide)
    have q2 := Int.emod_lt_of_pos c (show (0 : Int) < 10 ^ Int.toNat 41 + 109 by decide)
    have q3 : (10 ^ Int.toNat 41 + 109 : Int) < 2 ^ 138 := by decide
    refine ⟨by decide +kernel, by decide +kernel, by decide, mul_small2 (by decide), mul_small2 (by omega), sm (by simp), fin _ _ ?_ (by omega) (by omega)⟩
    split <;> omega
  refine call_all (cd := cd__law_source) (env := [.v (.scr ns), .v (.int j), .un]) M__law_source.d__law_source rfl ?_
  rw [cd__law_source, s_seq, z_asg, w_ife]
  simp only [w_cmp, w_var, w_blt, w_cons, w_nil, w_idx, w_cst, varE, List.getElem?_cons_zero, List.getElem?_cons_succ, Option.some.injEq, exists_eq_left', len_scr, c_lt, D.bl.injEq, decide_eq_true_eq, decide_eq_false_iff_not]
  refine ⟨fun hlt => ?_, fun _ => ⟨_, rfl, cell 0⟩⟩
  obtain ⟨hi, er⟩ := atN (l := ns.map D.int) h0 (by rw [List.length_map]; exact hlt)
  rw [List.getElem_map] at er
  exact ⟨_, (show idxop (.scr ns) (.int j) st = _ from er), _, rfl, cell _⟩
/-- the same items in another order: strings that are keys stay so -/
theorem mixed_all [M__law_mixed P] {wf n l : Nat} {b : Int} {ts : List Str} {st : Store} {Q : D → Store → Prop} (hp : PZ st l b) (hb0 : 0 ≤ b) (hb : b < 2 ^ 39) (ht : ts.length ≤ 1000) (hk : ∀ k, k ∈ ts → keyB k = true)
    (k : ∀ (ks : List Str) st', ks.length = ts.length → (∀ k, k ∈ ks → keyB k = true) → PZ st' l (b + ts.length) → Fr l st st' → Q (.lst (ks.map .str)) st') : (callF P wf (n + 2) "_law_mixed" [.ref l, .lst (ts.map .str)] st).all Q := by
  have hs : sizeLine = 16777216 := by rw [sizeLine_eq]
  have hll := hp.lt
  refine call_all (cd := cd__law_mixed) (env := [.v (.ref l), .v (.lst (ts.map .str)), .un, .un]) M__law_mixed.d__law_mixed rfl ?_
  simp only [s_nil, s_seq, s_frz, z_asg, z_asgO, z_asgR, z_par, z_pn, z_pc, z_aug, z_ex, z_ret, z_retN, z_retR, z_ite, z_brk, z_cont, z_pass, z_setIs, z_tn, w_cst, w_var, w_glo, w_bin, w_neg, w_not, w_and, w_or, w_cmp, w_cmp2, w_ife, w_idx, w_slc, w_no, w_so, w_cno, w_cso, w_tup, w_lst, w_dnew, w_nil, w_cons, w_call, w_blt, w_isi, w_iown, w_iseq, w_rng1, w_rng2b, nxK, varE, assignG, own1, oOf, Ev.putK, viewI, O.d, List.getElem?_cons_zero, List.getElem?_cons_succ, List.set_cons_zero, List.set_cons_succ, Option.some.injEq, exists_eq_left', D.bl.injEq, D.int.injEq, EV.own.injEq, b_add, b_adds, b_addl, b_mull, b_muls, b_sub, b_mul, b_fdiv, b_mod, b_pow, at0, at1, at2, at3, c_lt, c_le, c_gt, c_ge, c_eqi, c_nei, c_eqs, c_nes, c_eqb, Option.map_some, len_lst, len_tup, len_scr, f_abs, f_max, f_min, f_intb, f_inti, f_str, f_list_l, f_list_t, seq_lst, seq_str, seq_scr, ck_no, ite_true, if_true, if_false, Bool.false_eq_true, reduceCtorEq, decide_eq_true_eq, decide_eq_false_iff_not, Bool.not_eq_true', Bool.not_eq_false', Bool.not_true, Bool.not_false, not_true_eq_false, not_false_eq_true, true_and, and_true, forall_const, false_implies, implies_true, lpK, w_rngDb, c_isN, c_isnotN, w_mth, z_mcall, mc_own, mc_ref, z_mcallTo, mt_own, z_setK, si_own, si_ref, mw_app, mw_ext, sw_dct, keyOk_int, keyOk_str, setAll, idx_lst, idx_tup, z_retO, ro_own, fz_own, fz_v, ov_lst, ov_dct, ov_non, ov_int, ov_bl, ov_str, ov_tup, w_callF, w_callO, w_lset, Ev.w_rev, w_fld, w_meth, w_mkI, w_setd, w_dcp, z_setX, z_setF, cd__law_mixed]
  generalize hst1 : st ++ [O.lst (ts.map .str)] = st1
  have hp1 : PZ st1 l b := by
    rw [← hst1]
    exact hp.push (noLs_strs ts)
  have hf1 : Fr l st st1 := by
    rw [← hst1]
    exact Fr.push _ _ _
  have hj : st1[st.length]? = some (.lst (ts.map .str)) := by
    rw [← hst1]
    simp
  rw [w_lc]
  simp only [s_nil, s_seq, s_frz, z_asg, z_asgO, z_asgR, z_par, z_pn, z_pc, z_aug, z_ex, z_ret, z_retN, z_retR, z_ite, z_brk, z_cont, z_pass, z_setIs, z_tn, w_cst, w_var, w_glo, w_bin, w_neg, w_not, w_and, w_or, w_cmp, w_cmp2, w_ife, w_idx, w_slc, w_no, w_so, w_cno, w_cso, w_tup, w_lst, w_dnew, w_nil, w_cons, w_call, w_blt, w_isi, w_iown, w_iseq, w_rng1, w_rng2b, nxK, varE, assignG, own1, oOf, Ev.putK, viewI, O.d, List.getElem?_cons_zero, List.getElem?_cons_succ, List.set_cons_zero, List.set_cons_succ, Option.some.injEq, exists_eq_left', D.bl.injEq, D.int.injEq, EV.own.injEq, b_add, b_adds, b_addl, b_mull, b_muls, b_sub, b_mul, b_fdiv, b_mod, b_pow, at0, at1, at2, at3, c_lt, c_le, c_gt, c_ge, c_eqi, c_nei, c_eqs, c_nes, c_eqb, Option.map_some, len_lst, len_tup, len_scr, f_abs, f_max, f_min, f_intb, f_inti, f_str, f_list_l, f_list_t, seq_lst, seq_str, seq_scr, ck_no, ite_true, if_true, if_false, Bool.false_eq_true, reduceCtorEq, decide_eq_true_eq, decide_eq_false_iff_not, Bool.not_eq_true', Bool.not_eq_false', Bool.not_true, Bool.not_false, not_true_eq_false, not_false_eq_true, true_and, and_true, forall_const, false_implies, implies_true, lpK, w_rngDb, c_isN, c_isnotN, w_mth, z_mcall, mc_own, mc_ref, z_mcallTo, mt_own, z_setK, si_own, si_ref, mw_app, mw_ext, sw_dct, keyOk_int, keyOk_str, setAll, idx_lst, idx_tup, z_retO, ro_own, fz_own, fz_v, ov_lst, ov_dct, ov_non, ov_int, ov_bl, ov_str, ov_tup, w_callF, w_callO, w_lset, Ev.w_rev, w_fld, w_meth, w_mkI, w_setd, w_dcp, z_setX, z_setF, List.length_map]
  refine ⟨in62_of (by omega) (by omega), by rw [rngL_len]; omega, ?_⟩
  have key := lc_all (cl := callF P wf (n + 1)) (gl := assoc P.glob) (env := [.v (.ref l), .v (.lst (ts.map .str)), .v (.ref st.length), .un]) (g := .nm 3) (vs := [3]) (c := .no)
    (e := .mut "pop" 2 (.cons (.call "_law_draw" (.cons (.var 0) (.cons (.blt "len" (.cons (.var 2) .nil)) .nil))) .nil)) (ck := Chk.no.ok) (xs := rngL 0 (Int.toNat ts.length))
    (fun i acc s => ∃ left, s[st.length]? = some (.lst left) ∧ left.length + i = ts.length ∧ (∀ d, d ∈ left ++ acc → ∃ k, d = .str k ∧ keyB k = true) ∧ acc.length = i ∧ PZ s l (b + i) ∧ Fr l st s) (Int.toNat ts.length) 0 [] st1 (by rw [rngL_len]; omega)
    ⟨_, hj, by rw [List.length_map]; omega, fun d hd => by
      rw [List.append_nil] at hd
      obtain ⟨k, hk2, rfl⟩ := List.mem_map.mp hd
      exact ⟨k, rfl, hk k hk2⟩, rfl, hp1.mono (by omega), hf1⟩ (fun _ _ _ _ _ => rfl) ?_
  · rw [List.drop_zero] at key
    refine all_mono key fun ds s h => ?_
    obtain ⟨left, g1, g2, g3, g4, g5, g6⟩ := h
    rw [List.nil_append] at g3 g4
    rw [rngL_len] at g2 g4 g5
    have hk : ∃ ks : List Str, ds = ks.map .str ∧ ∀ k, k ∈ ks → keyB k = true := by
      have g7 : ∀ d, d ∈ ds → ∃ k, d = .str k ∧ keyB k = true := fun d hd => g3 d (List.mem_append_right _ hd)
      clear g3 g4 key
      induction ds with
      | nil => exact ⟨[], rfl, fun k h => by simp at h⟩
      | cons d ds ih =>
        obtain ⟨ks, e1, e2⟩ := ih fun x hx => g7 x (List.mem_cons_of_mem _ hx)
        obtain ⟨k, e3, e4⟩ := g7 d List.mem_cons_self
        exact ⟨k :: ks, by rw [e1, e3]; rfl, fun x hx => (List.mem_cons.mp hx).elim (fun q => q ▸ e4) (e2 x)⟩
    obtain ⟨ks, rfl, hk⟩ := hk
    rw [List.length_map] at g4
    exact k ks s (by omega) hk (g5.mono (by omega)) g6
  · intro j x acc s hx h
    obtain ⟨left, g1, g2, g3, g4, g5, g6⟩ := h
    have hjl := some_lt hx
    rw [rngL_len] at hjl
    refine ⟨_, rfl, ?_⟩
    rw [w_cno]
    refine ⟨fun _ => w_mut rfl g1 ?_, fun z => by cases z⟩
    simp only [s_nil, s_seq, s_frz, z_asg, z_asgO, z_asgR, z_par, z_pn, z_pc, z_aug, z_ex, z_ret, z_retN, z_retR, z_ite, z_brk, z_cont, z_pass, z_setIs, z_tn, w_cst, w_var, w_glo, w_bin, w_neg, w_not, w_and, w_or, w_cmp, w_cmp2, w_ife, w_idx, w_slc, w_no, w_so, w_cno, w_cso, w_tup, w_lst, w_dnew, w_nil, w_cons, w_call, w_blt, w_isi, w_iown, w_iseq, w_rng1, w_rng2b, nxK, varE, assignG, own1, oOf, Ev.putK, viewI, O.d, List.getElem?_cons_zero, List.getElem?_cons_succ, List.set_cons_zero, List.set_cons_succ, Option.some.injEq, exists_eq_left', D.bl.injEq, D.int.injEq, EV.own.injEq, b_add, b_adds, b_addl, b_mull, b_muls, b_sub, b_mul, b_fdiv, b_mod, b_pow, at0, at1, at2, at3, c_lt, c_le, c_gt, c_ge, c_eqi, c_nei, c_eqs, c_nes, c_eqb, Option.map_some, len_lst, len_tup, len_scr, f_abs, f_max, f_min, f_intb, f_inti, f_str, f_list_l, f_list_t, seq_lst, seq_str, seq_scr, ck_no, ite_true, if_true, if_false, Bool.false_eq_true, reduceCtorEq, decide_eq_true_eq, decide_eq_false_iff_not, Bool.not_eq_true', Bool.not_eq_false', Bool.not_true, Bool.not_false, not_true_eq_false, not_false_eq_true, true_and, and_true, forall_const, false_implies, implies_true, lpK, w_rngDb, c_isN, c_isnotN, w_mth, z_mcall, mc_own, mc_ref, z_mcallTo, mt_own, z_setK, si_own, si_ref, mw_app, mw_ext, sw_dct, keyOk_int, keyOk_str, setAll, idx_lst, idx_tup, z_retO, ro_own, fz_own, fz_v, ov_lst, ov_dct, ov_non, ov_int, ov_bl, ov_str, ov_tup, w_callF, w_callO, w_lset, Ev.w_rev, w_fld, w_meth, w_mkI, w_setd, w_dcp, z_setX, z_setF, wipeE, len_ref g1]
    refine draw_all g5 (by omega) (by omega) (by omega) fun r s3 r0 r1 hp3 hl3 hf3 => ?_
    have hne : st.length ≠ l := by omega
    have h6 : s3[st.length]? = some (.lst left) := (hf3 _ hne).trans g1
    have hr : r.toNat < left.length := by omega
    refine ⟨left, h6, _, popI r0 (by omega) (by omega) (List.getElem?_eq_getElem hr), left.eraseIdx r.toNat, by rw [List.getElem?_set_self (some_lt h6)], by rw [List.length_eraseIdx_of_lt hr]; omega, ?_, by simp [g4], ?_, ?_⟩
    · intro d hd
      rcases List.mem_append.mp hd with q | q
      · exact g3 d (List.mem_append_left _ (List.mem_of_mem_eraseIdx q))
      · rcases List.mem_append.mp q with q | q
        · exact g3 d (List.mem_append_right _ q)
        · rw [List.mem_singleton.mp q]
          exact g3 _ (List.mem_append_left _ (List.getElem_mem _))
    · refine (hp3.set (o := .lst (left.eraseIdx r.toNat)) (noLs_of fun d hd => ?_) hne).mono (by omega)
      obtain ⟨k, rfl, _⟩ := g3 d (List.mem_append_left _ (List.mem_of_mem_eraseIdx hd))
      rfl
    · refine ⟨by rw [List.length_set, hl3]; exact g6.1, fun i hi hil => ?_⟩
      rw [List.getElem?_set_ne (by omega), hf3 i hi]
      exact g6.2 i hi hil
theorem f_list_s {s : Str} {st : Store} {Q : D → Store → Prop} : (callB "list" [.str s] st).all Q ↔ s.length ≤ sizeLine ∧ Q (.lst (strL s)) st := by
  show (if s.length ≤ sizeLine then (.ok (.lst (strL s)) st : Res D) else .bad).all Q ↔ _
  rw [all_guard, all_ok]
def pool : List Str := (["a", "b", "c", "d", "e", "f", "g", "h", "i", "j", "k", "l", "m", "n", "o", "p", "q", "r", "s", "t"] : List Str) ++ (["u", "v", "w", "x", "y", "z", "a1", "a_", "ab", "abc_de_fg_12", "abc_de_fg_13", "write", "send", "log", "none", "any", "z9", "zz", "undo", "sure"] : List Str)
theorem pool_eq : strL (Str.ofString "abcdefghijklmnopqrstuvwxyz") ++ [D.str (Str.ofString "a1"), .str (Str.ofString "a_"), .str (Str.ofString "ab"), .str (Str.ofString "abc_de_fg_12"), .str (Str.ofString "abc_de_fg_13"), .str (Str.ofString "write"), .str (Str.ofString "send")] ++ [D.str (Str.ofString "log"), .str (Str.ofString "none"), .str (Str.ofString "any"), .str (Str.ofString "z9"), .str (Str.ofString "zz"), .str (Str.ofString "undo"), .str (Str.ofString "sure")] = pool.map .str := by decide +kernel
theorem pool_ok : ∀ k, k ∈ pool → keyB k = true := by
  have h : pool.all keyB = true := by decide +kernel
  exact fun k hk => List.all_eq_true.mp h k hk
theorem abc_len : (strL (Str.ofString "abcdefghijklmnopqrstuvwxyz")).length = 26 := by decide +kernel
theorem abc_sz : (Str.ofString "abcdefghijklmnopqrstuvwxyz").length = 26 := by decide +kernel
theorem keys_all [M__law_keys P] {wf n l m : Nat} {b : Int} {st : Store} {Q : D → Store → Prop} (hp : PZ st l b) (hb0 : 0 ≤ b) (hb : b < 2 ^ 38) (hm1 : 1 ≤ m) (hm : m ≤ 12)
    (k : ∀ (ks : List Str) st', 1 ≤ ks.length → ks.length ≤ 12 → (∀ k, k ∈ ks → keyB k = true) → PZ st' l (b + 41) → Fr l st st' → Q (.lst (ks.map .str)) st') : (callF P wf (n + 3) "_law_keys" [.ref l, .int m] st).all Q := by
  have hs : sizeLine = 16777216 := by rw [sizeLine_eq]
  refine call_all (cd := cd__law_keys) (env := [.v (.ref l), .v (.int m), .un]) M__law_keys.d__law_keys rfl ?_
  simp only [s_nil, s_seq, s_frz, z_asg, z_asgO, z_asgR, z_par, z_pn, z_pc, z_aug, z_ex, z_ret, z_retN, z_retR, z_ite, z_brk, z_cont, z_pass, z_setIs, z_tn, w_cst, w_var, w_glo, w_bin, w_neg, w_not, w_and, w_or, w_cmp, w_cmp2, w_ife, w_idx, w_slc, w_no, w_so, w_cno, w_cso, w_tup, w_lst, w_dnew, w_nil, w_cons, w_call, w_blt, w_isi, w_iown, w_iseq, w_rng1, w_rng2b, nxK, varE, assignG, own1, oOf, Ev.putK, viewI, O.d, List.getElem?_cons_zero, List.getElem?_cons_succ, List.set_cons_zero, List.set_cons_succ, Option.some.injEq, exists_eq_left', D.bl.injEq, D.int.injEq, EV.own.injEq, b_add, b_adds, b_addl, b_mull, b_muls, b_sub, b_mul, b_fdiv, b_mod, b_pow, at0, at1, at2, at3, c_lt, c_le, c_gt, c_ge, c_eqi, c_nei, c_eqs, c_nes, c_eqb, Option.map_some, len_lst, len_tup, len_scr, f_abs, f_max, f_min, f_intb, f_inti, f_str, f_list_l, f_list_t, seq_lst, seq_str, seq_scr, ck_no, ite_true, if_true, if_false, Bool.false_eq_true, reduceCtorEq, decide_eq_true_eq, decide_eq_false_iff_not, Bool.not_eq_true', Bool.not_eq_false', Bool.not_true, Bool.not_false, not_true_eq_false, not_false_eq_true, true_and, and_true, forall_const, false_implies, implies_true, lpK, w_rngDb, c_isN, c_isnotN, w_mth, z_mcall, mc_own, mc_ref, z_mcallTo, mt_own, z_setK, si_own, si_ref, mw_app, mw_ext, sw_dct, keyOk_int, keyOk_str, setAll, idx_lst, idx_tup, z_retO, ro_own, fz_own, fz_v, ov_lst, ov_dct, ov_non, ov_int, ov_bl, ov_str, ov_tup, w_callF, w_callO, w_lset, Ev.w_rev, w_fld, w_meth, w_mkI, w_setd, w_dcp, z_setX, z_setF, cd__law_keys, f_list_s, pool_eq, List.length_append, List.length_cons, List.length_nil, Nat.reduceAdd, abc_len, abc_sz, hs, Nat.reduceLeDiff]
  have hpl : pool.length = 40 := by decide +kernel
  refine mixed_all (n := n) hp hb0 (by omega) (by omega) pool_ok fun ks s1 hl1 hk1 hp1 hF1 => ?_
  refine draw_all hp1 (by omega) (by omega) (by omega) fun r s2 r0 r1 hp2 hl2 hf2 => ?_
  obtain ⟨c, hc, hc1, hc2⟩ : ∃ c : Nat, (1 + r) = (c : Int) ∧ 1 ≤ c ∧ c ≤ m := ⟨(1 + r).toNat, by omega, by omega, by omega⟩
  rw [b_add, hc]
  refine ⟨_, rfl, _, slc_to (b := c) (by rw [List.length_map]; omega), ?_⟩
  rw [← List.map_take]
  refine k (ks.take c) s2 (by rw [List.length_take]; omega) (by rw [List.length_take]; omega) (fun k hk => hk1 k (List.mem_of_mem_take hk)) (hp2.mono (by omega)) (hF1.trans ⟨by omega, fun i hi _ => hf2 i hi⟩)
/-! ### drawn runs -/
def good (es : List E) : Prop := (∀ e, e ∈ es → e.ok = true) ∧ (play [] es).isSome = true
theorem play_snoc {es : List E} {ws : List Str} {e : E} (h : play [] es = some ws) : play [] (es ++ [e]) = play ws [e] := by
  rw [play_append, h]
  rfl
theorem noLs_es (es : List E) : noLs (es.map E.d) = true := noLs_of fun d hd => by
  obtain ⟨e, _, rfl⟩ := List.mem_map.mp hd
  cases e <;> rfl
theorem drun_all [M__law_drawn_run P] {wf n l m : Nat} {ks : List Str} {b : Int} {st : Store} {Q : D → Store → Prop} (hp : PZ st l b) (hb0 : 0 ≤ b) (hb : b < 2 ^ 38) (hk : ∀ k, k ∈ ks → keyB k = true) (hk1 : 1 ≤ ks.length) (hk2 : ks.length ≤ 1000) (hm : m ≤ 1000)
    (k : ∀ (es : List E) st', good es → es.length = m → PZ st' l (b + 1 + 3 * m) → Fr l st st' → Q (.lst (es.map E.d)) st') : (callF P wf (n + 2) "_law_drawn_run" [.ref l, .lst (ks.map .str), .int m] st).all Q := by
  have hs : sizeLine = 16777216 := by rw [sizeLine_eq]
  refine call_all (cd := cd__law_drawn_run) (env := [.v (.ref l), .v (.lst (ks.map .str)), .v (.int m), .un, .un, .un, .un, .un]) M__law_drawn_run.d__law_drawn_run rfl ?_
  simp only [s_nil, s_seq, s_frz, z_asg, z_asgO, z_asgR, z_par, z_pn, z_pc, z_aug, z_ex, z_ret, z_retN, z_retR, z_ite, z_brk, z_cont, z_pass, z_setIs, z_tn, w_cst, w_var, w_glo, w_bin, w_neg, w_not, w_and, w_or, w_cmp, w_cmp2, w_ife, w_idx, w_slc, w_no, w_so, w_cno, w_cso, w_tup, w_lst, w_dnew, w_nil, w_cons, w_call, w_blt, w_isi, w_iown, w_iseq, w_rng1, w_rng2b, nxK, varE, assignG, own1, oOf, Ev.putK, viewI, O.d, List.getElem?_cons_zero, List.getElem?_cons_succ, List.set_cons_zero, List.set_cons_succ, Option.some.injEq, exists_eq_left', D.bl.injEq, D.int.injEq, EV.own.injEq, b_add, b_adds, b_addl, b_mull, b_muls, b_sub, b_mul, b_fdiv, b_mod, b_pow, at0, at1, at2, at3, c_lt, c_le, c_gt, c_ge, c_eqi, c_nei, c_eqs, c_nes, c_eqb, Option.map_some, len_lst, len_tup, len_scr, f_abs, f_max, f_min, f_intb, f_inti, f_str, f_list_l, f_list_t, seq_lst, seq_str, seq_scr, ck_no, ite_true, if_true, if_false, Bool.false_eq_true, reduceCtorEq, decide_eq_true_eq, decide_eq_false_iff_not, Bool.not_eq_true', Bool.not_eq_false', Bool.not_true, Bool.not_false, not_true_eq_false, not_false_eq_true, true_and, and_true, forall_const, false_implies, implies_true, lpK, w_rngDb, c_isN, c_isnotN, w_mth, z_mcall, mc_own, mc_ref, z_mcallTo, mt_own, z_setK, si_own, si_ref, mw_app, mw_ext, sw_dct, keyOk_int, keyOk_str, setAll, idx_lst, idx_tup, z_retO, ro_own, fz_own, fz_v, ov_lst, ov_dct, ov_non, ov_int, ov_bl, ov_str, ov_tup, w_callF, w_callO, w_lset, Ev.w_rev, w_fld, w_meth, w_mkI, w_setd, w_dcp, z_setX, z_setF, cd__law_drawn_run, hs, List.length_cons, List.length_nil, Nat.reduceAdd, Nat.reduceLeDiff]
  refine draw_all hp (by omega) (by decide) (by decide) fun o s1 o0 o1 hp1 hl1 hf1 => ?_
  obtain ⟨lean, el, hl0, hl5⟩ : ∃ lean : Int, idxop (.lst [.int 1, .int 2, .int 5]) (.int o) s1 = some (.int lean) ∧ 1 ≤ lean ∧ lean ≤ 5 := by
    have : o = 0 ∨ o = 1 ∨ o = 2 := by omega
    rcases this with rfl | rfl | rfl
    · exact ⟨1, idx_lst.trans at0, by decide, by decide⟩
    · exact ⟨2, idx_lst.trans at1, by decide, by decide⟩
    · exact ⟨5, idx_lst.trans at2, by decide, by decide⟩
  refine ⟨_, el, ?_⟩
  rw [z_for]
  simp only [s_nil, s_seq, s_frz, z_asg, z_asgO, z_asgR, z_par, z_pn, z_pc, z_aug, z_ex, z_ret, z_retN, z_retR, z_ite, z_brk, z_cont, z_pass, z_setIs, z_tn, w_cst, w_var, w_glo, w_bin, w_neg, w_not, w_and, w_or, w_cmp, w_cmp2, w_ife, w_idx, w_slc, w_no, w_so, w_cno, w_cso, w_tup, w_lst, w_dnew, w_nil, w_cons, w_call, w_blt, w_isi, w_iown, w_iseq, w_rng1, w_rng2b, nxK, varE, assignG, own1, oOf, Ev.putK, viewI, O.d, List.getElem?_cons_zero, List.getElem?_cons_succ, List.set_cons_zero, List.set_cons_succ, Option.some.injEq, exists_eq_left', D.bl.injEq, D.int.injEq, EV.own.injEq, b_add, b_adds, b_addl, b_mull, b_muls, b_sub, b_mul, b_fdiv, b_mod, b_pow, at0, at1, at2, at3, c_lt, c_le, c_gt, c_ge, c_eqi, c_nei, c_eqs, c_nes, c_eqb, Option.map_some, len_lst, len_tup, len_scr, f_abs, f_max, f_min, f_intb, f_inti, f_str, f_list_l, f_list_t, seq_lst, seq_str, seq_scr, ck_no, ite_true, if_true, if_false, Bool.false_eq_true, reduceCtorEq, decide_eq_true_eq, decide_eq_false_iff_not, Bool.not_eq_true', Bool.not_eq_false', Bool.not_true, Bool.not_false, not_true_eq_false, not_false_eq_true, true_and, and_true, forall_const, false_implies, implies_true, lpK, w_rngDb, c_isN, c_isnotN, w_mth, z_mcall, mc_own, mc_ref, z_mcallTo, mt_own, z_setK, si_own, si_ref, mw_app, mw_ext, sw_dct, keyOk_int, keyOk_str, setAll, idx_lst, idx_tup, z_retO, ro_own, fz_own, fz_v, ov_lst, ov_dct, ov_non, ov_int, ov_bl, ov_str, ov_tup, w_callF, w_callO, w_lset, Ev.w_rev, w_fld, w_meth, w_mkI, w_setd, w_dcp, z_setX, z_setF]
  refine ⟨in62_of (by omega) (by omega), rfl, for_rng (fun j env s => ∃ (es : List E) (ws : List Str) (u v : EV), env = [.v (.ref l), .v (.lst (ks.map .str)), .v (.int m), u, .own (.lst (es.map E.d)), .own (.lst (ws.map .str)), .v (.int lean), v] ∧ (∀ e, e ∈ es → e.ok = true) ∧ play [] es = some ws ∧ es.length = j ∧ ws.length ≤ j ∧ (∀ k, k ∈ ws → keyB k = true) ∧ PZ s l (b + 1 + 3 * j) ∧ Fr l st s) ⟨[], [], _, _, rfl, fun e h => by simp at h, rfl, rfl, Nat.le_refl 0, fun k h => by simp at h, hp1.mono (by omega), ⟨by omega, fun i hi _ => hf1 i hi⟩⟩ ?_ ?_⟩
  · intro j env s hj h
    obtain ⟨es, ws, u, v, rfl, h1, h2, h3, h4, h5, h6, h7⟩ := h
    have hjm : j < m := by simpa using hj
    refine ⟨_, rfl, ?_⟩
    -- a key is written
    have wr : ∀ (key : Str) (s3 : Store), keyB key = true → PZ s3 l (b + 1 + 3 * ((j + 1 : Nat) : Int)) → Fr l st s3 → ∃ r, cmpop .notin (.str key) (.lst (ws.map .str)) s3 = some r ∧ (r = true → (ws.map D.str).length < 16777216 ∧ ∃ (es' : List E) (ws' : List Str) (u v : EV), [EV.v (.ref l), .v (.lst (ks.map .str)), .v (.int m), .v (.int (0 + (j : Int))), .own (.lst (es.map E.d ++ [.tup [.str (Str.ofString "write"), .str key]])), .own (.lst (ws.map .str ++ [.str key])), .v (.int lean), .v (.str key)] = [.v (.ref l), .v (.lst (ks.map .str)), .v (.int m), u, .own (.lst (es'.map E.d)), .own (.lst (ws'.map .str)), .v (.int lean), v] ∧ (∀ e, e ∈ es' → e.ok = true) ∧ play [] es' = some ws' ∧ es'.length = j + 1 ∧ ws'.length ≤ j + 1 ∧ (∀ k, k ∈ ws' → keyB k = true) ∧ PZ s3 l (b + 1 + 3 * ((j + 1 : Nat) : Int)) ∧ Fr l st s3) ∧
        (r = false → ∃ (es' : List E) (ws' : List Str) (u v : EV), [EV.v (.ref l), .v (.lst (ks.map .str)), .v (.int m), .v (.int (0 + (j : Int))), .own (.lst (es.map E.d ++ [.tup [.str (Str.ofString "write"), .str key]])), .own (.lst (ws.map .str)), .v (.int lean), .v (.str key)] = [.v (.ref l), .v (.lst (ks.map .str)), .v (.int m), u, .own (.lst (es'.map E.d)), .own (.lst (ws'.map .str)), .v (.int lean), v] ∧ (∀ e, e ∈ es' → e.ok = true) ∧ play [] es' = some ws' ∧ es'.length = j + 1 ∧ ws'.length ≤ j + 1 ∧ (∀ k, k ∈ ws' → keyB k = true) ∧ PZ s3 l (b + 1 + 3 * ((j + 1 : Nat) : Int)) ∧ Fr l st s3) := fun key s3 hkq hp3 hF => by
      have hev : ∀ e, e ∈ es ++ [.wr key] → e.ok = true := fun e he => by
        rcases List.mem_append.mp he with he | he
        · exact h1 e he
        · rw [List.mem_singleton.mp he]
          exact hkq
      refine ⟨_, c_notin in_strs, fun hm => ?_, fun hm => ?_⟩
      · have hm : key ∉ ws := by simpa using hm
        refine ⟨by rw [List.length_map]; omega, es ++ [.wr key], ws ++ [key], _, _, by rw [List.map_append, List.map_append]; rfl, hev, ?_, by simp only [List.length_append, List.length_cons, List.length_nil]; omega, by simp only [List.length_append, List.length_cons, List.length_nil]; omega, ?_, hp3, hF⟩
        · rw [play_snoc h2]
          show some (if key ∈ ws then ws else ws ++ [key]) = _
          rw [if_neg hm]
        · intro x hx
          rcases List.mem_append.mp hx with hx | hx
          · exact h5 x hx
          · rw [List.mem_singleton.mp hx]
            exact hkq
      · have hm : key ∈ ws := by simpa using hm
        refine ⟨es ++ [.wr key], ws, _, _, by rw [List.map_append]; rfl, hev, ?_, by simp only [List.length_append, List.length_cons, List.length_nil]; omega, by omega, h5, hp3, hF⟩
        rw [play_snoc h2]
        show some (if key ∈ ws then ws else ws ++ [key]) = _
        rw [if_pos hm]
    simp only [s_nil, s_seq, s_frz, z_asg, z_asgO, z_asgR, z_par, z_pn, z_pc, z_aug, z_ex, z_ret, z_retN, z_retR, z_ite, z_brk, z_cont, z_pass, z_setIs, z_tn, w_cst, w_var, w_glo, w_bin, w_neg, w_not, w_and, w_or, w_cmp, w_cmp2, w_ife, w_idx, w_slc, w_no, w_so, w_cno, w_cso, w_tup, w_lst, w_dnew, w_nil, w_cons, w_call, w_blt, w_isi, w_iown, w_iseq, w_rng1, w_rng2b, nxK, varE, assignG, own1, oOf, Ev.putK, viewI, O.d, List.getElem?_cons_zero, List.getElem?_cons_succ, List.set_cons_zero, List.set_cons_succ, Option.some.injEq, exists_eq_left', D.bl.injEq, D.int.injEq, EV.own.injEq, b_add, b_adds, b_addl, b_mull, b_muls, b_sub, b_mul, b_fdiv, b_mod, b_pow, at0, at1, at2, at3, c_lt, c_le, c_gt, c_ge, c_eqi, c_nei, c_eqs, c_nes, c_eqb, Option.map_some, len_lst, len_tup, len_scr, f_abs, f_max, f_min, f_intb, f_inti, f_str, f_list_l, f_list_t, seq_lst, seq_str, seq_scr, ck_no, ite_true, if_true, if_false, Bool.false_eq_true, reduceCtorEq, decide_eq_true_eq, decide_eq_false_iff_not, Bool.not_eq_true', Bool.not_eq_false', Bool.not_true, Bool.not_false, not_true_eq_false, not_false_eq_true, true_and, and_true, forall_const, false_implies, implies_true, lpK, w_rngDb, c_isN, c_isnotN, w_mth, z_mcall, mc_own, mc_ref, z_mcallTo, mt_own, z_setK, si_own, si_ref, mw_app, mw_ext, sw_dct, keyOk_int, keyOk_str, setAll, idx_lst, idx_tup, z_retO, ro_own, fz_own, fz_v, ov_lst, ov_dct, ov_non, ov_int, ov_bl, ov_str, ov_tup, w_callF, w_callO, w_lset, Ev.w_rev, w_fld, w_meth, w_mkI, w_setd, w_dcp, z_setX, z_setF, c_ne0, hs, List.length_cons, List.length_nil, Nat.reduceAdd, Nat.reduceLeDiff]
    have at_ : ∀ (q : Int) (s3 : Store), 0 ≤ q → q < ks.length → ∃ key, keyB key = true ∧ idxop (.lst (ks.map D.str)) (.int q) s3 = some (.str key) := fun q s3 q0 q1 => by
      have hq : q.toNat < ks.length := by omega
      exact ⟨ks[q.toNat], hk _ (List.getElem_mem hq), by
        rw [idx_lst]
        exact atN' q0 (by rw [List.getElem?_map, List.getElem?_eq_getElem hq]; rfl)⟩
    cases ws with
    | nil =>
      refine ⟨fun he => (by cases he), fun _ => ?_⟩
      rw [List.length_map]
      refine draw_all h6 (by omega) (by omega) (by omega) fun q s3 q0 q1 hp3 hl3 hf3 => ?_
      have hF : Fr l st s3 := Fr.trans h7 ⟨by omega, fun i hi _ => hf3 i hi⟩
      obtain ⟨key, hkq, iq⟩ := at_ q s3 q0 q1
      refine ⟨_, iq, fun he => (by cases he), fun _ => ⟨by rw [List.length_map]; omega, ?_⟩⟩
      exact wr key s3 hkq (hp3.mono (by omega)) hF
    | cons w ws =>
      refine ⟨fun he => ?_, fun he => (by cases he)⟩
      refine draw_all h6 (by omega) (by omega) (by omega) fun r s2 r0 r1 hp2 hl2 hf2 => ?_
      have hF2 : Fr l st s2 := Fr.trans h7 ⟨by omega, fun i hi _ => hf2 i hi⟩
      refine ⟨_, c_gt, fun hr => ?_, fun hr => ?_⟩
      · refine ⟨_, pop0 (x := .str w) (r := ws.map .str) (by simp only [List.length_cons, List.length_map] at h4 ⊢; omega), by rw [List.length_map]; omega, es ++ [.send], ws, _, _, by rw [List.map_append]; rfl, ?_, ?_, by simp only [List.length_append, List.length_cons, List.length_nil]; omega, by simp only [List.length_cons] at h4; omega, fun k hk => h5 k (List.mem_cons_of_mem _ hk), hp2.mono (by omega), hF2⟩
        · intro e he
          rcases List.mem_append.mp he with he | he
          · exact h1 e he
          · rw [List.mem_singleton.mp he]
            rfl
        · rw [play_snoc h2]
          rfl
      · rw [List.length_map]
        refine draw_all hp2 (by omega) (by omega) (by omega) fun q s3 q0 q1 hp3 hl3 hf3 => ?_
        have hF3 : Fr l st s3 := Fr.trans hF2 ⟨by omega, fun i hi _ => hf3 i hi⟩
        obtain ⟨key, hkq, iq⟩ := at_ q s3 q0 q1
        refine ⟨_, iq, fun _ => ?_, fun he => (by cases he)⟩
        refine draw_all hp3 (by omega) (by decide) (by decide) fun z s4 z0 z1 hp4 hl4 hf4 => ?_
        have hF4 : Fr l st s4 := Fr.trans hF3 ⟨by omega, fun i hi _ => hf4 i hi⟩
        refine ⟨_, c_eqi, fun hz => ?_, fun hz => ?_⟩
        · refine ⟨.str w, at0, by rw [List.length_map]; omega, ?_⟩
          exact wr w s4 (h5 w List.mem_cons_self) (hp4.mono (by omega)) hF4
        · refine ⟨by rw [List.length_map]; omega, ?_⟩
          exact wr key s4 hkq (hp4.mono (by omega)) hF4
  · rintro env s ⟨es, ws, u, v, rfl, h1, h2, h3, h4, h5, h6, h7⟩
    have h3 : es.length = m := by simpa using h3
    have h6 : PZ s l (b + 1 + 3 * (m : Int)) := by simpa using h6
    simp only [s_nil, s_seq, s_frz, z_asg, z_asgO, z_asgR, z_par, z_pn, z_pc, z_aug, z_ex, z_ret, z_retN, z_retR, z_ite, z_brk, z_cont, z_pass, z_setIs, z_tn, w_cst, w_var, w_glo, w_bin, w_neg, w_not, w_and, w_or, w_cmp, w_cmp2, w_ife, w_idx, w_slc, w_no, w_so, w_cno, w_cso, w_tup, w_lst, w_dnew, w_nil, w_cons, w_call, w_blt, w_isi, w_iown, w_iseq, w_rng1, w_rng2b, nxK, varE, assignG, own1, oOf, Ev.putK, viewI, O.d, List.getElem?_cons_zero, List.getElem?_cons_succ, List.set_cons_zero, List.set_cons_succ, Option.some.injEq, exists_eq_left', D.bl.injEq, D.int.injEq, EV.own.injEq, b_add, b_adds, b_addl, b_mull, b_muls, b_sub, b_mul, b_fdiv, b_mod, b_pow, at0, at1, at2, at3, c_lt, c_le, c_gt, c_ge, c_eqi, c_nei, c_eqs, c_nes, c_eqb, Option.map_some, len_lst, len_tup, len_scr, f_abs, f_max, f_min, f_intb, f_inti, f_str, f_list_l, f_list_t, seq_lst, seq_str, seq_scr, ck_no, ite_true, if_true, if_false, Bool.false_eq_true, reduceCtorEq, decide_eq_true_eq, decide_eq_false_iff_not, Bool.not_eq_true', Bool.not_eq_false', Bool.not_true, Bool.not_false, not_true_eq_false, not_false_eq_true, true_and, and_true, forall_const, false_implies, implies_true, lpK, w_rngDb, c_isN, c_isnotN, w_mth, z_mcall, mc_own, mc_ref, z_mcallTo, mt_own, z_setK, si_own, si_ref, mw_app, mw_ext, sw_dct, keyOk_int, keyOk_str, setAll, idx_lst, idx_tup, z_retO, ro_own, fz_own, fz_v, ov_lst, ov_dct, ov_non, ov_int, ov_bl, ov_str, ov_tup, w_callF, w_callO, w_lset, Ev.w_rev, w_fld, w_meth, w_mkI, w_setd, w_dcp, z_setX, z_setF]
    exact k es s ⟨h1, by rw [h2]; rfl⟩ h3 h6 h7
end FG
/-! FQ: queues.py: the class Queue -/
open PySem L2 Ev PySem.Spec PyProof.Rows FK FR
open FB (PS NL Fr rngL_len in62_of mul_small2 pow_ok2 noLs_strs noLs_of)
namespace FQ
def cd_Queue___init__ : CDef := ⟨1, 1, [], (.cons (.setF true "Queue" (.var 0) "kept_counts" (.dnew false)) (.cons (.setF true "Queue" (.var 0) "kept_waiting" (.lst .nil)) .nil))⟩
def cd_Queue_take_write : CDef := ⟨2, 2, [], (.cons (.setX (.fld (.var 0) "kept_counts") (.var 1) (.bin .add (.mth "get" (.fld (.var 0) "kept_counts") (.cons (.var 1) (.cons (.cst (.int 0)) .nil))) (.cst (.int 1)))) (.cons (.ite (.cmp .notin (.var 1) (.fld (.var 0) "kept_waiting")) (.cons (.ex (.mutX "append" (.fld (.var 0) "kept_waiting") (.cons (.var 1) .nil))) .nil) .nil) .nil))⟩
def cd_Queue_take_send : CDef := ⟨1, 1, [], (.cons (.ret (.meth ["Queue"] "present_write" (.var 0) (.cons (.mutX "pop" (.fld (.var 0) "kept_waiting") (.cons (.cst (.int 0)) .nil)) .nil))) .nil)⟩
def cd_Queue_present_write : CDef := ⟨2, 2, [], (.cons (.ret (.tup (.cons (.var 1) (.cons (.idx (.fld (.var 0) "kept_counts") (.var 1)) .nil)))) .nil)⟩
def cd_Queue_take : CDef := ⟨2, 2, [], (.cons (.ite (.cmp .eq (.idx (.var 1) (.cst (.int 0))) (.glo "SEND")) (.cons (.ret (.lst (.cons (.meth ["Queue"] "take_send" (.var 0) .nil) .nil))) .nil) .nil) (.cons (.ex (.meth ["Queue"] "take_write" (.var 0) (.cons (.idx (.var 1) (.cst (.int 1))) .nil))) (.cons (.ret (.lst .nil)) .nil)))⟩
class M_Queue (P : Prog) : Prop extends M_is_event P where
  d_init : assoc P.defs "Queue.__init__" = some cd_Queue___init__
  d_take_write : assoc P.defs "Queue.take_write" = some cd_Queue_take_write
  d_take_send : assoc P.defs "Queue.take_send" = some cd_Queue_take_send
  d_present_write : assoc P.defs "Queue.present_write" = some cd_Queue_present_write
  d_take : assoc P.defs "Queue.take" = some cd_Queue_take
def cd_first_fault : CDef := ⟨1, 4, [], (.cons (.ite (.not (.call "are_events" (.cons (.var 0) .nil))) (.cons .bad .nil) .nil) (.cons (.asg (.nm 1) (.mkI "Queue" .nil)) (.cons (.for_ (.tup [2, 3]) (.enum (.var 0)) (.cons (.ite (.and (.cmp .eq (.idx (.var 3) (.cst (.int 0))) (.glo "SEND")) (.cmp .eq (.fld (.var 1) "kept_waiting") (.lst .nil))) (.cons (.ret (.var 2)) .nil) .nil) (.cons (.ex (.meth ["Queue"] "take" (.var 1) (.cons (.var 3) .nil))) .nil))) (.cons (.ret (.cst .non)) .nil))))⟩
class M_first_fault (P : Prog) : Prop extends M_Queue P, M_are_events P where
  d_first_fault : assoc P.defs "first_fault" = some cd_first_fault
variable {P : Prog}
/-- a queue in the store: at l, its counts at a, its waiting keys at b -/
structure QS (st : Store) (l a b : Nat) (ws : List Str) (c : Str → Nat) (n : Nat) : Prop where
  ins : st[l]? = some (.ins "Queue" [("kept_counts", .ref a), ("kept_waiting", .ref b)])
  cnt : ∃ cl, st[a]? = some (.dct false cl) ∧ cl.length ≤ n ∧ noLk cl = true ∧ ∀ k, lookK cl (.str k) = if c k = 0 then none else some (.int (c k))
  wai : st[b]? = some (.lst (ws.map .str))
  la : l ≠ a
  lb : l ≠ b
  ab : a ≠ b
  len : ws.length ≤ n
  pos : ∀ k, k ∈ ws → c k ≠ 0
def QF (a b : Nat) (st st' : Store) : Prop := st'.length = st.length ∧ (∀ i, i ≠ a → i ≠ b → st'[i]? = st[i]?) ∧ (NL st → NL st')
theorem QF.refl (a b : Nat) (st : Store) : QF a b st st := ⟨rfl, fun _ _ _ => rfl, id⟩
theorem QF.trans {a b : Nat} {s t u : Store} (h : QF a b s t) (k : QF a b t u) : QF a b s u := ⟨k.1.trans h.1, fun i h1 h2 => (k.2.1 i h1 h2).trans (h.2.1 i h1 h2), fun z => k.2.2 (h.2.2 z)⟩
theorem noLk_put {l : List (D × D)} {k : Str} {i : Int} (h : noLk l = true) : noLk (putD l (.str k) (.int i)) = true := by
  have key : ∀ {l : List (D × D)}, noLk l = true ↔ ∀ p, p ∈ l → noL p.1 = true ∧ noL p.2 = true := fun {l} => by
    induction l with
    | nil => simp [noLk]
    | cons p r ih =>
      simp only [noLk, Bool.and_eq_true, ih, List.mem_cons]
      constructor
      · rintro ⟨h1, h2, h3⟩ q (rfl | hq)
        · exact ⟨h1, h2⟩
        · exact h3 q hq
      · intro h
        exact ⟨(h p (.inl rfl)).1, (h p (.inl rfl)).2, fun q hq => h q (.inr hq)⟩
  rw [key] at h ⊢
  unfold putD
  split
  · intro p hp
    obtain ⟨q, hq, rfl⟩ := List.mem_map.mp hp
    split
    · exact ⟨(h q hq).1, rfl⟩
    · exact h q hq
  · intro p hp
    rcases List.mem_append.mp hp with hp | hp
    · exact h p hp
    · rw [List.mem_singleton.mp hp]
      exact ⟨rfl, rfl⟩
theorem idx_dref {st : Store} {a : Nat} {cl : List (D × D)} {k : Str} (h : st[a]? = some (.dct false cl)) : idxop (.ref a) (.str k) st = lookK cl (.str k) := by
  show (match asR st (.ref a) with
    | some l => _
    | none => match asK st (.ref a) with
      | some (t, l) => if keyOk t (.str k) = true then lookK l (.str k) else none
      | none => none) = _
  have h1 : asR st (.ref a) = none := by
    show (match st[a]? with
      | some (.lst l) => some l
      | _ => none) = _
    rw [h]
  have h2 : asK st (.ref a) = some (false, cl) := by
    show (match st[a]? with
      | some (.dct t l) => some (t, l)
      | _ => none) = _
    rw [h]
  rw [h1, h2]
  rfl
theorem pres_eq [M_Queue P] {wf n m l a b : Nat} {ws : List Str} {c : Str → Nat} {k : Str} {st : Store} (h : QS st l a b ws c m) (hk : c k ≠ 0) : callF P wf (n + 1) "Queue.present_write" [.ref l, .str k] st = .ok (.tup [.str k, .int (c k)]) st := eq_of_all (by
  have hs : sizeLine = 16777216 := by rw [sizeLine_eq]
  obtain ⟨cl, h1, _, _, h2⟩ := h.cnt
  have i1 : idxop (.ref a) (.str k) st = some (.int (c k)) := by
    rw [idx_dref h1, h2, if_neg hk]
  refine call_all (cd := cd_Queue_present_write) (env := [.v (.ref l), .v (.str k)]) M_Queue.d_present_write rfl ?_
  simp only [s_nil, s_seq, s_frz, z_asg, z_asgO, z_asgR, z_par, z_pn, z_pc, z_aug, z_ex, z_ret, z_retN, z_retR, z_ite, z_brk, z_cont, z_pass, z_setIs, z_tn, w_cst, w_var, w_glo, w_bin, w_neg, w_not, w_and, w_or, w_cmp, w_cmp2, w_ife, w_idx, w_slc, w_no, w_so, w_cno, w_cso, w_tup, w_lst, w_dnew, w_nil, w_cons, w_call, w_blt, w_isi, w_iown, w_iseq, w_rng1, w_rng2b, nxK, varE, assignG, own1, oOf, Ev.putK, viewI, O.d, List.getElem?_cons_zero, List.getElem?_cons_succ, List.set_cons_zero, List.set_cons_succ, Option.some.injEq, exists_eq_left', D.bl.injEq, D.int.injEq, EV.own.injEq, b_add, b_adds, b_addl, b_mull, b_muls, b_sub, b_mul, b_fdiv, b_mod, b_pow, at0, at1, at2, at3, c_lt, c_le, c_gt, c_ge, c_eqi, c_nei, c_eqs, c_nes, c_eqb, Option.map_some, len_lst, len_tup, len_scr, f_abs, f_max, f_min, f_intb, f_inti, f_str, f_list_l, f_list_t, seq_lst, seq_str, seq_scr, ck_no, ite_true, if_true, if_false, Bool.false_eq_true, reduceCtorEq, decide_eq_true_eq, decide_eq_false_iff_not, Bool.not_eq_true', Bool.not_eq_false', Bool.not_true, Bool.not_false, not_true_eq_false, not_false_eq_true, true_and, and_true, forall_const, false_implies, implies_true, lpK, w_rngDb, c_isN, c_isnotN, w_mth, z_mcall, mc_own, mc_ref, z_mcallTo, mt_own, z_setK, si_own, si_ref, mw_app, mw_ext, sw_dct, keyOk_int, keyOk_str, setAll, idx_lst, idx_tup, z_retO, ro_own, fz_own, fz_v, ov_lst, ov_dct, ov_non, ov_int, ov_bl, ov_str, ov_tup, w_callF, w_callO, w_lset, Ev.w_rev, w_fld, w_meth, w_mkI, w_setd, w_dcp, z_setX, z_setF, cd_Queue_present_write, D.ref.injEq, h.ins, i1]
  exact ⟨_, _, rfl, .ref a, rfl, _, i1, by rw [hs]; exact (by decide : 2 ≤ 16777216), rfl⟩)
theorem nm_present : "Queue" ++ "." ++ "present_write" = "Queue.present_write" := by decide
theorem send_all [M_Queue P] {wf n m l a b : Nat} {k : Str} {ws : List Str} {c : Str → Nat} {st : Store} {Q : D → Store → Prop} (h : QS st l a b (k :: ws) c m) (hm : m ≤ 100000)
    (q : ∀ st', QS st' l a b ws c m → QF a b st st' → Q (.tup [.str k, .int (c k)]) st') : (callF P wf (n + 2) "Queue.take_send" [.ref l] st).all Q := by
  have hs : sizeLine = 16777216 := by rw [sizeLine_eq]
  have hlen := h.len
  simp only [List.length_cons] at hlen
  have hb := some_lt h.wai
  refine call_all (cd := cd_Queue_take_send) (env := [.v (.ref l)]) M_Queue.d_take_send rfl ?_
  have q2 : QS (st.set b (.lst (ws.map .str))) l a b ws c m := {
    ins := by rw [List.getElem?_set_ne (Ne.symm h.lb)]; exact h.ins
    cnt := by
      obtain ⟨cl, h1, h2⟩ := h.cnt
      exact ⟨cl, by rw [List.getElem?_set_ne (Ne.symm h.ab)]; exact h1, h2⟩
    wai := by rw [List.getElem?_set_self hb]
    la := h.la
    lb := h.lb
    ab := h.ab
    len := by omega
    pos := fun x hx => h.pos x (List.mem_cons_of_mem _ hx) }
  have qf : QF a b st (st.set b (.lst (ws.map .str))) := ⟨List.length_set .., fun i _ h2 => List.getElem?_set_ne (Ne.symm h2), fun hN => hN.set (o := .lst (ws.map .str)) (noLs_strs ws) b⟩
  have ep := pres_eq (P := P) (wf := wf) (n := n) (k := k) (ws := ws) (m := m) q2 (h.pos k List.mem_cons_self)
  simp only [s_nil, s_seq, s_frz, z_asg, z_asgO, z_asgR, z_par, z_pn, z_pc, z_aug, z_ex, z_ret, z_retN, z_retR, z_ite, z_brk, z_cont, z_pass, z_setIs, z_tn, w_cst, w_var, w_glo, w_bin, w_neg, w_not, w_and, w_or, w_cmp, w_cmp2, w_ife, w_idx, w_slc, w_no, w_so, w_cno, w_cso, w_tup, w_lst, w_dnew, w_nil, w_cons, w_call, w_blt, w_isi, w_iown, w_iseq, w_rng1, w_rng2b, nxK, varE, assignG, own1, oOf, Ev.putK, viewI, O.d, List.getElem?_cons_zero, List.getElem?_cons_succ, List.set_cons_zero, List.set_cons_succ, Option.some.injEq, exists_eq_left', D.bl.injEq, D.int.injEq, EV.own.injEq, b_add, b_adds, b_addl, b_mull, b_muls, b_sub, b_mul, b_fdiv, b_mod, b_pow, at0, at1, at2, at3, c_lt, c_le, c_gt, c_ge, c_eqi, c_nei, c_eqs, c_nes, c_eqb, Option.map_some, len_lst, len_tup, len_scr, f_abs, f_max, f_min, f_intb, f_inti, f_str, f_list_l, f_list_t, seq_lst, seq_str, seq_scr, ck_no, ite_true, if_true, if_false, Bool.false_eq_true, reduceCtorEq, decide_eq_true_eq, decide_eq_false_iff_not, Bool.not_eq_true', Bool.not_eq_false', Bool.not_true, Bool.not_false, not_true_eq_false, not_false_eq_true, true_and, and_true, forall_const, false_implies, implies_true, lpK, w_rngDb, c_isN, c_isnotN, w_mth, z_mcall, mc_own, mc_ref, z_mcallTo, mt_own, z_setK, si_own, si_ref, mw_app, mw_ext, sw_dct, keyOk_int, keyOk_str, setAll, idx_lst, idx_tup, z_retO, ro_own, fz_own, fz_v, ov_lst, ov_dct, ov_non, ov_int, ov_bl, ov_str, ov_tup, w_callF, w_callO, w_lset, Ev.w_rev, w_fld, w_meth, w_mkI, w_setd, w_dcp, z_setX, z_setF, cd_Queue_take_send, h.ins, D.ref.injEq]
  refine ⟨_, _, rfl, ⟨by decide, by simp [assoc]⟩, w_mutX ?_⟩
  simp only [s_nil, s_seq, s_frz, z_asg, z_asgO, z_asgR, z_par, z_pn, z_pc, z_aug, z_ex, z_ret, z_retN, z_retR, z_ite, z_brk, z_cont, z_pass, z_setIs, z_tn, w_cst, w_var, w_glo, w_bin, w_neg, w_not, w_and, w_or, w_cmp, w_cmp2, w_ife, w_idx, w_slc, w_no, w_so, w_cno, w_cso, w_tup, w_lst, w_dnew, w_nil, w_cons, w_call, w_blt, w_isi, w_iown, w_iseq, w_rng1, w_rng2b, nxK, varE, assignG, own1, oOf, Ev.putK, viewI, O.d, List.getElem?_cons_zero, List.getElem?_cons_succ, List.set_cons_zero, List.set_cons_succ, Option.some.injEq, exists_eq_left', D.bl.injEq, D.int.injEq, EV.own.injEq, b_add, b_adds, b_addl, b_mull, b_muls, b_sub, b_mul, b_fdiv, b_mod, b_pow, at0, at1, at2, at3, c_lt, c_le, c_gt, c_ge, c_eqi, c_nei, c_eqs, c_nes, c_eqb, Option.map_some, len_lst, len_tup, len_scr, f_abs, f_max, f_min, f_intb, f_inti, f_str, f_list_l, f_list_t, seq_lst, seq_str, seq_scr, ck_no, ite_true, if_true, if_false, Bool.false_eq_true, reduceCtorEq, decide_eq_true_eq, decide_eq_false_iff_not, Bool.not_eq_true', Bool.not_eq_false', Bool.not_true, Bool.not_false, not_true_eq_false, not_false_eq_true, true_and, and_true, forall_const, false_implies, implies_true, lpK, w_rngDb, c_isN, c_isnotN, w_mth, z_mcall, mc_own, mc_ref, z_mcallTo, mt_own, z_setK, si_own, si_ref, mw_app, mw_ext, sw_dct, keyOk_int, keyOk_str, setAll, idx_lst, idx_tup, z_retO, ro_own, fz_own, fz_v, ov_lst, ov_dct, ov_non, ov_int, ov_bl, ov_str, ov_tup, w_callF, w_callO, w_lset, Ev.w_rev, w_fld, w_meth, w_mkI, w_setd, w_dcp, z_setX, z_setF, h.ins, D.ref.injEq]
  refine ⟨_, _, rfl, .ref b, rfl, b, rfl, ⟨_, h.wai⟩, _, h.wai, _, pop0 (x := .str k) (r := ws.map .str) (by simp only [List.length_cons, List.length_map]; omega), ?_⟩
  rw [nm_present, all_of_eq ep]
  exact q _ q2 qf
/-- one more write of a key -/
def inc (c : Str → Nat) (k : Str) : Str → Nat := fun x => if x = k then c x + 1 else c x
theorem write_all [M_Queue P] {wf n m l a b : Nat} {k : Str} {ws : List Str} {c : Str → Nat} {st : Store} {Q : D → Store → Prop} (h : QS st l a b ws c m) (hm : m ≤ 100000)
    (q : ∀ st', QS st' l a b (if k ∈ ws then ws else ws ++ [k]) (inc c k) (m + 1) → QF a b st st' → Q .non st') : (callF P wf (n + 1) "Queue.take_write" [.ref l, .str k] st).all Q := by
  have hs : sizeLine = 16777216 := by rw [sizeLine_eq]
  have hlen := h.len
  have hb := some_lt h.wai
  obtain ⟨cl, c1, c2, c3, c4⟩ := h.cnt
  have ha := some_lt c1
  refine call_all (cd := cd_Queue_take_write) (env := [.v (.ref l), .v (.str k)]) M_Queue.d_take_write rfl ?_
  simp only [s_nil, s_seq, s_frz, z_asg, z_asgO, z_asgR, z_par, z_pn, z_pc, z_aug, z_ex, z_ret, z_retN, z_retR, z_ite, z_brk, z_cont, z_pass, z_setIs, z_tn, w_cst, w_var, w_glo, w_bin, w_neg, w_not, w_and, w_or, w_cmp, w_cmp2, w_ife, w_idx, w_slc, w_no, w_so, w_cno, w_cso, w_tup, w_lst, w_dnew, w_nil, w_cons, w_call, w_blt, w_isi, w_iown, w_iseq, w_rng1, w_rng2b, nxK, varE, assignG, own1, oOf, Ev.putK, viewI, O.d, List.getElem?_cons_zero, List.getElem?_cons_succ, List.set_cons_zero, List.set_cons_succ, Option.some.injEq, exists_eq_left', D.bl.injEq, D.int.injEq, EV.own.injEq, b_add, b_adds, b_addl, b_mull, b_muls, b_sub, b_mul, b_fdiv, b_mod, b_pow, at0, at1, at2, at3, c_lt, c_le, c_gt, c_ge, c_eqi, c_nei, c_eqs, c_nes, c_eqb, Option.map_some, len_lst, len_tup, len_scr, f_abs, f_max, f_min, f_intb, f_inti, f_str, f_list_l, f_list_t, seq_lst, seq_str, seq_scr, ck_no, ite_true, if_true, if_false, Bool.false_eq_true, reduceCtorEq, decide_eq_true_eq, decide_eq_false_iff_not, Bool.not_eq_true', Bool.not_eq_false', Bool.not_true, Bool.not_false, not_true_eq_false, not_false_eq_true, true_and, and_true, forall_const, false_implies, implies_true, lpK, w_rngDb, c_isN, c_isnotN, w_mth, z_mcall, mc_own, mc_ref, z_mcallTo, mt_own, z_setK, si_own, si_ref, mw_app, mw_ext, sw_dct, keyOk_int, keyOk_str, setAll, idx_lst, idx_tup, z_retO, ro_own, fz_own, fz_v, ov_lst, ov_dct, ov_non, ov_int, ov_bl, ov_str, ov_tup, w_callF, w_callO, w_lset, Ev.w_rev, w_fld, w_meth, w_mkI, w_setd, w_dcp, z_setX, z_setF, cd_Queue_take_write, h.ins, D.ref.injEq]
  have ak : asK st (.ref a) = some (false, cl) := by
    show (match st[a]? with
      | some (.dct t l) => some (t, l)
      | _ => none) = _
    rw [c1]
  have mp : mthP "get" (.ref a) st = true := by
    show (asK st (.ref a)).isSome = true
    rw [ak]
    rfl
  have mr : mthR "get" (.ref a) [.str k, .int 0] st = some (.int (c k)) := by
    show (match asK st (.ref a) with
      | some (t, l) => if keyOk t (.str k) = true then some ((lookK l (.str k)).getD (.int 0)) else none
      | none => none) = _
    rw [ak]
    show some ((lookK cl (.str k)).getD (.int 0)) = _
    rw [c4]
    by_cases hk : c k = 0
    · rw [if_pos hk, hk]
      rfl
    · rw [if_neg hk]
      rfl
  refine ⟨_, _, rfl, .ref a, rfl, mp, _, mr, ?_⟩
  rw [b_add]
  refine ⟨_, _, h.ins, .ref a, rfl, a, rfl, _, c1, _, setW_dct (by omega), ?_⟩
  obtain ⟨s1, hs1⟩ : ∃ s1, s1 = st.set a (.dct false (putD cl (.str k) (.int ((c k : Int) + 1)))) := ⟨_, rfl⟩
  rw [← hs1]
  have a1 : s1[a]? = some (.dct false (putD cl (.str k) (.int ((c k : Int) + 1)))) := by rw [hs1, List.getElem?_set_self ha]
  have l1 : s1[l]? = some (.ins "Queue" [("kept_counts", .ref a), ("kept_waiting", .ref b)]) := by rw [hs1, List.getElem?_set_ne (Ne.symm h.la)]; exact h.ins
  have b1 : s1[b]? = some (.lst (ws.map .str)) := by rw [hs1, List.getElem?_set_ne h.ab]; exact h.wai
  have in1 : inD s1 (.str k) (.ref b) = some (decide (k ∈ ws)) := by
    have : asR s1 (.ref b) = some (ws.map .str) := by
      show (match s1[b]? with
        | some (.lst l) => some l
        | _ => none) = _
      rw [b1]
    have ak2 : asK s1 (.ref b) = none := by
      show (match s1[b]? with
        | some (.dct t l) => some (t, l)
        | _ => none) = _
      rw [b1]
    have e0 : inD s1 (.str k) (.ref b) = inS s1 (.str k) (.ref b) := by
      unfold inD
      rw [ak2]
    rw [e0]
    show (match asR s1 (.ref b) with
      | some l => if flatD (.str k) = true ∧ l.all flatD = true then some (inF (.str k) l) else none
      | none => none) = _
    rw [this]
    exact in_strs (st := s1)
  have cnt1 : ∃ cl', (putD cl (.str k) (.int ((c k : Int) + 1))) = cl' ∧ cl'.length ≤ m + 1 ∧ noLk cl' = true ∧ ∀ x, lookK cl' (.str x) = if inc c k x = 0 then none else some (.int (inc c k x)) := by
    refine ⟨_, rfl, Nat.le_trans putD_len (by omega), noLk_put c3, fun x => ?_⟩
    rw [look_put, c4]
    unfold inc
    by_cases hx : x = k
    · subst hx
      rw [if_pos rfl, if_pos rfl, if_neg (by omega)]
      rfl
    · have hx2 : ¬ (D.str x = D.str k) := fun z => hx (D.str.inj z)
      rw [if_neg hx2, if_neg hx]
  obtain ⟨cl', hcl, d1, d2, d3⟩ := cnt1
  rw [hcl] at a1 hs1
  have N1 : NL st → NL s1 := fun hN => by
    rw [hs1]
    exact hN.set (o := .dct false cl') d2 a
  have p1 : ∀ x, x ∈ (if k ∈ ws then ws else ws ++ [k]) → inc c k x ≠ 0 := fun x hx => by
    unfold inc
    by_cases hxk : x = k
    · rw [if_pos hxk]
      omega
    · rw [if_neg hxk]
      split at hx
      · exact h.pos x hx
      · rcases List.mem_append.mp hx with hx | hx
        · exact h.pos x hx
        · exact absurd (List.mem_singleton.mp hx) hxk
  refine ⟨_, _, l1, .ref b, rfl, _, c_notin in1, fun hm2 => ?_, fun hm2 => ?_⟩
  · have hk : k ∉ ws := by simpa using hm2
    have e1 : (if k ∈ ws then ws else ws ++ [k]) = ws ++ [k] := if_neg hk
    have hb1 := some_lt b1
    refine w_mutX ?_
    simp only [s_nil, s_seq, s_frz, z_asg, z_asgO, z_asgR, z_par, z_pn, z_pc, z_aug, z_ex, z_ret, z_retN, z_retR, z_ite, z_brk, z_cont, z_pass, z_setIs, z_tn, w_cst, w_var, w_glo, w_bin, w_neg, w_not, w_and, w_or, w_cmp, w_cmp2, w_ife, w_idx, w_slc, w_no, w_so, w_cno, w_cso, w_tup, w_lst, w_dnew, w_nil, w_cons, w_call, w_blt, w_isi, w_iown, w_iseq, w_rng1, w_rng2b, nxK, varE, assignG, own1, oOf, Ev.putK, viewI, O.d, List.getElem?_cons_zero, List.getElem?_cons_succ, List.set_cons_zero, List.set_cons_succ, Option.some.injEq, exists_eq_left', D.bl.injEq, D.int.injEq, EV.own.injEq, b_add, b_adds, b_addl, b_mull, b_muls, b_sub, b_mul, b_fdiv, b_mod, b_pow, at0, at1, at2, at3, c_lt, c_le, c_gt, c_ge, c_eqi, c_nei, c_eqs, c_nes, c_eqb, Option.map_some, len_lst, len_tup, len_scr, f_abs, f_max, f_min, f_intb, f_inti, f_str, f_list_l, f_list_t, seq_lst, seq_str, seq_scr, ck_no, ite_true, if_true, if_false, Bool.false_eq_true, reduceCtorEq, decide_eq_true_eq, decide_eq_false_iff_not, Bool.not_eq_true', Bool.not_eq_false', Bool.not_true, Bool.not_false, not_true_eq_false, not_false_eq_true, true_and, and_true, forall_const, false_implies, implies_true, lpK, w_rngDb, c_isN, c_isnotN, w_mth, z_mcall, mc_own, mc_ref, z_mcallTo, mt_own, z_setK, si_own, si_ref, mw_app, mw_ext, sw_dct, keyOk_int, keyOk_str, setAll, idx_lst, idx_tup, z_retO, ro_own, fz_own, fz_v, ov_lst, ov_dct, ov_non, ov_int, ov_bl, ov_str, ov_tup, w_callF, w_callO, w_lset, Ev.w_rev, w_fld, w_meth, w_mkI, w_setd, w_dcp, z_setX, z_setF, l1, D.ref.injEq]
    refine ⟨_, _, rfl, .ref b, rfl, b, rfl, ⟨_, b1⟩, _, b1, by rw [List.length_map, hs]; omega, ?_⟩
    have e2 : ws.map D.str ++ [D.str k] = (ws ++ [k]).map D.str := by rw [List.map_append]; rfl
    rw [e2]
    rw [e1] at q p1
    refine q _ {
      ins := by rw [List.getElem?_set_ne (Ne.symm h.lb)]; exact l1
      cnt := ⟨cl', by rw [List.getElem?_set_ne (Ne.symm h.ab)]; exact a1, d1, d2, d3⟩
      wai := by rw [List.getElem?_set_self hb1]
      la := h.la
      lb := h.lb
      ab := h.ab
      len := by simp only [List.length_append, List.length_cons, List.length_nil]; omega
      pos := p1 } ⟨by rw [List.length_set, hs1, List.length_set], fun i z1 z2 => by rw [List.getElem?_set_ne (Ne.symm z2), hs1, List.getElem?_set_ne (Ne.symm z1)], fun hN => (N1 hN).set (o := .lst ((ws ++ [k]).map .str)) (noLs_strs _) b⟩
  · have hk : k ∈ ws := by simpa using hm2
    have e1 : (if k ∈ ws then ws else ws ++ [k]) = ws := if_pos hk
    rw [e1] at q p1
    exact q _ { ins := l1, cnt := ⟨cl', a1, d1, d2, d3⟩, wai := b1, la := h.la, lb := h.lb, ab := h.ab, len := by omega, pos := p1 } ⟨by rw [hs1, List.length_set], fun i z1 z2 => by rw [hs1, List.getElem?_set_ne (Ne.symm z1)], N1⟩
theorem nm_send : "Queue" ++ "." ++ "take_send" = "Queue.take_send" := by decide
theorem nm_write : "Queue" ++ "." ++ "take_write" = "Queue.take_write" := by decide
theorem nm_take : "Queue" ++ "." ++ "take" = "Queue.take" := by decide
theorem nm_init : "Queue" ++ ".__init__" = "Queue.__init__" := by decide
theorem takeS_all [M_Queue P] {wf n m l a b : Nat} {k : Str} {ws : List Str} {c : Str → Nat} {st : Store} {Q : D → Store → Prop} (h : QS st l a b (k :: ws) c m) (hm : m ≤ 100000)
    (q : ∀ st', QS st' l a b ws c m → QF a b st st' → Q (.lst [.tup [.str k, .int (c k)]]) st') : (callF P wf (n + 3) "Queue.take" [.ref l, E.send.d] st).all Q := by
  have hs : sizeLine = 16777216 := by rw [sizeLine_eq]
  refine call_all (cd := cd_Queue_take) (env := [.v (.ref l), .v E.send.d]) M_Queue.d_take rfl ?_
  have i0 : ∀ s, idxop E.send.d (.int 0) s = some (.str "send") := fun s => at0
  simp only [s_nil, s_seq, s_frz, z_asg, z_asgO, z_asgR, z_par, z_pn, z_pc, z_aug, z_ex, z_ret, z_retN, z_retR, z_ite, z_brk, z_cont, z_pass, z_setIs, z_tn, w_cst, w_var, w_glo, w_bin, w_neg, w_not, w_and, w_or, w_cmp, w_cmp2, w_ife, w_idx, w_slc, w_no, w_so, w_cno, w_cso, w_tup, w_lst, w_dnew, w_nil, w_cons, w_call, w_blt, w_isi, w_iown, w_iseq, w_rng1, w_rng2b, nxK, varE, assignG, own1, oOf, Ev.putK, viewI, O.d, List.getElem?_cons_zero, List.getElem?_cons_succ, List.set_cons_zero, List.set_cons_succ, Option.some.injEq, exists_eq_left', D.bl.injEq, D.int.injEq, EV.own.injEq, b_add, b_adds, b_addl, b_mull, b_muls, b_sub, b_mul, b_fdiv, b_mod, b_pow, at0, at1, at2, at3, c_lt, c_le, c_gt, c_ge, c_eqi, c_nei, c_eqs, c_nes, c_eqb, Option.map_some, len_lst, len_tup, len_scr, f_abs, f_max, f_min, f_intb, f_inti, f_str, f_list_l, f_list_t, seq_lst, seq_str, seq_scr, ck_no, ite_true, if_true, if_false, Bool.false_eq_true, reduceCtorEq, decide_eq_true_eq, decide_eq_false_iff_not, Bool.not_eq_true', Bool.not_eq_false', Bool.not_true, Bool.not_false, not_true_eq_false, not_false_eq_true, true_and, and_true, forall_const, false_implies, implies_true, lpK, w_rngDb, c_isN, c_isnotN, w_mth, z_mcall, mc_own, mc_ref, z_mcallTo, mt_own, z_setK, si_own, si_ref, mw_app, mw_ext, sw_dct, keyOk_int, keyOk_str, setAll, idx_lst, idx_tup, z_retO, ro_own, fz_own, fz_v, ov_lst, ov_dct, ov_non, ov_int, ov_bl, ov_str, ov_tup, w_callF, w_callO, w_lset, Ev.w_rev, w_fld, w_meth, w_mkI, w_setd, w_dcp, z_setX, z_setF, cd_Queue_take, i0, M_is_event.g_SEND (P := P), h.ins, D.ref.injEq]
  refine ⟨_, _, rfl, ⟨by decide, by simp [assoc]⟩, ?_⟩
  rw [nm_send]
  refine send_all (n := n) h hm fun s1 h1 hf => ⟨by rw [hs]; exact (by decide : 1 ≤ 16777216), q s1 h1 hf⟩
theorem takeW_all [M_Queue P] {wf n m l a b : Nat} {k : Str} {ws : List Str} {c : Str → Nat} {st : Store} {Q : D → Store → Prop} (h : QS st l a b ws c m) (hm : m ≤ 100000)
    (q : ∀ st', QS st' l a b (if k ∈ ws then ws else ws ++ [k]) (inc c k) (m + 1) → QF a b st st' → Q (.lst []) st') : (callF P wf (n + 3) "Queue.take" [.ref l, (E.wr k).d] st).all Q := by
  have hs : sizeLine = 16777216 := by rw [sizeLine_eq]
  refine call_all (cd := cd_Queue_take) (env := [.v (.ref l), .v (E.wr k).d]) M_Queue.d_take rfl ?_
  have i0 : ∀ s, idxop (E.wr k).d (.int 0) s = some (.str "write") := fun s => at0
  have i1 : ∀ s, idxop (E.wr k).d (.int 1) s = some (.str k) := fun s => at1
  simp only [s_nil, s_seq, s_frz, z_asg, z_asgO, z_asgR, z_par, z_pn, z_pc, z_aug, z_ex, z_ret, z_retN, z_retR, z_ite, z_brk, z_cont, z_pass, z_setIs, z_tn, w_cst, w_var, w_glo, w_bin, w_neg, w_not, w_and, w_or, w_cmp, w_cmp2, w_ife, w_idx, w_slc, w_no, w_so, w_cno, w_cso, w_tup, w_lst, w_dnew, w_nil, w_cons, w_call, w_blt, w_isi, w_iown, w_iseq, w_rng1, w_rng2b, nxK, varE, assignG, own1, oOf, Ev.putK, viewI, O.d, List.getElem?_cons_zero, List.getElem?_cons_succ, List.set_cons_zero, List.set_cons_succ, Option.some.injEq, exists_eq_left', D.bl.injEq, D.int.injEq, EV.own.injEq, b_add, b_adds, b_addl, b_mull, b_muls, b_sub, b_mul, b_fdiv, b_mod, b_pow, at0, at1, at2, at3, c_lt, c_le, c_gt, c_ge, c_eqi, c_nei, c_eqs, c_nes, c_eqb, Option.map_some, len_lst, len_tup, len_scr, f_abs, f_max, f_min, f_intb, f_inti, f_str, f_list_l, f_list_t, seq_lst, seq_str, seq_scr, ck_no, ite_true, if_true, if_false, Bool.false_eq_true, reduceCtorEq, decide_eq_true_eq, decide_eq_false_iff_not, Bool.not_eq_true', Bool.not_eq_false', Bool.not_true, Bool.not_false, not_true_eq_false, not_false_eq_true, true_and, and_true, forall_const, false_implies, implies_true, lpK, w_rngDb, c_isN, c_isnotN, w_mth, z_mcall, mc_own, mc_ref, z_mcallTo, mt_own, z_setK, si_own, si_ref, mw_app, mw_ext, sw_dct, keyOk_int, keyOk_str, setAll, idx_lst, idx_tup, z_retO, ro_own, fz_own, fz_v, ov_lst, ov_dct, ov_non, ov_int, ov_bl, ov_str, ov_tup, w_callF, w_callO, w_lset, Ev.w_rev, w_fld, w_meth, w_mkI, w_setd, w_dcp, z_setX, z_setF, cd_Queue_take, i0, i1, M_is_event.g_SEND (P := P), h.ins, D.ref.injEq]
  refine ⟨fun h => absurd h (by decide +kernel), fun _ => ⟨_, _, rfl, ⟨by decide, by simp [assoc]⟩, ?_⟩⟩
  rw [nm_write]
  refine write_all (n := n + 1) h hm fun s1 h1 hf => ⟨by rw [hs]; decide, q s1 h1 hf⟩
theorem new_all [M_Queue P] {wf n : Nat} {st : Store} {Q : D → Store → Prop}
    (k : ∀ st', QS st' st.length (st.length + 1) (st.length + 2) [] (fun _ => 0) 0 → st'.length = st.length + 3 → (∀ i, i < st.length → st'[i]? = st[i]?) → (NL st → NL st') → Q .non st') : (callF P wf (n + 1) "Queue.__init__" [.ref st.length] (st ++ [.ins "Queue" []])).all Q := by
  refine call_all (cd := cd_Queue___init__) (env := [.v (.ref st.length)]) M_Queue.d_init rfl ?_
  have sd : ∀ (s : Store), stoV true (.dct false []) s = (.ref s.length, s ++ [.dct false []]) := fun _ => rfl
  have sl : ∀ (s : Store), stoV true (.lst []) s = (.ref s.length, s ++ [.lst []]) := fun _ => rfl
  simp only [s_nil, s_seq, s_frz, z_asg, z_asgO, z_asgR, z_par, z_pn, z_pc, z_aug, z_ex, z_ret, z_retN, z_retR, z_ite, z_brk, z_cont, z_pass, z_setIs, z_tn, w_cst, w_var, w_glo, w_bin, w_neg, w_not, w_and, w_or, w_cmp, w_cmp2, w_ife, w_idx, w_slc, w_no, w_so, w_cno, w_cso, w_tup, w_lst, w_dnew, w_nil, w_cons, w_call, w_blt, w_isi, w_iown, w_iseq, w_rng1, w_rng2b, nxK, varE, assignG, own1, oOf, Ev.putK, viewI, O.d, List.getElem?_cons_zero, List.getElem?_cons_succ, List.set_cons_zero, List.set_cons_succ, Option.some.injEq, exists_eq_left', D.bl.injEq, D.int.injEq, EV.own.injEq, b_add, b_adds, b_addl, b_mull, b_muls, b_sub, b_mul, b_fdiv, b_mod, b_pow, at0, at1, at2, at3, c_lt, c_le, c_gt, c_ge, c_eqi, c_nei, c_eqs, c_nes, c_eqb, Option.map_some, len_lst, len_tup, len_scr, f_abs, f_max, f_min, f_intb, f_inti, f_str, f_list_l, f_list_t, seq_lst, seq_str, seq_scr, ck_no, ite_true, if_true, if_false, Bool.false_eq_true, reduceCtorEq, decide_eq_true_eq, decide_eq_false_iff_not, Bool.not_eq_true', Bool.not_eq_false', Bool.not_true, Bool.not_false, not_true_eq_false, not_false_eq_true, true_and, and_true, forall_const, false_implies, implies_true, lpK, w_rngDb, c_isN, c_isnotN, w_mth, z_mcall, mc_own, mc_ref, z_mcallTo, mt_own, z_setK, si_own, si_ref, mw_app, mw_ext, sw_dct, keyOk_int, keyOk_str, setAll, idx_lst, idx_tup, z_retO, ro_own, fz_own, fz_v, ov_lst, ov_dct, ov_non, ov_int, ov_bl, ov_str, ov_tup, w_callF, w_callO, w_lset, Ev.w_rev, w_fld, w_meth, w_mkI, w_setd, w_dcp, z_setX, z_setF, cd_Queue___init__, sd, sl, D.ref.injEq]
  have hs : sizeLine = 16777216 := by rw [sizeLine_eq]
  have g1 : (st ++ [O.ins "Queue" []] ++ [O.dct false []])[st.length]? = some (.ins "Queue" []) := by
    rw [List.append_assoc, List.getElem?_append_right (Nat.le_refl _), Nat.sub_self]
    rfl
  refine ⟨_, _, g1, ⟨rfl, by decide⟩, by rw [hs]; decide, ?_⟩
  have e1 : putA [] "kept_counts" (D.ref (st ++ [O.ins "Queue" []]).length) = [("kept_counts", .ref (st.length + 1))] := by
    rw [List.length_append]
    rfl
  rw [e1]
  obtain ⟨s2, hs2⟩ : ∃ s2, s2 = List.set (st ++ [O.ins "Queue" []] ++ [O.dct false []]) st.length (.ins "Queue" [("kept_counts", .ref (st.length + 1))]) := ⟨_, rfl⟩
  rw [← hs2]
  have n2 : s2.length = st.length + 2 := by rw [hs2, List.length_set, List.length_append, List.length_append]; rfl
  have a2 : s2[st.length]? = some (.ins "Queue" [("kept_counts", .ref (st.length + 1))]) := by rw [hs2, List.getElem?_set_self (some_lt g1)]
  have b2 : s2[st.length + 1]? = some (.dct false []) := by
    rw [hs2, List.getElem?_set_ne (by omega), List.getElem?_append_right (by simp)]
    simp
  have c2 : ∀ i, i < st.length → s2[i]? = st[i]? := fun i hi => by
    rw [hs2, List.getElem?_set_ne (by omega), List.append_assoc, List.getElem?_append_left hi]
  have N2 : NL st → NL s2 := fun hN => by
    rw [hs2]
    exact ((hN.push (o := .ins "Queue" []) rfl).push (o := .dct false []) rfl).set (o := .ins "Queue" [("kept_counts", .ref (st.length + 1))]) rfl _
  have g2 : (s2 ++ [O.lst []])[st.length]? = some (.ins "Queue" [("kept_counts", .ref (st.length + 1))]) := by
    rw [List.getElem?_append_left (by omega)]
    exact a2
  refine ⟨_, _, g2, ⟨rfl, by show 1 < 900; decide⟩, ?_⟩
  have e2 : putA [("kept_counts", D.ref (st.length + 1))] "kept_waiting" (D.ref s2.length) = [("kept_counts", .ref (st.length + 1)), ("kept_waiting", .ref (st.length + 2))] := by
    rw [n2]
    simp [putA]
  rw [e2]
  refine k _ {
    ins := by rw [List.getElem?_set_self (some_lt g2)]
    cnt := ⟨[], by rw [List.getElem?_set_ne (by omega), List.getElem?_append_left (by omega)]; exact b2, Nat.zero_le _, rfl, fun _ => rfl⟩
    wai := by
      rw [List.getElem?_set_ne (by omega), List.getElem?_append_right (by omega), n2, Nat.sub_self]
      rfl
    la := by omega
    lb := by omega
    ab := by omega
    len := Nat.zero_le _
    pos := fun _ h => by simp at h } (by rw [List.length_set, List.length_append, n2]; rfl) (fun i hi => by rw [List.getElem?_set_ne (by omega), List.getElem?_append_left (by omega)]; exact c2 i hi) fun hN => ((N2 hN).push (o := .lst []) rfl).set (o := .ins "Queue" [("kept_counts", .ref (st.length + 1)), ("kept_waiting", .ref (st.length + 2))]) rfl _
/-! ### the first fault -/
def flt : List Str → Nat → List E → Option Nat
  | _, _, [] => none
  | ws, i, .send :: r => match ws with
    | [] => some i
    | _ :: ws => flt ws (i + 1) r
  | ws, i, .wr k :: r => flt (if k ∈ ws then ws else ws ++ [k]) (i + 1) r
theorem eq_ref0 {st : Store} {b : Nat} {l : List D} (h : st[b]? = some (.lst l)) : eqD st (.ref b) (.lst []) = some l.isEmpty := by
  have e : eqD st (.ref b) (.lst []) = (match dr1 st b, some (PyData.list []) with
    | some p, some q => if SeqAt.shaped p = true ∧ SeqAt.shaped q = true then some (PyData.eqv p q) else eqL st (.ref b) (.lst [])
    | _, _ => eqL st (.ref b) (.lst [])) := rfl
  have hl : asL st (.ref b) = some l := by
    show (match st[b]? with
      | some (.lst l) => some l
      | _ => none) = _
    rw [h]
  have e2 : eqL st (.ref b) (.lst []) = some l.isEmpty := by
    show (match asL st (.ref b), asL st (.lst []) with
      | some l, some m => if l.length = m.length then (if l.length = 0 then some true else none) else some false
      | _, _ => none) = _
    rw [hl]
    cases l with
    | nil => rfl
    | cons x r => rfl
  have e3 : dr1 st b = (toPs no0 l).map .list := by
    unfold dr1
    rw [h]
  rw [e, e3]
  cases h : toPs no0 l with
  | none => exact e2
  | some ps =>
    show (if _ then _ else _) = _
    rw [e2]
    have := toPs_emp h
    rw [← this]
    split
    · cases ps with
      | nil => simp [PyData.eqv, PyData.eqvAll]
      | cons x r => simp [PyData.eqv, PyData.eqvAll]
    · rfl
theorem fault_all [M_first_fault P] {wf n : Nat} {es : List E} {st : Store} {Q : D → Store → Prop} (he : ∀ e, e ∈ es → e.ok = true) (hz : es.length ≤ 10000)
    (q : ∀ st', st.length ≤ st'.length → (∀ i, i < st.length → st'[i]? = st[i]?) → (NL st → NL st') → Q (optD (flt [] 0 es)) st') : (callF P wf (n + 4) "first_fault" [.lst (es.map E.d)] st).all Q := by
  have hs : sizeLine = 16777216 := by rw [sizeLine_eq]
  refine call_all (cd := cd_first_fault) (env := [.v (.lst (es.map E.d)), .un, .un, .un]) M_first_fault.d_first_fault rfl ?_
  simp only [s_nil, s_seq, s_frz, z_asg, z_asgO, z_asgR, z_par, z_pn, z_pc, z_aug, z_ex, z_ret, z_retN, z_retR, z_ite, z_brk, z_cont, z_pass, z_setIs, z_tn, w_cst, w_var, w_glo, w_bin, w_neg, w_not, w_and, w_or, w_cmp, w_cmp2, w_ife, w_idx, w_slc, w_no, w_so, w_cno, w_cso, w_tup, w_lst, w_dnew, w_nil, w_cons, w_call, w_blt, w_isi, w_iown, w_iseq, w_rng1, w_rng2b, nxK, varE, assignG, own1, oOf, Ev.putK, viewI, O.d, List.getElem?_cons_zero, List.getElem?_cons_succ, List.set_cons_zero, List.set_cons_succ, Option.some.injEq, exists_eq_left', D.bl.injEq, D.int.injEq, EV.own.injEq, b_add, b_adds, b_addl, b_mull, b_muls, b_sub, b_mul, b_fdiv, b_mod, b_pow, at0, at1, at2, at3, c_lt, c_le, c_gt, c_ge, c_eqi, c_nei, c_eqs, c_nes, c_eqb, Option.map_some, len_lst, len_tup, len_scr, f_abs, f_max, f_min, f_intb, f_inti, f_str, f_list_l, f_list_t, seq_lst, seq_str, seq_scr, ck_no, ite_true, if_true, if_false, Bool.false_eq_true, reduceCtorEq, decide_eq_true_eq, decide_eq_false_iff_not, Bool.not_eq_true', Bool.not_eq_false', Bool.not_true, Bool.not_false, not_true_eq_false, not_false_eq_true, true_and, and_true, forall_const, false_implies, implies_true, lpK, w_rngDb, c_isN, c_isnotN, w_mth, z_mcall, mc_own, mc_ref, z_mcallTo, mt_own, z_setK, si_own, si_ref, mw_app, mw_ext, sw_dct, keyOk_int, keyOk_str, setAll, idx_lst, idx_tup, z_retO, ro_own, fz_own, fz_v, ov_lst, ov_dct, ov_non, ov_int, ov_bl, ov_str, ov_tup, w_callF, w_callO, w_lset, Ev.w_rev, w_fld, w_meth, w_mkI, w_setd, w_dcp, z_setX, z_setF, cd_first_fault]
  refine events_all (n := n) he (by omega) (x := .lst (es.map E.d)) (ck := .no) rfl rfl rfl ⟨true, rfl, fun h => (by cases h), fun _ => ?_⟩
  rw [nm_init]
  refine new_all (n := n + 2) fun s1 h1 hl1 hf1 hN1 => ⟨rfl, ?_⟩
  rw [z_for]
  have hen : (evI (callF P wf (n + 3)) (assoc P.glob) (.enum (.var 0)) [.v (.lst (es.map E.d)), .v (.ref st.length), .un, .un] s1) = .ok (enumL 0 (es.map E.d), .no) s1 := rfl
  rw [hen, all_ok]
  refine ⟨rfl, for_enum (fun j e s => ∃ (ws : List Str) (c : Str → Nat) (u2 u3 : EV), e = [.v (.lst (es.map E.d)), .v (.ref st.length), u2, u3] ∧ QS s st.length (st.length + 1) (st.length + 2) ws c j ∧ flt [] 0 es = flt ws j (es.drop j) ∧ s.length = st.length + 3 ∧ (∀ i, i < st.length → s[i]? = st[i]?) ∧ (NL st → NL s)) ⟨[], _, _, _, rfl, h1, rfl, hl1, hf1, hN1⟩ (fun _ _ _ _ _ => rfl) ?_ ?_⟩
  · rintro j e env s hj ⟨ws, c, u2, u3, rfl, h2, h3, h4, h5, h6⟩
    refine ⟨_, rfl, ?_⟩
    have hjl := some_lt hj
    have hdr : es.drop j = e :: es.drop (j + 1) := by
      rw [List.drop_eq_getElem_cons hjl]
      rw [List.getElem?_eq_getElem hjl] at hj
      cases hj
      rfl
    rw [hdr] at h3
    have fin : ∀ {ws' : List Str} {c' : Str → Nat} {m' : Nat} {s' : Store} (u2 u3 : EV), QS s' st.length (st.length + 1) (st.length + 2) ws' c' m' → m' ≤ j + 1 → QF (st.length + 1) (st.length + 2) s s' → flt [] 0 es = flt ws' (j + 1) (es.drop (j + 1)) → ∃ (ws : List Str) (c : Str → Nat) (v2 v3 : EV), [EV.v (.lst (es.map E.d)), .v (.ref st.length), u2, u3] = [.v (.lst (es.map E.d)), .v (.ref st.length), v2, v3] ∧ QS s' st.length (st.length + 1) (st.length + 2) ws c (j + 1) ∧ flt [] 0 es = flt ws (j + 1) (es.drop (j + 1)) ∧ s'.length = st.length + 3 ∧ (∀ i, i < st.length → s'[i]? = st[i]?) ∧ (NL st → NL s') := fun {ws' c' m' s'} u2 u3 k1 k0 k2 k3 =>
      ⟨ws', c', _, _, rfl, { ins := k1.ins, cnt := (by
        obtain ⟨cl, z1, z2, z3⟩ := k1.cnt
        exact ⟨cl, z1, by omega, z3⟩), wai := k1.wai, la := k1.la, lb := k1.lb, ab := k1.ab, len := by have := k1.len; omega, pos := k1.pos }, k3, k2.1.trans h4, fun i hi => (k2.2.1 i (by omega) (by omega)).trans (h5 i hi), fun hN => k2.2.2 (h6 hN)⟩
    have c0 := c_eq (eq_ref0 h2.wai)
    cases e with
    | send =>
      have i0 : ∀ s, idxop E.send.d (.int 0) s = some (.str "send") := fun s => at0
      simp only [s_nil, s_seq, s_frz, z_asg, z_asgO, z_asgR, z_par, z_pn, z_pc, z_aug, z_ex, z_ret, z_retN, z_retR, z_ite, z_brk, z_cont, z_pass, z_setIs, z_tn, w_cst, w_var, w_glo, w_bin, w_neg, w_not, w_and, w_or, w_cmp, w_cmp2, w_ife, w_idx, w_slc, w_no, w_so, w_cno, w_cso, w_tup, w_lst, w_dnew, w_nil, w_cons, w_call, w_blt, w_isi, w_iown, w_iseq, w_rng1, w_rng2b, nxK, varE, assignG, own1, oOf, Ev.putK, viewI, O.d, List.getElem?_cons_zero, List.getElem?_cons_succ, List.set_cons_zero, List.set_cons_succ, Option.some.injEq, exists_eq_left', D.bl.injEq, D.int.injEq, EV.own.injEq, b_add, b_adds, b_addl, b_mull, b_muls, b_sub, b_mul, b_fdiv, b_mod, b_pow, at0, at1, at2, at3, c_lt, c_le, c_gt, c_ge, c_eqi, c_nei, c_eqs, c_nes, c_eqb, Option.map_some, len_lst, len_tup, len_scr, f_abs, f_max, f_min, f_intb, f_inti, f_str, f_list_l, f_list_t, seq_lst, seq_str, seq_scr, ck_no, ite_true, if_true, if_false, Bool.false_eq_true, reduceCtorEq, decide_eq_true_eq, decide_eq_false_iff_not, Bool.not_eq_true', Bool.not_eq_false', Bool.not_true, Bool.not_false, not_true_eq_false, not_false_eq_true, true_and, and_true, forall_const, false_implies, implies_true, lpK, w_rngDb, c_isN, c_isnotN, w_mth, z_mcall, mc_own, mc_ref, z_mcallTo, mt_own, z_setK, si_own, si_ref, mw_app, mw_ext, sw_dct, keyOk_int, keyOk_str, setAll, idx_lst, idx_tup, z_retO, ro_own, fz_own, fz_v, ov_lst, ov_dct, ov_non, ov_int, ov_bl, ov_str, ov_tup, w_callF, w_callO, w_lset, Ev.w_rev, w_fld, w_meth, w_mkI, w_setd, w_dcp, z_setX, z_setF, i0, M_is_event.g_SEND (P := P), h2.ins, D.ref.injEq]
      refine ⟨_, _, rfl, .ref (st.length + 2), by simp [assoc], by rw [hs]; decide, _, c0, fun hb => ?_, fun hb => ⟨_, _, rfl, ⟨by decide, by simp [assoc]⟩, ?_⟩⟩
      · cases ws with
        | nil =>
          have h3 : flt [] 0 es = some j := h3
          rw [h3] at q
          exact q s (by omega) h5 h6
        | cons w r => cases hb
      · cases ws with
        | nil => cases hb
        | cons w r =>
          have h3 : flt [] 0 es = flt r (j + 1) (es.drop (j + 1)) := h3
          rw [nm_take]
          exact takeS_all (n := n) h2 (by omega) fun s2 k1 k2 => fin _ _ k1 (by omega) k2 h3
    | wr k =>
      have i0 : ∀ s, idxop (E.wr k).d (.int 0) s = some (.str "write") := fun s => at0
      simp only [s_nil, s_seq, s_frz, z_asg, z_asgO, z_asgR, z_par, z_pn, z_pc, z_aug, z_ex, z_ret, z_retN, z_retR, z_ite, z_brk, z_cont, z_pass, z_setIs, z_tn, w_cst, w_var, w_glo, w_bin, w_neg, w_not, w_and, w_or, w_cmp, w_cmp2, w_ife, w_idx, w_slc, w_no, w_so, w_cno, w_cso, w_tup, w_lst, w_dnew, w_nil, w_cons, w_call, w_blt, w_isi, w_iown, w_iseq, w_rng1, w_rng2b, nxK, varE, assignG, own1, oOf, Ev.putK, viewI, O.d, List.getElem?_cons_zero, List.getElem?_cons_succ, List.set_cons_zero, List.set_cons_succ, Option.some.injEq, exists_eq_left', D.bl.injEq, D.int.injEq, EV.own.injEq, b_add, b_adds, b_addl, b_mull, b_muls, b_sub, b_mul, b_fdiv, b_mod, b_pow, at0, at1, at2, at3, c_lt, c_le, c_gt, c_ge, c_eqi, c_nei, c_eqs, c_nes, c_eqb, Option.map_some, len_lst, len_tup, len_scr, f_abs, f_max, f_min, f_intb, f_inti, f_str, f_list_l, f_list_t, seq_lst, seq_str, seq_scr, ck_no, ite_true, if_true, if_false, Bool.false_eq_true, reduceCtorEq, decide_eq_true_eq, decide_eq_false_iff_not, Bool.not_eq_true', Bool.not_eq_false', Bool.not_true, Bool.not_false, not_true_eq_false, not_false_eq_true, true_and, and_true, forall_const, false_implies, implies_true, lpK, w_rngDb, c_isN, c_isnotN, w_mth, z_mcall, mc_own, mc_ref, z_mcallTo, mt_own, z_setK, si_own, si_ref, mw_app, mw_ext, sw_dct, keyOk_int, keyOk_str, setAll, idx_lst, idx_tup, z_retO, ro_own, fz_own, fz_v, ov_lst, ov_dct, ov_non, ov_int, ov_bl, ov_str, ov_tup, w_callF, w_callO, w_lset, Ev.w_rev, w_fld, w_meth, w_mkI, w_setd, w_dcp, z_setX, z_setF, i0, M_is_event.g_SEND (P := P), h2.ins, D.ref.injEq]
      refine ⟨fun h => absurd h (by decide +kernel), fun _ => ⟨_, _, rfl, ⟨by decide, by simp [assoc]⟩, ?_⟩⟩
      have h3 : flt [] 0 es = flt (if k ∈ ws then ws else ws ++ [k]) (j + 1) (es.drop (j + 1)) := h3
      rw [nm_take]
      exact takeW_all (n := n) h2 (by omega) fun s2 k1 k2 => fin _ _ k1 (by omega) k2 h3
  · rintro env s ⟨ws, c, u2, u3, rfl, h2, h3, h4, h5, h6⟩
    rw [List.drop_length] at h3
    have h3 : flt [] 0 es = none := h3
    simp only [s_nil, s_seq, s_frz, z_asg, z_asgO, z_asgR, z_par, z_pn, z_pc, z_aug, z_ex, z_ret, z_retN, z_retR, z_ite, z_brk, z_cont, z_pass, z_setIs, z_tn, w_cst, w_var, w_glo, w_bin, w_neg, w_not, w_and, w_or, w_cmp, w_cmp2, w_ife, w_idx, w_slc, w_no, w_so, w_cno, w_cso, w_tup, w_lst, w_dnew, w_nil, w_cons, w_call, w_blt, w_isi, w_iown, w_iseq, w_rng1, w_rng2b, nxK, varE, assignG, own1, oOf, Ev.putK, viewI, O.d, List.getElem?_cons_zero, List.getElem?_cons_succ, List.set_cons_zero, List.set_cons_succ, Option.some.injEq, exists_eq_left', D.bl.injEq, D.int.injEq, EV.own.injEq, b_add, b_adds, b_addl, b_mull, b_muls, b_sub, b_mul, b_fdiv, b_mod, b_pow, at0, at1, at2, at3, c_lt, c_le, c_gt, c_ge, c_eqi, c_nei, c_eqs, c_nes, c_eqb, Option.map_some, len_lst, len_tup, len_scr, f_abs, f_max, f_min, f_intb, f_inti, f_str, f_list_l, f_list_t, seq_lst, seq_str, seq_scr, ck_no, ite_true, if_true, if_false, Bool.false_eq_true, reduceCtorEq, decide_eq_true_eq, decide_eq_false_iff_not, Bool.not_eq_true', Bool.not_eq_false', Bool.not_true, Bool.not_false, not_true_eq_false, not_false_eq_true, true_and, and_true, forall_const, false_implies, implies_true, lpK, w_rngDb, c_isN, c_isnotN, w_mth, z_mcall, mc_own, mc_ref, z_mcallTo, mt_own, z_setK, si_own, si_ref, mw_app, mw_ext, sw_dct, keyOk_int, keyOk_str, setAll, idx_lst, idx_tup, z_retO, ro_own, fz_own, fz_v, ov_lst, ov_dct, ov_non, ov_int, ov_bl, ov_str, ov_tup, w_callF, w_callO, w_lset, Ev.w_rev, w_fld, w_meth, w_mkI, w_setd, w_dcp, z_setX, z_setF]
    rw [h3] at q
    exact q s (by omega) h5 h6
end FQ
/-! GV: given writes: places, earliest states, runs; no program in sight -/
open PySem L2 Ev PySem.Spec PyProof.Rows FK FR
namespace GV
abbrev LG := List (Str × Nat)
def ex1 (q : List Str) (k : Str) : List Str := if k ∈ q then q else q ++ [k]
def ext (q l : List Str) : List Str := l.foldl ex1 q
theorem ext_nil (q : List Str) : ext q [] = q := rfl
theorem ext_cons (q : List Str) (k : Str) (l : List Str) : ext q (k :: l) = ext (ex1 q k) l := rfl
theorem ext_app (q a b : List Str) : ext q (a ++ b) = ext (ext q a) b := List.foldl_append
theorem ext_snoc (q l : List Str) (k : Str) : ext q (l ++ [k]) = ex1 (ext q l) k := by rw [ext_app]; rfl
theorem mem_ex1 {q : List Str} {k x : Str} : x ∈ ex1 q k ↔ x ∈ q ∨ x = k := by
  unfold ex1
  split
  · rename_i h
    exact ⟨.inl, fun z => z.elim id fun e => e ▸ h⟩
  · simp
theorem mem_ext {x : Str} : ∀ {l q : List Str}, x ∈ ext q l ↔ x ∈ q ∨ x ∈ l
  | [], q => by simp [ext_nil]
  | k :: l, q => by
    rw [ext_cons, mem_ext, mem_ex1, List.mem_cons, or_assoc]
theorem ext_hd {k : Str} : ∀ {l q : List Str}, ∃ r, ext (k :: q) l = k :: r
  | [], q => ⟨q, rfl⟩
  | x :: l, q => by
    rw [ext_cons]
    unfold ex1
    split
    · exact ext_hd
    · exact ext_hd (q := q ++ [x])
theorem ext_skip {k : Str} : ∀ {l q : List Str}, k ∉ l → ext (k :: q) l = k :: ext q l
  | [], q, _ => rfl
  | x :: l, q, h => by
    have hx : x ≠ k := fun e => h (e ▸ List.mem_cons_self)
    have hl : k ∉ l := fun e => h (List.mem_cons_of_mem _ e)
    rw [ext_cons, ext_cons]
    have e : ex1 (k :: q) x = k :: ex1 q x := by
      unfold ex1
      by_cases hq : x ∈ q
      · rw [if_pos hq, if_pos (List.mem_cons_of_mem _ hq)]
      · rw [if_neg hq, if_neg (fun z => (List.mem_cons.mp z).elim hx hq)]
        rfl
    rw [e]
    exact ext_skip hl
theorem ext_len : ∀ {l q : List Str}, (ext q l).length ≤ q.length + l.length
  | [], q => Nat.le_refl _
  | x :: l, q => by
    rw [ext_cons]
    have := ext_len (l := l) (q := ex1 q x)
    have h2 : (ex1 q x).length ≤ q.length + 1 := by
      unfold ex1
      split
      · exact Nat.le_succ _
      · rw [List.length_append]; exact Nat.le_refl _
    rw [List.length_cons]
    omega
/-- the writes a .. b-1 -/
def sl (W : List Str) (a b : Nat) : List Str := (W.drop a).take (b - a)
theorem sl_self (W : List Str) (a : Nat) : sl W a a = [] := by simp [sl]
theorem sl_cat (W : List Str) {a b c : Nat} (h : a ≤ b) (h2 : b ≤ c) : sl W a c = sl W a b ++ sl W b c := by
  unfold sl
  have e : c - a = (b - a) + (c - b) := by omega
  rw [e, List.take_add, List.drop_drop, show a + (b - a) = b by omega]
theorem sl_succ (W : List Str) {a b : Nat} {k : Str} (h : a ≤ b) (hk : W[b]? = some k) : sl W a (b + 1) = sl W a b ++ [k] := by
  rw [sl_cat W h (Nat.le_succ b)]
  congr 1
  unfold sl
  have hb := some_lt hk
  rw [List.getElem?_eq_getElem hb] at hk
  cases hk
  rw [List.drop_eq_getElem_cons hb, show b.succ - b = 1 by omega]
  rfl
theorem sl_cons (W : List Str) {a b : Nat} {k : Str} (h : a < b) (hk : W[a]? = some k) : sl W a b = k :: sl W (a + 1) b := by
  rw [sl_cat W (Nat.le_succ a) h]
  have := sl_succ W (Nat.le_refl a) hk
  rw [this, sl_self]
  rfl
theorem take_sl (W : List Str) {a b : Nat} (h : a ≤ b) : W.take b = W.take a ++ sl W a b := by
  unfold sl
  rw [← List.take_add, Nat.add_sub_cancel' h]
theorem mem_sl {W : List Str} {a b : Nat} {x : Str} (h : x ∈ sl W a b) : ∃ i, a ≤ i ∧ i < b ∧ W[i]? = some x := by
  unfold sl at h
  obtain ⟨i, hi⟩ := List.mem_iff_getElem?.mp h
  by_cases hb : i < b - a
  · rw [List.getElem?_take_of_lt hb, List.getElem?_drop] at hi
    exact ⟨a + i, by omega, by omega, hi⟩
  · rw [List.getElem?_take_eq_none (by omega)] at hi
    cases hi
theorem sl_mem {W : List Str} {a b i : Nat} {x : Str} (h1 : a ≤ i) (h2 : i < b) (h : W[i]? = some x) : x ∈ sl W a b := by
  unfold sl
  refine List.mem_iff_getElem?.mpr ⟨i - a, ?_⟩
  rw [List.getElem?_take_of_lt (by omega), List.getElem?_drop, show a + (i - a) = i by omega, h]
/-! ### counts, places -/
def cn (W : List Str) (u : Nat) (k : Str) : Nat := (W.take u).count k
theorem cn_cat (W : List Str) {a b : Nat} (h : a ≤ b) (k : Str) : cn W b k = cn W a k + (sl W a b).count k := by
  unfold cn
  rw [take_sl W h, List.count_append]
theorem cn_mono (W : List Str) {a b : Nat} (h : a ≤ b) (k : Str) : cn W a k ≤ cn W b k := by
  rw [cn_cat W h]
  exact Nat.le_add_right _ _
theorem cn_succ {W : List Str} {u : Nat} {x : Str} (h : W[u]? = some x) (k : Str) : cn W (u + 1) k = cn W u k + (if x = k then 1 else 0) := by
  rw [cn_cat W (Nat.le_succ u), sl_succ W (Nat.le_refl u) h, sl_self, List.nil_append, List.count_singleton]
  congr 1
  by_cases e : x = k
  · rw [if_pos e, if_pos (by simp [e])]
  · rw [if_neg e, if_neg (by simpa using e)]
def plj (W : List Str) (j : Nat) (k : Str) : List Nat := (List.range j).filter fun i => decide (W[i]? = some k)
theorem plj_succ (W : List Str) (j : Nat) (k : Str) : plj W (j + 1) k = plj W j k ++ (if W[j]? = some k then [j] else []) := by
  unfold plj
  rw [List.range_succ, List.filter_append]
  congr 1
  by_cases h : W[j]? = some k
  · rw [if_pos h, List.filter_cons_of_pos (by simpa using h)]
    rfl
  · rw [if_neg h, List.filter_cons_of_neg (by simpa using h)]
    rfl
theorem plj_len (W : List Str) (k : Str) : ∀ j, j ≤ W.length → (plj W j k).length = cn W j k
  | 0, _ => by simp [plj, cn]
  | j + 1, h => by
    have hj : W[j]? = some W[j] := List.getElem?_eq_getElem h
    rw [plj_succ, List.length_append, plj_len W k j (by omega), cn_succ hj, hj]
    congr 1
    by_cases e : W[j] = k
    · rw [if_pos e, if_pos (by rw [e])]; rfl
    · rw [if_neg e, if_neg (by simpa using e)]; rfl
theorem plj_get (W : List Str) (k : Str) {i p : Nat} : ∀ j, j ≤ W.length → ((plj W j k)[i]? = some p ↔ p < j ∧ W[p]? = some k ∧ cn W p k = i)
  | 0, _ => by simp [plj]
  | j + 1, h => by
    have hl := plj_len W k j (by omega)
    have ih := plj_get W k (i := i) (p := p) j (by omega)
    have hj : W[j]? = some W[j] := List.getElem?_eq_getElem h
    rw [plj_succ]
    by_cases hi : i < (plj W j k).length
    · rw [List.getElem?_append_left hi, ih]
      constructor
      · rintro ⟨h1, h2⟩
        exact ⟨by omega, h2⟩
      · rintro ⟨h1, h2, h3⟩
        refine ⟨?_, h2, h3⟩
        by_cases hp : p = j
        · subst hp
          omega
        · omega
    · rw [List.getElem?_append_right (by omega)]
      constructor
      · intro z
        by_cases e : W[j]? = some k
        · rw [if_pos e] at z
          have hz : i - (plj W j k).length = 0 := by
            have := some_lt z
            simp at this
            omega
          rw [hz] at z
          cases z
          exact ⟨by omega, e, by omega⟩
        · rw [if_neg e] at z
          simp at z
      · rintro ⟨h1, h2, h3⟩
        have hp : p = j := by
          by_cases hp : p = j
          · exact hp
          · exact absurd (some_lt (ih.mpr ⟨by omega, h2, h3⟩)) hi
        subst hp
        rw [if_pos h2, hl, h3, Nat.sub_self]
        rfl
abbrev pl (W : List Str) (k : Str) : List Nat := plj W W.length k
theorem plj_filter (W : List Str) (k : Str) {u : Nat} : ∀ j, u ≤ j → (plj W j k).filter (fun i => decide (i < u)) = plj W u k
  | 0, h => by
    have : u = 0 := by omega
    subst this
    rfl
  | j + 1, h => by
    by_cases e : u = j + 1
    · subst e
      refine List.filter_eq_self.mpr fun i hi => ?_
      unfold plj at hi
      have := List.mem_range.mp (List.mem_filter.mp hi).1
      simpa using this
    · rw [plj_succ, List.filter_append, plj_filter W k j (by omega)]
      have : (if W[j]? = some k then [j] else []).filter (fun i => decide (i < u)) = [] := by
        split
        · exact List.filter_cons_of_neg (by simp; omega)
        · rfl
      rw [this, List.append_nil]
/-! ### runs, the earliest states -/
inductive Run (W : List Str) : Nat → List Str → LG → Prop
  | nil : Run W 0 [] []
  | wr {u q lg k} : Run W u q lg → W[u]? = some k → Run W (u + 1) (ex1 q k) lg
  | sd {u q lg k} : Run W u (k :: q) lg → Run W u q (lg ++ [(k, cn W u k)])
theorem Run.le {W : List Str} {u : Nat} {q : List Str} {lg : LG} (h : Run W u q lg) : u ≤ W.length := by
  induction h with
  | nil => exact Nat.zero_le _
  | wr _ h _ => exact some_lt h
  | sd _ ih => exact ih
theorem Run.sub {W : List Str} {u : Nat} {q : List Str} {lg : LG} (h : Run W u q lg) : ∀ k, k ∈ q → 1 ≤ cn W u k := by
  induction h with
  | nil => intro k h; cases h
  | wr _ h ih =>
    intro x hx
    rw [cn_succ h]
    rcases mem_ex1.mp hx with z | z
    · have := ih x z
      omega
    · rw [if_pos z.symm]
      omega
  | sd _ ih => exact fun k hk => ih k (List.mem_cons_of_mem _ hk)
theorem Run.take {W : List Str} {u : Nat} {q : List Str} {lg : LG} (h : Run W u q lg) : ∀ n, ∃ u' q', Run W u' q' (lg.take n) := by
  induction h with
  | nil => exact fun n => ⟨0, [], by simpa using Run.nil⟩
  | wr _ _ ih => exact ih
  | @sd u q lg k h ih =>
    intro n
    by_cases hn : n ≤ lg.length
    · rw [List.take_append_of_le_length hn]
      exact ih n
    · rw [List.take_of_length_le (by simp; omega)]
      exact ⟨u, q, .sd h⟩
abbrev Sta := Nat × List Str
def nk (W : List Str) (s : Sta) : Option Str := match s.2 with
  | k :: _ => some k
  | [] => W[s.1]?
def later (W : List Str) (s : Sta) (k : Str) : List ((Str × Nat) × Sta) := ((pl W k).drop (cn W s.1 k)).zipIdx.map fun (p, i) => ((k, cn W s.1 k + 1 + i), (p + 1, (ext s.2 (sl W s.1 (p + 1))).tail))
def stp (W : List Str) (s : Sta) : List ((Str × Nat) × Sta) := match nk W s with
  | none => []
  | some k => (if s.2 = [] then [] else [((k, cn W s.1 k), (s.1, s.2.tail))]) ++ later W s k
def fnd (W : List Str) (s : Sta) (x : Str × Nat) : Option Sta := ((stp W s).find? fun e => decide (e.1 = x)).map (·.2)
/-- one more item -/
structure Nx (W : List Str) (s t : Sta) (x : Str × Nat) : Prop where
  f : fnd W s x = some t
  le : s.1 ≤ t.1
  hi : t.1 ≤ W.length
  q : ext s.2 (sl W s.1 t.1) = x.1 :: t.2
  c : cn W t.1 x.1 = x.2
  p : ∃ p, (pl W x.1)[x.2 - 1]? = some p ∧ 1 ≤ x.2 ∧ t.1 = max s.1 (p + 1)
theorem next {W : List Str} {s : Sta} {ru : Nat} {rq : List Str} {k : Str} (h1 : s.1 ≤ ru) (hr : ru ≤ W.length) (h2 : k :: rq = ext s.2 (sl W s.1 ru)) (h3 : 1 ≤ cn W ru k) :
    ∃ t, Nx W s t (k, cn W ru k) ∧ t.1 ≤ ru ∧ rq = ext t.2 (sl W t.1 ru) := by
  obtain ⟨u, q⟩ := s
  simp only at h1 h2
  have hc := cn_cat W h1 k
  -- the place of the write that is shown
  have hcw : cn W ru k ≤ cn W W.length k := cn_mono W hr k
  have hlen := plj_len W k W.length (Nat.le_refl _)
  obtain ⟨p, hp⟩ : ∃ p, (pl W k)[cn W ru k - 1]? = some p := ⟨_, List.getElem?_eq_getElem (by show _ < (plj W W.length k).length; omega)⟩
  obtain ⟨p1, p2, p3⟩ := (plj_get W k W.length (Nat.le_refl _)).mp hp
  have p4 : cn W (p + 1) k = cn W ru k := by
    rw [cn_succ p2, if_pos rfl]
    omega
  have hpr : p < ru := by
    by_cases z : p < ru
    · exact z
    · have := cn_mono W (show ru ≤ p by omega) k
      omega
  by_cases hk : k ∈ sl W u ru
  · -- behind the state
    have hcu : cn W u k < cn W ru k := by
      have := List.count_pos_iff.mpr hk
      omega
    have hup : u ≤ p := by
      by_cases z : u ≤ p
      · exact z
      · have := cn_mono W (show p + 1 ≤ u by omega) k
        omega
    have e1 : sl W u ru = sl W u (p + 1) ++ sl W (p + 1) ru := sl_cat W (by omega) hpr
    have hno : k ∉ sl W (p + 1) ru := fun z => by
      have := List.count_pos_iff.mpr z
      have := cn_cat W (show p + 1 ≤ ru by omega) k
      omega
    obtain ⟨k', q0, e2, e3⟩ : ∃ k' q0, ext q (sl W u (p + 1)) = k' :: q0 ∧ nk W (u, q) = some k' := by
      cases q with
      | nil =>
        have hx : W[u]? = some W[u] := List.getElem?_eq_getElem (by omega)
        rw [sl_cons W (show u < p + 1 by omega) hx, ext_cons]
        obtain ⟨r, hr⟩ := ext_hd (k := W[u]) (l := sl W (u + 1) (p + 1)) (q := [])
        exact ⟨_, r, hr, hx⟩
      | cons a q =>
        obtain ⟨r, hr⟩ := ext_hd (k := a) (l := sl W u (p + 1)) (q := q)
        exact ⟨_, r, hr, rfl⟩
    have ek : k' = k := by
      have h2' := h2
      rw [e1, ext_app, e2] at h2'
      obtain ⟨r, hr⟩ := ext_hd (k := k') (l := sl W (p + 1) ru) (q := q0)
      rw [hr] at h2'
      exact (List.cons.inj h2').1.symm
    subst ek
    have e4 : rq = ext q0 (sl W (p + 1) ru) := by
      have h2' := h2
      rw [e1, ext_app, e2, ext_skip hno] at h2'
      exact (List.cons.inj h2').2
    refine ⟨(p + 1, q0), ⟨?_, by simp; omega, by simp; omega, e2, p4, p, hp, h3, by simp; omega⟩, by simp; omega, e4⟩
    -- it is found
    unfold fnd stp
    rw [e3]
    simp only
    have hnone : (if q = [] then [] else [((k', cn W u k'), (u, q.tail))]).find? (fun e : (Str × Nat) × Sta => decide (e.1 = (k', cn W ru k'))) = none := by
      split
      · rfl
      · rw [List.find?_cons_of_neg (by simp; omega)]
        rfl
    rw [List.find?_append, hnone, Option.none_or]
    have hget : (later W (u, q) k')[cn W ru k' - 1 - cn W u k']? = some ((k', cn W ru k'), (p + 1, q0)) := by
      unfold later
      rw [List.getElem?_map, List.getElem?_zipIdx, List.getElem?_drop, show cn W u k' + (cn W ru k' - 1 - cn W u k') = cn W ru k' - 1 by omega, hp]
      simp only [Option.map_some, Nat.zero_add]
      rw [e2, show cn W u k' + 1 + (cn W ru k' - 1 - cn W u k') = cn W ru k' by omega]
      rfl
    have hfirst : (later W (u, q) k').find? (fun e => decide (e.1 = (k', cn W ru k'))) = some ((k', cn W ru k'), (p + 1, q0)) := by
      refine List.find?_eq_some_iff_getElem.mpr ⟨by simp, _, some_lt hget, (List.getElem?_eq_some_iff.mp hget).2, fun j hj => ?_⟩
      have hj2 := some_lt hget
      unfold later at hj2 ⊢
      rw [List.getElem_map]
      simp only [List.getElem_zipIdx]
      simp
      omega
    rw [hfirst]
    rfl
  · -- in the state's queue
    have hcu : cn W u k = cn W ru k := by
      have := List.count_eq_zero.mpr hk
      omega
    have hkq : k ∈ q := by
      have : k ∈ ext q (sl W u ru) := by rw [← h2]; exact List.mem_cons_self
      exact (mem_ext.mp this).resolve_right hk
    have hpu : p < u := by
      by_cases z : p < u
      · exact z
      · have := cn_mono W (show u ≤ p by omega) k
        omega
    cases q with
    | nil => cases hkq
    | cons a q =>
      obtain ⟨r, hr2⟩ := ext_hd (k := a) (l := sl W u ru) (q := q)
      have ea : a = k := by
        rw [hr2] at h2
        exact (List.cons.inj h2).1.symm
      subst ea
      have e4 : rq = ext q (sl W u ru) := by
        rw [ext_skip hk] at h2
        exact (List.cons.inj h2).2
      refine ⟨(u, q), ⟨?_, Nat.le_refl _, by simp; omega, by simp [sl_self, ext_nil], hcu, p, hp, h3, by simp; omega⟩, h1, e4⟩
      unfold fnd stp
      have e3 : nk W (u, a :: q) = some a := rfl
      rw [e3]
      simp only
      rw [if_neg (by simp), List.singleton_append, List.find?_cons_of_pos (by simp [hcu])]
      rfl
/-- the earliest state behind a log -/
def est (W : List Str) (lg : LG) : Option Sta := lg.foldl (fun o x => o.bind fun s => fnd W s x) (some (0, []))
theorem est_snoc (W : List Str) (lg : LG) (x : Str × Nat) : est W (lg ++ [x]) = (est W lg).bind fun s => fnd W s x := by
  unfold est
  rw [List.foldl_append]
  rfl
/-- the states behind the first items -/
def Good (W : List Str) (lg : LG) : Prop := ∀ j x, lg[j]? = some x → ∃ s t, est W (lg.take j) = some s ∧ est W (lg.take (j + 1)) = some t ∧ Nx W s t x
theorem Run.good {W : List Str} {u : Nat} {q : List Str} {lg : LG} (h : Run W u q lg) : Good W lg ∧ ∃ s, est W lg = some s ∧ s.1 ≤ u ∧ q = ext s.2 (sl W s.1 u) := by
  induction h with
  | nil => exact ⟨fun j x h => by simp at h, (0, []), rfl, Nat.le_refl _, by simp [sl_self, ext_nil]⟩
  | wr h hk ih =>
    obtain ⟨h1, s, h2, h3, h4⟩ := ih
    refine ⟨h1, s, h2, by omega, ?_⟩
    rw [sl_succ W h3 hk, ext_snoc, h4]
  | @sd u q lg k h ih =>
    obtain ⟨h1, s, h2, h3, h4⟩ := ih
    obtain ⟨t, n, n1, n2⟩ := next h3 h.le h4 (h.sub k List.mem_cons_self)
    have e : est W (lg ++ [(k, cn W u k)]) = some t := by
      rw [est_snoc, h2]
      exact n.f
    refine ⟨fun j x hx => ?_, t, e, n1, n2⟩
    by_cases hj : j < lg.length
    · rw [List.getElem?_append_left hj] at hx
      obtain ⟨s', t', g1, g2, g3⟩ := h1 j x hx
      rw [List.take_append_of_le_length (by omega), List.take_append_of_le_length (by omega)]
      exact ⟨s', t', g1, g2, g3⟩
    · have hj2 := some_lt hx
      rw [List.length_append, List.length_singleton] at hj2
      have hj3 : j = lg.length := by omega
      subst hj3
      rw [List.getElem?_append_right (Nat.le_refl _), Nat.sub_self] at hx
      cases hx
      refine ⟨s, t, ?_, ?_, n⟩
      · rw [List.take_append_of_le_length (Nat.le_refl _), List.take_length]
        exact h2
      · rw [List.take_of_length_le (by simp)]
        exact e
theorem Good.take {W : List Str} {lg : LG} (h : Good W lg) (n : Nat) : Good W (lg.take n) := fun j x hx => by
  by_cases hj : j < n
  · rw [List.getElem?_take_of_lt hj] at hx
    rw [List.take_take, List.take_take, Nat.min_eq_left (by omega), Nat.min_eq_left (by omega)]
    exact h j x hx
  · rw [List.getElem?_take_eq_none (by omega)] at hx
    cases hx
/-! ### the earliest run -/
def uu (W : List Str) (lg : LG) (j : Nat) : Sta := (est W (lg.take j)).getD (0, [])
theorem uu0 (W : List Str) (lg : LG) : uu W lg 0 = (0, []) := rfl
theorem Good.nx {W : List Str} {lg : LG} (h : Good W lg) {j : Nat} {x : Str × Nat} (hx : lg[j]? = some x) : Nx W (uu W lg j) (uu W lg (j + 1)) x := by
  obtain ⟨s, t, h1, h2, h3⟩ := h j x hx
  unfold uu
  rw [h1, h2]
  exact h3
theorem Good.st {W : List Str} {lg : LG} (h : Good W lg) : ∀ j, j ≤ lg.length → (uu W lg j).1 ≤ W.length ∧ ∀ k, k ∈ (uu W lg j).2 → k ∈ W
  | 0, _ => ⟨Nat.zero_le _, fun k h => by cases h⟩
  | j + 1, hj => by
    obtain ⟨x, hx⟩ : ∃ x, lg[j]? = some x := ⟨_, List.getElem?_eq_getElem (by omega)⟩
    have n := h.nx hx
    refine ⟨n.hi, fun k hk => ?_⟩
    have : k ∈ ext (uu W lg j).2 (sl W (uu W lg j).1 (uu W lg (j + 1)).1) := by
      rw [n.q]
      exact List.mem_cons_of_mem _ hk
    rcases mem_ext.mp this with z | z
    · exact (h.st j (by omega)).2 k z
    · obtain ⟨i, _, _, hi⟩ := mem_sl z
      exact List.mem_of_getElem? hi
theorem Good.ql {W : List Str} {lg : LG} (h : Good W lg) : ∀ j, j ≤ lg.length → (uu W lg j).2.length ≤ (uu W lg j).1
  | 0, _ => Nat.zero_le _
  | j + 1, hj => by
    obtain ⟨x, hx⟩ : ∃ x, lg[j]? = some x := ⟨_, List.getElem?_eq_getElem (by omega)⟩
    have n := h.nx hx
    have h1 := h.ql j (by omega)
    have h2 := ext_len (l := sl W (uu W lg j).1 (uu W lg (j + 1)).1) (q := (uu W lg j).2)
    have h3 : (sl W (uu W lg j).1 (uu W lg (j + 1)).1).length ≤ (uu W lg (j + 1)).1 - (uu W lg j).1 := by
      unfold sl
      rw [List.length_take]
      omega
    have h4 := n.le
    rw [n.q, List.length_cons] at h2
    omega
def ese (W : List Str) (lg : LG) : Nat → List E
  | 0 => []
  | j + 1 => ese W lg j ++ (sl W (uu W lg j).1 (uu W lg (j + 1)).1).map E.wr ++ [E.send]
def evs (W : List Str) (lg : LG) : List E := ese W lg lg.length ++ (W.drop (uu W lg lg.length).1).map E.wr
theorem sl_len (W : List Str) {a b : Nat} (h : b ≤ W.length) : (sl W a b).length = b - a := by
  unfold sl
  rw [List.length_take, List.length_drop]
  omega
theorem ese_len {W : List Str} {lg : LG} (h : Good W lg) : ∀ j, j ≤ lg.length → (ese W lg j).length = (uu W lg j).1 + j
  | 0, _ => rfl
  | j + 1, hj => by
    obtain ⟨x, hx⟩ : ∃ x, lg[j]? = some x := ⟨_, List.getElem?_eq_getElem (by omega)⟩
    have n := h.nx hx
    have h1 := n.le
    rw [ese, List.length_append, List.length_append, List.length_map, sl_len W n.hi, ese_len h j (by omega), List.length_singleton]
    omega
theorem evs_len {W : List Str} {lg : LG} (h : Good W lg) : (evs W lg).length = W.length + lg.length := by
  have := (h.st lg.length (Nat.le_refl _)).1
  rw [evs, List.length_append, ese_len h _ (Nat.le_refl _), List.length_map, List.length_drop]
  omega
theorem ese_ok {W : List Str} {lg : LG} (hW : ∀ k, k ∈ W → keyB k = true) : ∀ j, ∀ e, e ∈ ese W lg j → e.ok = true
  | 0, e, h => by cases h
  | j + 1, e, h => by
    rw [ese] at h
    rcases List.mem_append.mp h with h | h
    · rcases List.mem_append.mp h with h | h
      · exact ese_ok hW j e h
      · obtain ⟨k, h1, rfl⟩ := List.mem_map.mp h
        obtain ⟨i, _, _, hi⟩ := mem_sl h1
        exact hW k (List.mem_of_getElem? hi)
    · rw [List.mem_singleton.mp h]
      rfl
theorem evs_ok {W : List Str} {lg : LG} (hW : ∀ k, k ∈ W → keyB k = true) : ∀ e, e ∈ evs W lg → e.ok = true := fun e h => by
  rcases List.mem_append.mp h with h | h
  · exact ese_ok hW _ e h
  · obtain ⟨k, h1, rfl⟩ := List.mem_map.mp h
    exact hW k (List.mem_of_mem_drop h1)
/-- the writes, the queue and the shown writes of played events -/
abbrev PT := List Str × List Str × LG
def pS (t : PT) : E → Option PT
  | .wr k => some (t.1 ++ [k], ex1 t.2.1 k, t.2.2)
  | .send => match t.2.1 with
    | [] => none
    | k :: q => some (t.1, q, t.2.2 ++ [(k, t.1.count k)])
def pst : List E → PT → Option PT
  | [], t => some t
  | e :: es, t => (pS t e).bind (pst es)
theorem pst_app : ∀ (a b : List E) (t : PT), pst (a ++ b) t = (pst a t).bind (pst b)
  | [], b, t => rfl
  | e :: a, b, t => by
    show (pS t e).bind (pst (a ++ b)) = ((pS t e).bind (pst a)).bind (pst b)
    cases pS t e with
    | none => rfl
    | some t' => exact pst_app a b t'
theorem pst_wr : ∀ (ks ws q : List Str) (sh : LG), pst (ks.map E.wr) (ws, q, sh) = some (ws ++ ks, ext q ks, sh)
  | [], ws, q, sh => by simp [pst, ext_nil]
  | k :: ks, ws, q, sh => by
    show pst (ks.map E.wr) (ws ++ [k], ex1 q k, sh) = _
    rw [pst_wr ks, ext_cons, List.append_assoc]
    rfl
theorem pst_ese {W : List Str} {lg : LG} (h : Good W lg) : ∀ j, j ≤ lg.length → pst (ese W lg j) ([], [], []) = some (W.take (uu W lg j).1, (uu W lg j).2, lg.take j)
  | 0, _ => by simp [ese, pst, uu0]
  | j + 1, hj => by
    obtain ⟨x, hx⟩ : ∃ x, lg[j]? = some x := ⟨_, List.getElem?_eq_getElem (by omega)⟩
    have n := h.nx hx
    rw [ese, List.append_assoc, pst_app, pst_ese h j (by omega), Option.bind_some, pst_app, pst_wr, n.q, ← take_sl W n.le, Option.bind_some]
    show some (W.take (uu W lg (j + 1)).1, (uu W lg (j + 1)).2, lg.take j ++ [(x.1, (W.take (uu W lg (j + 1)).1).count x.1)]) = _
    have hc : (W.take (uu W lg (j + 1)).1).count x.1 = x.2 := n.c
    rw [hc, List.take_succ, hx]
    rfl
theorem pst_evs {W : List Str} {lg : LG} (h : Good W lg) : ∃ q, pst (evs W lg) ([], [], []) = some (W, q, lg) := by
  rw [evs, pst_app, pst_ese h _ (Nat.le_refl _), Option.bind_some, pst_wr, List.take_append_drop, List.take_length]
  exact ⟨_, rfl⟩
theorem Run.len {W : List Str} {u : Nat} {q : List Str} {lg : LG} (h : Run W u q lg) : q.length + lg.length ≤ u := by
  induction h with
  | nil => exact Nat.le_refl _
  | @wr u q lg k h _ ih =>
    have : (ex1 q k).length ≤ q.length + 1 := by
      unfold ex1
      split
      · exact Nat.le_succ _
      · rw [List.length_append]; exact Nat.le_refl _
    omega
  | @sd u q lg k h ih =>
    rw [List.length_append, List.length_singleton]
    simp only [List.length_cons] at ih
    omega
end GV
/-! FI: keys.py: counted logs -/
open PySem L2 Ev PySem.Spec PyProof.Rows FK FR FQ GV
namespace FI
def cd_is_write : CDef := ⟨1, 1, [], (.cons (.ret (.and (.isi (.var 0) "tuple") (.and (.cmp .eq (.blt "len" (.cons (.var 0) .nil)) (.cst (.int 2))) (.and (.call "is_key" (.cons (.idx (.var 0) (.cst (.int 0))) .nil)) (.call "is_integer" (.cons (.idx (.var 0) (.cst (.int 1))) (.cons (.cst (.int 1)) .nil))))))) .nil)⟩
class M_is_write (P : Prog) : Prop extends M_is_key P, M_is_integer P where
  d_is_write : assoc P.defs "is_write" = some cd_is_write
def cd_is_counted : CDef := ⟨1, 5, [], (.cons (.ite (.or (.not (.isi (.var 0) "list")) (.not (.blt "all" (.cons (.lc [4] (.nm 4) (.seq (.var 0)) .no (.call "is_write" (.cons (.var 4) .nil))) .nil)))) (.cons (.ret (.cst (.bl false))) .nil) .nil) (.cons (.asgO 1 (.dnew false)) (.cons (.for_ (.tup [2, 3]) (.seq (.var 0)) (.cons (.ite (.cmp .le (.var 3) (.mth "get" (.var 1) (.cons (.var 2) (.cons (.cst (.int 0)) .nil)))) (.cons (.ret (.cst (.bl false))) .nil) .nil) (.cons (.setI 1 (.var 2) (.var 3)) .nil))) (.cons (.ret (.cst (.bl true))) .nil))))⟩
class M_is_counted (P : Prog) : Prop extends M_is_write P where
  d_is_counted : assoc P.defs "is_counted" = some cd_is_counted
def cd_require_counted : CDef := ⟨1, 1, [], (.cons (.ite (.not (.call "is_counted" (.cons (.var 0) .nil))) (.cons .bad .nil) .nil) .nil)⟩
class M_require_counted (P : Prog) : Prop extends M_is_counted P where
  d_require_counted : assoc P.defs "require_counted" = some cd_require_counted
variable {P : Prog}
def wD (p : Str × Nat) : D := .tup [.str p.1, .int p.2]
/-- the last count of a key -/
def lastc (lg : LG) (k : Str) : Nat := lg.foldl (fun a x => if x.1 = k then x.2 else a) 0
theorem lastc_snoc (lg : LG) (x : Str × Nat) (k : Str) : lastc (lg ++ [x]) k = if x.1 = k then x.2 else lastc lg k := by
  unfold lastc
  rw [List.foldl_append]
  rfl
def Cnt (lg : LG) : Prop := ∀ j x, lg[j]? = some x → lastc (lg.take j) x.1 < x.2
theorem Cnt.take {lg : LG} (h : Cnt lg) (n : Nat) : Cnt (lg.take n) := fun j x hx => by
  by_cases hj : j < n
  · rw [List.getElem?_take_of_lt hj] at hx
    rw [List.take_take, Nat.min_eq_left (by omega)]
    exact h j x hx
  · rw [List.getElem?_take_eq_none (by omega)] at hx
    cases hx
theorem cnt_snoc {lg : LG} {x : Str × Nat} (h : Cnt lg) (hx : lastc lg x.1 < x.2) : Cnt (lg ++ [x]) := fun j y hy => by
  by_cases hj : j < lg.length
  · rw [List.getElem?_append_left hj] at hy
    rw [List.take_append_of_le_length (by omega)]
    exact h j y hy
  · have hj2 := some_lt hy
    rw [List.length_append, List.length_singleton] at hj2
    have hj3 : j = lg.length := by omega
    subst hj3
    rw [List.getElem?_append_right (Nat.le_refl _), Nat.sub_self] at hy
    cases hy
    rw [List.take_append_of_le_length (Nat.le_refl _), List.take_length]
    exact hx
theorem ex1_nodup {q : List Str} {k : Str} (h : q.Nodup) : (ex1 q k).Nodup := by
  unfold ex1
  split
  · exact h
  · rename_i hk
    exact List.nodup_append.mpr ⟨h, by simp, fun a ha b hb => by
      rw [List.mem_singleton.mp hb]
      exact fun z => hk (z ▸ ha)⟩
theorem run_cnt {W : List Str} {u : Nat} {q : List Str} {lg : LG} (h : Run W u q lg) : Cnt lg ∧ q.Nodup ∧ ∀ k, lastc lg k ≤ cn W u k ∧ (k ∈ q → lastc lg k < cn W u k) := by
  induction h with
  | nil => exact ⟨fun j x h => by simp at h, List.nodup_nil, fun k => ⟨Nat.zero_le _, fun h => by cases h⟩⟩
  | @wr u q lg x h hx ih =>
    obtain ⟨h1, h2, h3⟩ := ih
    refine ⟨h1, ex1_nodup h2, fun k => ?_⟩
    obtain ⟨h4, h5⟩ := h3 k
    rw [cn_succ hx]
    refine ⟨by omega, fun hk => ?_⟩
    rcases mem_ex1.mp hk with z | z
    · have := h5 z
      omega
    · rw [if_pos z.symm]
      omega
  | @sd u q lg x h ih =>
    obtain ⟨h1, h2, h3⟩ := ih
    rw [List.nodup_cons] at h2
    have h4 := (h3 x).2 List.mem_cons_self
    refine ⟨cnt_snoc h1 h4, h2.2, fun k => ?_⟩
    rw [lastc_snoc]
    by_cases e : x = k
    · subst e
      rw [if_pos rfl]
      exact ⟨Nat.le_refl _, fun z => absurd z h2.1⟩
    · rw [if_neg e]
      exact ⟨(h3 k).1, fun z => (h3 k).2 (List.mem_cons_of_mem _ z)⟩
def okC (lg : LG) : Prop := ∀ x, x ∈ lg → keyB x.1 = true ∧ 1 ≤ x.2
theorem okC_run {W : List Str} (hW : ∀ k, k ∈ W → keyB k = true) {u : Nat} {q : List Str} {lg : LG} (h : Run W u q lg) : okC lg := by
  induction h with
  | nil => intro x h; cases h
  | wr _ _ ih => exact ih
  | @sd u q lg k h ih =>
    intro x hx
    rcases List.mem_append.mp hx with z | z
    · exact ih x z
    · rw [List.mem_singleton.mp z]
      have h1 := h.sub k List.mem_cons_self
      refine ⟨hW k ?_, h1⟩
      have : k ∈ W.take u := List.count_pos_iff.mp h1
      exact List.mem_of_mem_take this
theorem isint1_all [M_is_integer P] {wf n : Nat} {v a : Int} {st : Store} {Q : D → Store → Prop} (h0 : a ≤ v) (q : Q (.bl true) st) : (callF P wf (n + 1) "is_integer" [.int v, .int a] st).all Q := by
  refine call_all (cd := cd_is_integer) (env := [.v (.int v), .v (.int a), .v .non]) M_is_integer.d_is_integer rfl ?_
  have i1 : isTy st (.int v) "int" = some true := by rfl
  have i2 : isTy st (.int v) "bool" = some false := by rfl
  have i3 : cmpop .is D.non .non st = some true := rfl
  simp only [s_nil, s_seq, s_frz, z_asg, z_asgO, z_asgR, z_par, z_pn, z_pc, z_aug, z_ex, z_ret, z_retN, z_retR, z_ite, z_brk, z_cont, z_pass, z_setIs, z_tn, w_cst, w_var, w_glo, w_bin, w_neg, w_not, w_and, w_or, w_cmp, w_cmp2, w_ife, w_idx, w_slc, w_no, w_so, w_cno, w_cso, w_tup, w_lst, w_dnew, w_nil, w_cons, w_call, w_blt, w_isi, w_iown, w_iseq, w_rng1, w_rng2b, nxK, varE, assignG, own1, oOf, Ev.putK, viewI, O.d, List.getElem?_cons_zero, List.getElem?_cons_succ, List.set_cons_zero, List.set_cons_succ, Option.some.injEq, exists_eq_left', D.bl.injEq, D.int.injEq, EV.own.injEq, b_add, b_adds, b_addl, b_mull, b_muls, b_sub, b_mul, b_fdiv, b_mod, b_pow, at0, at1, at2, at3, c_lt, c_le, c_gt, c_ge, c_eqi, c_nei, c_eqs, c_nes, c_eqb, Option.map_some, len_lst, len_tup, len_scr, f_abs, f_max, f_min, f_intb, f_inti, f_str, f_list_l, f_list_t, seq_lst, seq_str, seq_scr, ck_no, ite_true, if_true, if_false, Bool.false_eq_true, reduceCtorEq, decide_eq_true_eq, decide_eq_false_iff_not, Bool.not_eq_true', Bool.not_eq_false', Bool.not_true, Bool.not_false, not_true_eq_false, not_false_eq_true, true_and, and_true, forall_const, false_implies, implies_true, lpK, w_rngDb, c_isN, c_isnotN, w_mth, z_mcall, mc_own, mc_ref, z_mcallTo, mt_own, z_setK, si_own, si_ref, mw_app, mw_ext, sw_dct, keyOk_int, keyOk_str, setAll, idx_lst, idx_tup, z_retO, ro_own, fz_own, fz_v, ov_lst, ov_dct, ov_non, ov_int, ov_bl, ov_str, ov_tup, w_callF, w_callO, w_lset, Ev.w_rev, w_fld, w_meth, w_mkI, w_setd, w_dcp, z_setX, z_setF, cd_is_integer, i1, i2, i3]
  exact ⟨fun z => by exfalso; omega, fun _ => q⟩
theorem iswrite_all [M_is_write P] {wf n : Nat} {x : Str × Nat} {st : Store} {Q : D → Store → Prop} (hk : keyB x.1 = true) (h1 : 1 ≤ x.2) (q : Q (.bl true) st) : (callF P wf (n + 2) "is_write" [wD x] st).all Q := by
  refine call_all (cd := cd_is_write) (env := [.v (wD x)]) M_is_write.d_is_write rfl ?_
  have i1 : isTy st (.tup [.str x.1, .int x.2]) "tuple" = some true := by rfl
  have e0 : ∀ s, idxop (.tup [.str x.1, .int x.2]) (.int 0) s = some (.str x.1) := fun s => at0
  have e1 : ∀ s, idxop (.tup [.str x.1, .int x.2]) (.int 1) s = some (.int x.2) := fun s => at1
  simp only [s_nil, s_seq, s_frz, z_asg, z_asgO, z_asgR, z_par, z_pn, z_pc, z_aug, z_ex, z_ret, z_retN, z_retR, z_ite, z_brk, z_cont, z_pass, z_setIs, z_tn, w_cst, w_var, w_glo, w_bin, w_neg, w_not, w_and, w_or, w_cmp, w_cmp2, w_ife, w_idx, w_slc, w_no, w_so, w_cno, w_cso, w_tup, w_lst, w_dnew, w_nil, w_cons, w_call, w_blt, w_isi, w_iown, w_iseq, w_rng1, w_rng2b, nxK, varE, assignG, own1, oOf, Ev.putK, viewI, O.d, List.getElem?_cons_zero, List.getElem?_cons_succ, List.set_cons_zero, List.set_cons_succ, Option.some.injEq, exists_eq_left', D.bl.injEq, D.int.injEq, EV.own.injEq, b_add, b_adds, b_addl, b_mull, b_muls, b_sub, b_mul, b_fdiv, b_mod, b_pow, at0, at1, at2, at3, c_lt, c_le, c_gt, c_ge, c_eqi, c_nei, c_eqs, c_nes, c_eqb, Option.map_some, len_lst, len_tup, len_scr, f_abs, f_max, f_min, f_intb, f_inti, f_str, f_list_l, f_list_t, seq_lst, seq_str, seq_scr, ck_no, ite_true, if_true, if_false, Bool.false_eq_true, reduceCtorEq, decide_eq_true_eq, decide_eq_false_iff_not, Bool.not_eq_true', Bool.not_eq_false', Bool.not_true, Bool.not_false, not_true_eq_false, not_false_eq_true, true_and, and_true, forall_const, false_implies, implies_true, lpK, w_rngDb, c_isN, c_isnotN, w_mth, z_mcall, mc_own, mc_ref, z_mcallTo, mt_own, z_setK, si_own, si_ref, mw_app, mw_ext, sw_dct, keyOk_int, keyOk_str, setAll, idx_lst, idx_tup, z_retO, ro_own, fz_own, fz_v, ov_lst, ov_dct, ov_non, ov_int, ov_bl, ov_str, ov_tup, w_callF, w_callO, w_lset, Ev.w_rev, w_fld, w_meth, w_mkI, w_setd, w_dcp, z_setX, z_setF, cd_is_write, wD, i1, e0, e1, List.length_cons, List.length_nil]
  refine ⟨fun _ => ?_, fun h => absurd rfl h⟩
  refine key_all hk ⟨_, rfl, fun _ => ?_, fun h => by cases h⟩
  exact isint1_all (by omega) ⟨_, rfl, q⟩
theorem counted_all [M_is_counted P] {wf n : Nat} {lg : LG} {st : Store} {Q : D → Store → Prop} (hz : lg.length ≤ 100000) (ok : okC lg) (hc : Cnt lg) (q : Q (.bl true) st) : (callF P wf (n + 3) "is_counted" [.lst (lg.map wD)] st).all Q := by
  have hs : sizeLine = 16777216 := by rw [sizeLine_eq]
  refine call_all (cd := cd_is_counted) (env := [.v (.lst (lg.map wD)), .un, .un, .un, .un]) M_is_counted.d_is_counted rfl ?_
  have i1 : isTy st (.lst (lg.map wD)) "list" = some true := by rfl
  simp only [s_nil, s_seq, s_frz, z_asg, z_asgO, z_asgR, z_par, z_pn, z_pc, z_aug, z_ex, z_ret, z_retN, z_retR, z_ite, z_brk, z_cont, z_pass, z_setIs, z_tn, w_cst, w_var, w_glo, w_bin, w_neg, w_not, w_and, w_or, w_cmp, w_cmp2, w_ife, w_idx, w_slc, w_no, w_so, w_cno, w_cso, w_tup, w_lst, w_dnew, w_nil, w_cons, w_call, w_blt, w_isi, w_iown, w_iseq, w_rng1, w_rng2b, nxK, varE, assignG, own1, oOf, Ev.putK, viewI, O.d, List.getElem?_cons_zero, List.getElem?_cons_succ, List.set_cons_zero, List.set_cons_succ, Option.some.injEq, exists_eq_left', D.bl.injEq, D.int.injEq, EV.own.injEq, b_add, b_adds, b_addl, b_mull, b_muls, b_sub, b_mul, b_fdiv, b_mod, b_pow, at0, at1, at2, at3, c_lt, c_le, c_gt, c_ge, c_eqi, c_nei, c_eqs, c_nes, c_eqb, Option.map_some, len_lst, len_tup, len_scr, f_abs, f_max, f_min, f_intb, f_inti, f_str, f_list_l, f_list_t, seq_lst, seq_str, seq_scr, ck_no, ite_true, if_true, if_false, Bool.false_eq_true, reduceCtorEq, decide_eq_true_eq, decide_eq_false_iff_not, Bool.not_eq_true', Bool.not_eq_false', Bool.not_true, Bool.not_false, not_true_eq_false, not_false_eq_true, true_and, and_true, forall_const, false_implies, implies_true, lpK, w_rngDb, c_isN, c_isnotN, w_mth, z_mcall, mc_own, mc_ref, z_mcallTo, mt_own, z_setK, si_own, si_ref, mw_app, mw_ext, sw_dct, keyOk_int, keyOk_str, setAll, idx_lst, idx_tup, z_retO, ro_own, fz_own, fz_v, ov_lst, ov_dct, ov_non, ov_int, ov_bl, ov_str, ov_tup, w_callF, w_callO, w_lset, Ev.w_rev, w_fld, w_meth, w_mkI, w_setd, w_dcp, z_setX, z_setF, cd_is_counted, i1]
  refine lc_map (f := fun _ => .bl true) (xs := lg.map wD) (by simp only [s_nil, s_seq, s_frz, z_asg, z_asgO, z_asgR, z_par, z_pn, z_pc, z_aug, z_ex, z_ret, z_retN, z_retR, z_ite, z_brk, z_cont, z_pass, z_setIs, z_tn, w_cst, w_var, w_glo, w_bin, w_neg, w_not, w_and, w_or, w_cmp, w_cmp2, w_ife, w_idx, w_slc, w_no, w_so, w_cno, w_cso, w_tup, w_lst, w_dnew, w_nil, w_cons, w_call, w_blt, w_isi, w_iown, w_iseq, w_rng1, w_rng2b, nxK, varE, assignG, own1, oOf, Ev.putK, viewI, O.d, List.getElem?_cons_zero, List.getElem?_cons_succ, List.set_cons_zero, List.set_cons_succ, Option.some.injEq, exists_eq_left', D.bl.injEq, D.int.injEq, EV.own.injEq, b_add, b_adds, b_addl, b_mull, b_muls, b_sub, b_mul, b_fdiv, b_mod, b_pow, at0, at1, at2, at3, c_lt, c_le, c_gt, c_ge, c_eqi, c_nei, c_eqs, c_nes, c_eqb, Option.map_some, len_lst, len_tup, len_scr, f_abs, f_max, f_min, f_intb, f_inti, f_str, f_list_l, f_list_t, seq_lst, seq_str, seq_scr, ck_no, ite_true, if_true, if_false, Bool.false_eq_true, reduceCtorEq, decide_eq_true_eq, decide_eq_false_iff_not, Bool.not_eq_true', Bool.not_eq_false', Bool.not_true, Bool.not_false, not_true_eq_false, not_false_eq_true, true_and, and_true, forall_const, false_implies, implies_true, lpK, w_rngDb, c_isN, c_isnotN, w_mth, z_mcall, mc_own, mc_ref, z_mcallTo, mt_own, z_setK, si_own, si_ref, mw_app, mw_ext, sw_dct, keyOk_int, keyOk_str, setAll, idx_lst, idx_tup, z_retO, ro_own, fz_own, fz_v, ov_lst, ov_dct, ov_non, ov_int, ov_bl, ov_str, ov_tup, w_callF, w_callO, w_lset, Ev.w_rev, w_fld, w_meth, w_mkI, w_setd, w_dcp, z_setX, z_setF, ck_no]) (by rw [List.length_map]; omega) (fun d hd => ?_) ?_
  · obtain ⟨x, h1, rfl⟩ := List.mem_map.mp hd
    refine ⟨_, rfl, ?_⟩
    simp only [s_nil, s_seq, s_frz, z_asg, z_asgO, z_asgR, z_par, z_pn, z_pc, z_aug, z_ex, z_ret, z_retN, z_retR, z_ite, z_brk, z_cont, z_pass, z_setIs, z_tn, w_cst, w_var, w_glo, w_bin, w_neg, w_not, w_and, w_or, w_cmp, w_cmp2, w_ife, w_idx, w_slc, w_no, w_so, w_cno, w_cso, w_tup, w_lst, w_dnew, w_nil, w_cons, w_call, w_blt, w_isi, w_iown, w_iseq, w_rng1, w_rng2b, nxK, varE, assignG, own1, oOf, Ev.putK, viewI, O.d, List.getElem?_cons_zero, List.getElem?_cons_succ, List.set_cons_zero, List.set_cons_succ, Option.some.injEq, exists_eq_left', D.bl.injEq, D.int.injEq, EV.own.injEq, b_add, b_adds, b_addl, b_mull, b_muls, b_sub, b_mul, b_fdiv, b_mod, b_pow, at0, at1, at2, at3, c_lt, c_le, c_gt, c_ge, c_eqi, c_nei, c_eqs, c_nes, c_eqb, Option.map_some, len_lst, len_tup, len_scr, f_abs, f_max, f_min, f_intb, f_inti, f_str, f_list_l, f_list_t, seq_lst, seq_str, seq_scr, ck_no, ite_true, if_true, if_false, Bool.false_eq_true, reduceCtorEq, decide_eq_true_eq, decide_eq_false_iff_not, Bool.not_eq_true', Bool.not_eq_false', Bool.not_true, Bool.not_false, not_true_eq_false, not_false_eq_true, true_and, and_true, forall_const, false_implies, implies_true, lpK, w_rngDb, c_isN, c_isnotN, w_mth, z_mcall, mc_own, mc_ref, z_mcallTo, mt_own, z_setK, si_own, si_ref, mw_app, mw_ext, sw_dct, keyOk_int, keyOk_str, setAll, idx_lst, idx_tup, z_retO, ro_own, fz_own, fz_v, ov_lst, ov_dct, ov_non, ov_int, ov_bl, ov_str, ov_tup, w_callF, w_callO, w_lset, Ev.w_rev, w_fld, w_meth, w_mkI, w_setd, w_dcp, z_setX, z_setF, wipeE]
    exact iswrite_all (ok x h1).1 (ok x h1).2 ⟨rfl, rfl⟩
  · rw [f_all (allT fun d hd => by
      obtain ⟨_, _, rfl⟩ := List.mem_map.mp hd
      rfl)]
    refine ⟨_, rfl, fun h => (by cases h), fun _ => ?_⟩
    rw [z_for]
    simp only [s_nil, s_seq, s_frz, z_asg, z_asgO, z_asgR, z_par, z_pn, z_pc, z_aug, z_ex, z_ret, z_retN, z_retR, z_ite, z_brk, z_cont, z_pass, z_setIs, z_tn, w_cst, w_var, w_glo, w_bin, w_neg, w_not, w_and, w_or, w_cmp, w_cmp2, w_ife, w_idx, w_slc, w_no, w_so, w_cno, w_cso, w_tup, w_lst, w_dnew, w_nil, w_cons, w_call, w_blt, w_isi, w_iown, w_iseq, w_rng1, w_rng2b, nxK, varE, assignG, own1, oOf, Ev.putK, viewI, O.d, List.getElem?_cons_zero, List.getElem?_cons_succ, List.set_cons_zero, List.set_cons_succ, Option.some.injEq, exists_eq_left', D.bl.injEq, D.int.injEq, EV.own.injEq, b_add, b_adds, b_addl, b_mull, b_muls, b_sub, b_mul, b_fdiv, b_mod, b_pow, at0, at1, at2, at3, c_lt, c_le, c_gt, c_ge, c_eqi, c_nei, c_eqs, c_nes, c_eqb, Option.map_some, len_lst, len_tup, len_scr, f_abs, f_max, f_min, f_intb, f_inti, f_str, f_list_l, f_list_t, seq_lst, seq_str, seq_scr, ck_no, ite_true, if_true, if_false, Bool.false_eq_true, reduceCtorEq, decide_eq_true_eq, decide_eq_false_iff_not, Bool.not_eq_true', Bool.not_eq_false', Bool.not_true, Bool.not_false, not_true_eq_false, not_false_eq_true, true_and, and_true, forall_const, false_implies, implies_true, lpK, w_rngDb, c_isN, c_isnotN, w_mth, z_mcall, mc_own, mc_ref, z_mcallTo, mt_own, z_setK, si_own, si_ref, mw_app, mw_ext, sw_dct, keyOk_int, keyOk_str, setAll, idx_lst, idx_tup, z_retO, ro_own, fz_own, fz_v, ov_lst, ov_dct, ov_non, ov_int, ov_bl, ov_str, ov_tup, w_callF, w_callO, w_lset, Ev.w_rev, w_fld, w_meth, w_mkI, w_setd, w_dcp, z_setX, z_setF]
    refine ⟨rfl, for_map (fun j e s => s = st ∧ ∃ (cl : List (D × D)) (u2 u3 : EV), e = [.v (.lst (lg.map wD)), .own (.dct false cl), u2, u3, .un] ∧ cl.length ≤ j ∧ ∀ k, (lookK cl (.str k)).getD (.int 0) = .int (lastc (lg.take j) k : Nat)) ⟨rfl, [], _, _, rfl, Nat.le_refl 0, fun k => rfl⟩ (fun _ _ _ _ _ => rfl) ?_ ?_⟩
    · rintro j x env s hj ⟨rfl, cl, u2, u3, rfl, h1, h2⟩
      have hjl := some_lt hj
      refine ⟨_, rfl, ?_⟩
      have h3 := hc j x hj
      have g2 : ∀ s, mthR "get" (.dct false cl) [.str x.1, .int 0] s = some (.int (lastc (lg.take j) x.1 : Nat)) := fun s => by
        show some ((lookK cl (.str x.1)).getD (.int 0)) = _
        rw [h2]
      simp only [s_nil, s_seq, s_frz, z_asg, z_asgO, z_asgR, z_par, z_pn, z_pc, z_aug, z_ex, z_ret, z_retN, z_retR, z_ite, z_brk, z_cont, z_pass, z_setIs, z_tn, w_cst, w_var, w_glo, w_bin, w_neg, w_not, w_and, w_or, w_cmp, w_cmp2, w_ife, w_idx, w_slc, w_no, w_so, w_cno, w_cso, w_tup, w_lst, w_dnew, w_nil, w_cons, w_call, w_blt, w_isi, w_iown, w_iseq, w_rng1, w_rng2b, nxK, varE, assignG, own1, oOf, Ev.putK, viewI, O.d, List.getElem?_cons_zero, List.getElem?_cons_succ, List.set_cons_zero, List.set_cons_succ, Option.some.injEq, exists_eq_left', D.bl.injEq, D.int.injEq, EV.own.injEq, b_add, b_adds, b_addl, b_mull, b_muls, b_sub, b_mul, b_fdiv, b_mod, b_pow, at0, at1, at2, at3, c_lt, c_le, c_gt, c_ge, c_eqi, c_nei, c_eqs, c_nes, c_eqb, Option.map_some, len_lst, len_tup, len_scr, f_abs, f_max, f_min, f_intb, f_inti, f_str, f_list_l, f_list_t, seq_lst, seq_str, seq_scr, ck_no, ite_true, if_true, if_false, Bool.false_eq_true, reduceCtorEq, decide_eq_true_eq, decide_eq_false_iff_not, Bool.not_eq_true', Bool.not_eq_false', Bool.not_true, Bool.not_false, not_true_eq_false, not_false_eq_true, true_and, and_true, forall_const, false_implies, implies_true, lpK, w_rngDb, c_isN, c_isnotN, w_mth, z_mcall, mc_own, mc_ref, z_mcallTo, mt_own, z_setK, si_own, si_ref, mw_app, mw_ext, sw_dct, keyOk_int, keyOk_str, setAll, idx_lst, idx_tup, z_retO, ro_own, fz_own, fz_v, ov_lst, ov_dct, ov_non, ov_int, ov_bl, ov_str, ov_tup, w_callF, w_callO, w_lset, Ev.w_rev, w_fld, w_meth, w_mkI, w_setd, w_dcp, z_setX, z_setF, g2]
      refine ⟨rfl, fun h => by omega, fun _ => ⟨by omega, putD cl (.str x.1) (.int (x.2 : Nat)), _, _, rfl, Nat.le_trans putD_len (by omega), fun k => ?_⟩⟩
      rw [look_put, List.take_succ, hj]
      show _ = D.int ((lastc (lg.take j ++ [x]) k : Nat) : Int)
      rw [lastc_snoc]
      by_cases e : k = x.1
      · subst e
        rw [if_pos rfl, if_pos rfl]
        rfl
      · rw [if_neg (fun z => e (D.str.inj z)), if_neg (fun z => e z.symm)]
        exact h2 k
    · rintro env s ⟨rfl, cl, u2, u3, rfl, h1, h2⟩
      simp only [s_nil, s_seq, s_frz, z_asg, z_asgO, z_asgR, z_par, z_pn, z_pc, z_aug, z_ex, z_ret, z_retN, z_retR, z_ite, z_brk, z_cont, z_pass, z_setIs, z_tn, w_cst, w_var, w_glo, w_bin, w_neg, w_not, w_and, w_or, w_cmp, w_cmp2, w_ife, w_idx, w_slc, w_no, w_so, w_cno, w_cso, w_tup, w_lst, w_dnew, w_nil, w_cons, w_call, w_blt, w_isi, w_iown, w_iseq, w_rng1, w_rng2b, nxK, varE, assignG, own1, oOf, Ev.putK, viewI, O.d, List.getElem?_cons_zero, List.getElem?_cons_succ, List.set_cons_zero, List.set_cons_succ, Option.some.injEq, exists_eq_left', D.bl.injEq, D.int.injEq, EV.own.injEq, b_add, b_adds, b_addl, b_mull, b_muls, b_sub, b_mul, b_fdiv, b_mod, b_pow, at0, at1, at2, at3, c_lt, c_le, c_gt, c_ge, c_eqi, c_nei, c_eqs, c_nes, c_eqb, Option.map_some, len_lst, len_tup, len_scr, f_abs, f_max, f_min, f_intb, f_inti, f_str, f_list_l, f_list_t, seq_lst, seq_str, seq_scr, ck_no, ite_true, if_true, if_false, Bool.false_eq_true, reduceCtorEq, decide_eq_true_eq, decide_eq_false_iff_not, Bool.not_eq_true', Bool.not_eq_false', Bool.not_true, Bool.not_false, not_true_eq_false, not_false_eq_true, true_and, and_true, forall_const, false_implies, implies_true, lpK, w_rngDb, c_isN, c_isnotN, w_mth, z_mcall, mc_own, mc_ref, z_mcallTo, mt_own, z_setK, si_own, si_ref, mw_app, mw_ext, sw_dct, keyOk_int, keyOk_str, setAll, idx_lst, idx_tup, z_retO, ro_own, fz_own, fz_v, ov_lst, ov_dct, ov_non, ov_int, ov_bl, ov_str, ov_tup, w_callF, w_callO, w_lset, Ev.w_rev, w_fld, w_meth, w_mkI, w_setd, w_dcp, z_setX, z_setF]
      exact q
theorem reqcounted_eq [M_require_counted P] {wf n : Nat} {lg : LG} {st : Store} (hz : lg.length ≤ 100000) (ok : okC lg) (hc : Cnt lg) : callF P wf (n + 4) "require_counted" [.lst (lg.map wD)] st = .ok .non st := by
  refine eq_of_all (call_all (cd := cd_require_counted) (env := [.v (.lst (lg.map wD))]) M_require_counted.d_require_counted rfl ?_)
  simp only [s_nil, s_seq, s_frz, z_asg, z_asgO, z_asgR, z_par, z_pn, z_pc, z_aug, z_ex, z_ret, z_retN, z_retR, z_ite, z_brk, z_cont, z_pass, z_setIs, z_tn, w_cst, w_var, w_glo, w_bin, w_neg, w_not, w_and, w_or, w_cmp, w_cmp2, w_ife, w_idx, w_slc, w_no, w_so, w_cno, w_cso, w_tup, w_lst, w_dnew, w_nil, w_cons, w_call, w_blt, w_isi, w_iown, w_iseq, w_rng1, w_rng2b, nxK, varE, assignG, own1, oOf, Ev.putK, viewI, O.d, List.getElem?_cons_zero, List.getElem?_cons_succ, List.set_cons_zero, List.set_cons_succ, Option.some.injEq, exists_eq_left', D.bl.injEq, D.int.injEq, EV.own.injEq, b_add, b_adds, b_addl, b_mull, b_muls, b_sub, b_mul, b_fdiv, b_mod, b_pow, at0, at1, at2, at3, c_lt, c_le, c_gt, c_ge, c_eqi, c_nei, c_eqs, c_nes, c_eqb, Option.map_some, len_lst, len_tup, len_scr, f_abs, f_max, f_min, f_intb, f_inti, f_str, f_list_l, f_list_t, seq_lst, seq_str, seq_scr, ck_no, ite_true, if_true, if_false, Bool.false_eq_true, reduceCtorEq, decide_eq_true_eq, decide_eq_false_iff_not, Bool.not_eq_true', Bool.not_eq_false', Bool.not_true, Bool.not_false, not_true_eq_false, not_false_eq_true, true_and, and_true, forall_const, false_implies, implies_true, lpK, w_rngDb, c_isN, c_isnotN, w_mth, z_mcall, mc_own, mc_ref, z_mcallTo, mt_own, z_setK, si_own, si_ref, mw_app, mw_ext, sw_dct, keyOk_int, keyOk_str, setAll, idx_lst, idx_tup, z_retO, ro_own, fz_own, fz_v, ov_lst, ov_dct, ov_non, ov_int, ov_bl, ov_str, ov_tup, w_callF, w_callO, w_lset, Ev.w_rev, w_fld, w_meth, w_mkI, w_setd, w_dcp, z_setX, z_setF, cd_require_counted]
  exact counted_all hz ok hc ⟨true, rfl, fun h => (by cases h), fun _ => rfl⟩
end FI
/-! FU: queues.py: the counted log of a run -/
open PySem L2 Ev PySem.Spec PyProof.Rows FK FR FQ GV FI
open FB (NL Fr rngL_len in62_of mul_small2 pow_ok2 noLs_strs noLs_of)
namespace FU
def cd_require_run : CDef := ⟨1, 1, [], (.cons (.ite (.not (.call "is_run" (.cons (.var 0) .nil))) (.cons .bad .nil) .nil) .nil)⟩
class M_require_run (P : Prog) : Prop extends M_is_run P where
  d_require_run : assoc P.defs "require_run" = some cd_require_run
def cd_queue_after : CDef := ⟨1, 4, [], (.cons (.par [(0, 2), (2, 3)] (.cons (.mkI "Queue" .nil) (.cons (.lst .nil) .nil))) (.cons (.for_ (.nm 1) (.seq (.var 0)) (.cons (.mcall 3 "extend" (.cons (.meth ["Queue"] "take" (.var 2) (.cons (.var 1) .nil)) .nil)) .nil)) (.cons (.ret (.tup (.cons (.var 2) (.cons (.var 3) .nil)))) .nil)))⟩
class M_queue_after (P : Prog) : Prop extends M_Queue P where
  d_queue_after : assoc P.defs "queue_after" = some cd_queue_after
def cd_shown_by : CDef := ⟨1, 1, [], (.cons (.ex (.call "require_run" (.cons (.var 0) .nil))) (.cons (.ret (.idx (.call "queue_after" (.cons (.var 0) .nil)) (.cst (.int 1)))) .nil))⟩
class M_shown_by (P : Prog) : Prop extends M_queue_after P, M_require_run P where
  d_shown_by : assoc P.defs "shown_by" = some cd_shown_by
def cd_written_keys : CDef := ⟨1, 2, [], (.cons (.ret (.lc [1] (.nm 1) (.seq (.var 0)) (.so (.cmp .eq (.idx (.var 1) (.cst (.int 0))) (.glo "WRITE"))) (.idx (.var 1) (.cst (.int 1))))) .nil)⟩
class M_written_keys (P : Prog) : Prop where
  d_written_keys : assoc P.defs "written_keys" = some cd_written_keys
  g_WRITE : assoc P.glob "WRITE" = some (.str "write")
def cd_writes_of : CDef := ⟨1, 1, [], (.cons (.ex (.call "require_run" (.cons (.var 0) .nil))) (.cons (.retR (.callF "written_keys" (.cons (.var 0) .nil))) .nil))⟩
class M_writes_of (P : Prog) : Prop extends M_written_keys P, M_require_run P where
  d_writes_of : assoc P.defs "writes_of" = some cd_writes_of
variable {P : Prog}
theorem play_pst : ∀ (es : List E) (ws q : List Str) (sh : LG), play q es = (pst es (ws, q, sh)).map (·.2.1)
  | [], ws, q, sh => rfl
  | .send :: es, ws, [], sh => rfl
  | .send :: es, ws, k :: q, sh => play_pst es ws q (sh ++ [(k, ws.count k)])
  | .wr k :: es, ws, q, sh => play_pst es (ws ++ [k]) (ex1 q k) sh
theorem pst_of {es : List E} (h : (play [] es).isSome = true) : ∃ T, pst es ([], [], []) = some T := by
  rw [play_pst es [] [] []] at h
  cases hp : pst es ([], [], []) with
  | none =>
    rw [hp] at h
    cases h
  | some T => exact ⟨T, rfl⟩
theorem noLs_lg (lg : LG) : noLs (lg.map wD) = true := noLs_of fun d hd => by
  obtain ⟨e, _, rfl⟩ := List.mem_map.mp hd
  rfl
theorem inc_count (ws : List Str) (x : Str) : inc (fun k => ws.count k) x = fun k => (ws ++ [x]).count k := by
  funext k
  unfold inc
  rw [List.count_append, List.count_singleton]
  by_cases e : k = x
  · subst e
    rw [if_pos rfl, if_pos (beq_self_eq_true k)]
  · rw [if_neg e, if_neg (show ¬ (x == k) = true from fun z => e (eq_of_beq z).symm), Nat.add_zero]
/-- what is shown has at most so many items, and what is written -/
theorem pst_len : ∀ {es : List E} {t T : PT}, pst es t = some T → T.1.length ≤ t.1.length + es.length ∧ T.2.2.length ≤ t.2.2.length + es.length
  | [], t, T, h => by
    cases h
    exact ⟨Nat.le_refl _, Nat.le_refl _⟩
  | .wr k :: es, (ws, q, sh), T, h => by
    have := pst_len (es := es) (t := (ws ++ [k], ex1 q k, sh)) h
    simp only [List.length_append, List.length_cons, List.length_nil] at this ⊢
    omega
  | .send :: es, (ws, [], sh), T, h => by cases h
  | .send :: es, (ws, k :: q, sh), T, h => by
    have := pst_len (es := es) (t := (ws, q, sh ++ [(k, ws.count k)])) h
    simp only [List.length_append, List.length_cons, List.length_nil] at this ⊢
    omega
theorem rrun_eq [M_require_run P] {wf n : Nat} {es : List E} {st : Store} (he : ∀ e, e ∈ es → e.ok = true) (hz : es.length ≤ 10000) (hg : (play [] es).isSome = true) : callF P wf (n + 5) "require_run" [.lst (es.map E.d)] st = .ok .non st := eq_of_all (by
  have hs : sizeLine = 16777216 := by rw [sizeLine_eq]
  refine call_all (cd := cd_require_run) (env := [.v (.lst (es.map E.d))]) M_require_run.d_require_run rfl ?_
  simp only [s_nil, s_seq, s_frz, z_asg, z_asgO, z_asgR, z_par, z_pn, z_pc, z_aug, z_ex, z_ret, z_retN, z_retR, z_ite, z_brk, z_cont, z_pass, z_setIs, z_tn, w_cst, w_var, w_glo, w_bin, w_neg, w_not, w_and, w_or, w_cmp, w_cmp2, w_ife, w_idx, w_slc, w_no, w_so, w_cno, w_cso, w_tup, w_lst, w_dnew, w_nil, w_cons, w_call, w_blt, w_isi, w_iown, w_iseq, w_rng1, w_rng2b, nxK, varE, assignG, own1, oOf, Ev.putK, viewI, O.d, List.getElem?_cons_zero, List.getElem?_cons_succ, List.set_cons_zero, List.set_cons_succ, Option.some.injEq, exists_eq_left', D.bl.injEq, D.int.injEq, EV.own.injEq, b_add, b_adds, b_addl, b_mull, b_muls, b_sub, b_mul, b_fdiv, b_mod, b_pow, at0, at1, at2, at3, c_lt, c_le, c_gt, c_ge, c_eqi, c_nei, c_eqs, c_nes, c_eqb, Option.map_some, len_lst, len_tup, len_scr, f_abs, f_max, f_min, f_intb, f_inti, f_str, f_list_l, f_list_t, seq_lst, seq_str, seq_scr, ck_no, ite_true, if_true, if_false, Bool.false_eq_true, reduceCtorEq, decide_eq_true_eq, decide_eq_false_iff_not, Bool.not_eq_true', Bool.not_eq_false', Bool.not_true, Bool.not_false, not_true_eq_false, not_false_eq_true, true_and, and_true, forall_const, false_implies, implies_true, lpK, w_rngDb, c_isN, c_isnotN, w_mth, z_mcall, mc_own, mc_ref, z_mcallTo, mt_own, z_setK, si_own, si_ref, mw_app, mw_ext, sw_dct, keyOk_int, keyOk_str, setAll, idx_lst, idx_tup, z_retO, ro_own, fz_own, fz_v, ov_lst, ov_dct, ov_non, ov_int, ov_bl, ov_str, ov_tup, w_callF, w_callO, w_lset, Ev.w_rev, w_fld, w_meth, w_mkI, w_setd, w_dcp, z_setX, z_setF, cd_require_run]
  refine run_all (n := n) he (by omega) (x := .lst (es.map E.d)) (ck := .no) rfl rfl rfl rfl ?_
  rw [hg]
  exact ⟨true, rfl, fun h => (by cases h), fun _ => rfl⟩)
theorem drop_cons {es : List E} {j : Nat} {e : E} (h : es[j]? = some e) : es.drop j = e :: es.drop (j + 1) := by
  have hj := some_lt h
  rw [List.drop_eq_getElem_cons hj]
  rw [List.getElem?_eq_getElem hj] at h
  cases h
  rfl
theorem QS_of {s s' : Store} {l a b m m' : Nat} {ws : List Str} {c c' : Str → Nat} (h : QS s l a b ws c m) (e1 : s'[l]? = s[l]?) (e2 : s'[a]? = s[a]?) (e3 : s'[b]? = s[b]?) (hm : m ≤ m') (hc : c = c') : QS s' l a b ws c' m' := by
  subst hc
  exact { ins := e1.trans h.ins, cnt := (by
    obtain ⟨cl, z1, z2, z3⟩ := h.cnt
    exact ⟨cl, e2.trans z1, by omega, z3⟩), wai := e3.trans h.wai, la := h.la, lb := h.lb, ab := h.ab, len := by have := h.len; omega, pos := h.pos }
theorem after_all [M_queue_after P] {wf n : Nat} {es : List E} {T : PT} {st : Store} {Q : D → Store → Prop} (he : ∀ e, e ∈ es → e.ok = true) (hz : es.length ≤ 10000) (hT : pst es ([], [], []) = some T)
    (q : ∀ st', st'[st.length + 3]? = some (.lst (T.2.2.map wD)) → st'.length = st.length + 4 → (∀ i, i < st.length → st'[i]? = st[i]?) → (NL st → NL st') → Q (.tup [.ref st.length, .ref (st.length + 3)]) st') : (callF P wf (n + 4) "queue_after" [.lst (es.map E.d)] st).all Q := by
  have hs : sizeLine = 16777216 := by rw [sizeLine_eq]
  refine call_all (cd := cd_queue_after) (env := [.v (.lst (es.map E.d)), .un, .un, .un]) M_queue_after.d_queue_after rfl ?_
  simp only [s_nil, s_seq, s_frz, z_asg, z_asgO, z_asgR, z_par, z_pn, z_pc, z_aug, z_ex, z_ret, z_retN, z_retR, z_ite, z_brk, z_cont, z_pass, z_setIs, z_tn, w_cst, w_var, w_glo, w_bin, w_neg, w_not, w_and, w_or, w_cmp, w_cmp2, w_ife, w_idx, w_slc, w_no, w_so, w_cno, w_cso, w_tup, w_lst, w_dnew, w_nil, w_cons, w_call, w_blt, w_isi, w_iown, w_iseq, w_rng1, w_rng2b, nxK, varE, assignG, own1, oOf, Ev.putK, viewI, O.d, List.getElem?_cons_zero, List.getElem?_cons_succ, List.set_cons_zero, List.set_cons_succ, Option.some.injEq, exists_eq_left', D.bl.injEq, D.int.injEq, EV.own.injEq, b_add, b_adds, b_addl, b_mull, b_muls, b_sub, b_mul, b_fdiv, b_mod, b_pow, at0, at1, at2, at3, c_lt, c_le, c_gt, c_ge, c_eqi, c_nei, c_eqs, c_nes, c_eqb, Option.map_some, len_lst, len_tup, len_scr, f_abs, f_max, f_min, f_intb, f_inti, f_str, f_list_l, f_list_t, seq_lst, seq_str, seq_scr, ck_no, ite_true, if_true, if_false, Bool.false_eq_true, reduceCtorEq, decide_eq_true_eq, decide_eq_false_iff_not, Bool.not_eq_true', Bool.not_eq_false', Bool.not_true, Bool.not_false, not_true_eq_false, not_false_eq_true, true_and, and_true, forall_const, false_implies, implies_true, lpK, w_rngDb, c_isN, c_isnotN, w_mth, z_mcall, mc_own, mc_ref, z_mcallTo, mt_own, z_setK, si_own, si_ref, mw_app, mw_ext, sw_dct, keyOk_int, keyOk_str, setAll, idx_lst, idx_tup, z_retO, ro_own, fz_own, fz_v, ov_lst, ov_dct, ov_non, ov_int, ov_bl, ov_str, ov_tup, w_callF, w_callO, w_lset, Ev.w_rev, w_fld, w_meth, w_mkI, w_setd, w_dcp, z_setX, z_setF, cd_queue_after]
  rw [nm_init]
  refine new_all (n := n + 2) fun s1 h1 hl1 hf1 hN1 => ⟨rfl, sm (by simp), ?_⟩
  rw [z_for]
  simp only [s_nil, s_seq, s_frz, z_asg, z_asgO, z_asgR, z_par, z_pn, z_pc, z_aug, z_ex, z_ret, z_retN, z_retR, z_ite, z_brk, z_cont, z_pass, z_setIs, z_tn, w_cst, w_var, w_glo, w_bin, w_neg, w_not, w_and, w_or, w_cmp, w_cmp2, w_ife, w_idx, w_slc, w_no, w_so, w_cno, w_cso, w_tup, w_lst, w_dnew, w_nil, w_cons, w_call, w_blt, w_isi, w_iown, w_iseq, w_rng1, w_rng2b, nxK, varE, assignG, own1, oOf, Ev.putK, viewI, O.d, List.getElem?_cons_zero, List.getElem?_cons_succ, List.set_cons_zero, List.set_cons_succ, Option.some.injEq, exists_eq_left', D.bl.injEq, D.int.injEq, EV.own.injEq, b_add, b_adds, b_addl, b_mull, b_muls, b_sub, b_mul, b_fdiv, b_mod, b_pow, at0, at1, at2, at3, c_lt, c_le, c_gt, c_ge, c_eqi, c_nei, c_eqs, c_nes, c_eqb, Option.map_some, len_lst, len_tup, len_scr, f_abs, f_max, f_min, f_intb, f_inti, f_str, f_list_l, f_list_t, seq_lst, seq_str, seq_scr, ck_no, ite_true, if_true, if_false, Bool.false_eq_true, reduceCtorEq, decide_eq_true_eq, decide_eq_false_iff_not, Bool.not_eq_true', Bool.not_eq_false', Bool.not_true, Bool.not_false, not_true_eq_false, not_false_eq_true, true_and, and_true, forall_const, false_implies, implies_true, lpK, w_rngDb, c_isN, c_isnotN, w_mth, z_mcall, mc_own, mc_ref, z_mcallTo, mt_own, z_setK, si_own, si_ref, mw_app, mw_ext, sw_dct, keyOk_int, keyOk_str, setAll, idx_lst, idx_tup, z_retO, ro_own, fz_own, fz_v, ov_lst, ov_dct, ov_non, ov_int, ov_bl, ov_str, ov_tup, w_callF, w_callO, w_lset, Ev.w_rev, w_fld, w_meth, w_mkI, w_setd, w_dcp, z_setX, z_setF]
  rw [hl1]
  refine ⟨rfl, for_map (fun j e s => ∃ (t : PT) (u : EV), e = [.v (.lst (es.map E.d)), u, .v (.ref st.length), .v (.ref (st.length + 3))] ∧ pst (es.drop j) t = some T ∧ QS s st.length (st.length + 1) (st.length + 2) t.2.1 (fun k => t.1.count k) j ∧ s[st.length + 3]? = some (.lst (t.2.2.map wD)) ∧ t.2.2.length ≤ j ∧ s.length = st.length + 4 ∧ (∀ i, i < st.length → s[i]? = st[i]?) ∧ (NL st → NL s))
    ⟨([], [], []), _, rfl, hT, ?_, ?_, Nat.le_refl _, by rw [List.length_append, hl1]; rfl, fun i hi => by rw [List.getElem?_append_left (by omega)]; exact hf1 i hi, fun hN => (hN1 hN).push (o := .lst []) rfl⟩ (fun _ _ _ _ _ => rfl) ?_ ?_⟩
  · exact QS_of h1 (List.getElem?_append_left (by omega)) (List.getElem?_append_left (by omega)) (List.getElem?_append_left (by omega)) (Nat.le_refl _) rfl
  · rw [← hl1, List.getElem?_append_right (Nat.le_refl _), Nat.sub_self]
    rfl
  · rintro j e env s hj ⟨t, u, rfl, g1, g2, g3, g4, g5, g6, g7⟩
    refine ⟨_, rfl, ?_⟩
    have hjl := some_lt hj
    rw [drop_cons hj] at g1
    have g1 : (pS t e).bind (pst (es.drop (j + 1))) = some T := g1
    obtain ⟨ws, qq, sh⟩ := t
    have hext : ∀ s2, QF (st.length + 1) (st.length + 2) s s2 → s2[st.length + 3]? = some (.lst (sh.map wD)) := fun s2 h => (h.2.1 _ (by omega) (by omega)).trans g3
    simp only [s_nil, s_seq, s_frz, z_asg, z_asgO, z_asgR, z_par, z_pn, z_pc, z_aug, z_ex, z_ret, z_retN, z_retR, z_ite, z_brk, z_cont, z_pass, z_setIs, z_tn, w_cst, w_var, w_glo, w_bin, w_neg, w_not, w_and, w_or, w_cmp, w_cmp2, w_ife, w_idx, w_slc, w_no, w_so, w_cno, w_cso, w_tup, w_lst, w_dnew, w_nil, w_cons, w_call, w_blt, w_isi, w_iown, w_iseq, w_rng1, w_rng2b, nxK, varE, assignG, own1, oOf, Ev.putK, viewI, O.d, List.getElem?_cons_zero, List.getElem?_cons_succ, List.set_cons_zero, List.set_cons_succ, Option.some.injEq, exists_eq_left', D.bl.injEq, D.int.injEq, EV.own.injEq, b_add, b_adds, b_addl, b_mull, b_muls, b_sub, b_mul, b_fdiv, b_mod, b_pow, at0, at1, at2, at3, c_lt, c_le, c_gt, c_ge, c_eqi, c_nei, c_eqs, c_nes, c_eqb, Option.map_some, len_lst, len_tup, len_scr, f_abs, f_max, f_min, f_intb, f_inti, f_str, f_list_l, f_list_t, seq_lst, seq_str, seq_scr, ck_no, ite_true, if_true, if_false, Bool.false_eq_true, reduceCtorEq, decide_eq_true_eq, decide_eq_false_iff_not, Bool.not_eq_true', Bool.not_eq_false', Bool.not_true, Bool.not_false, not_true_eq_false, not_false_eq_true, true_and, and_true, forall_const, false_implies, implies_true, lpK, w_rngDb, c_isN, c_isnotN, w_mth, z_mcall, mc_own, mc_ref, z_mcallTo, mt_own, z_setK, si_own, si_ref, mw_app, mw_ext, sw_dct, keyOk_int, keyOk_str, setAll, idx_lst, idx_tup, z_retO, ro_own, fz_own, fz_v, ov_lst, ov_dct, ov_non, ov_int, ov_bl, ov_str, ov_tup, w_callF, w_callO, w_lset, Ev.w_rev, w_fld, w_meth, w_mkI, w_setd, w_dcp, z_setX, z_setF, g2.ins, D.ref.injEq]
    cases e with
    | send =>
      cases qq with
      | nil => cases g1
      | cons k qq =>
        have g1 : pst (es.drop (j + 1)) (ws, qq, sh ++ [(k, ws.count k)]) = some T := g1
        refine ⟨_, _, rfl, ⟨by decide, by simp [assoc]⟩, ?_⟩
        rw [nm_take]
        refine takeS_all (n := n) g2 (by omega) fun s2 k1 k2 => ?_
        have e3 := hext s2 k2
        have l2 := k2.1
        have g4 : sh.length ≤ j := g4
        refine ⟨_, e3, mw_ext.mpr ⟨by rw [List.length_map]; simp only [List.length_cons, List.length_nil]; omega, ⟨_, g3⟩, (ws, qq, sh ++ [(k, ws.count k)]), _, rfl, g1, QS_of k1 ?_ ?_ ?_ (by omega) rfl, ?_, ?_, by rw [List.length_set, l2, g5], fun i hi => ?_, fun hN => ?_⟩⟩
        · rw [List.getElem?_set_ne (by omega)]
        · rw [List.getElem?_set_ne (by omega)]
        · rw [List.getElem?_set_ne (by omega)]
        · rw [List.getElem?_set_self (some_lt e3), List.map_append]
          rfl
        · rw [List.length_append, List.length_singleton]
          omega
        · rw [List.getElem?_set_ne (by omega), k2.2.1 i (by omega) (by omega), g6 i hi]
        · refine (k2.2.2 (g7 hN)).set (o := .lst _) ?_ _
          have := noLs_lg (sh ++ [(k, ws.count k)])
          rw [List.map_append] at this
          exact this
    | wr k =>
      have g1 : pst (es.drop (j + 1)) (ws ++ [k], ex1 qq k, sh) = some T := g1
      refine ⟨_, _, rfl, ⟨by decide, by simp [assoc]⟩, ?_⟩
      rw [nm_take]
      refine takeW_all (n := n) g2 (by omega) fun s2 k1 k2 => ?_
      have e3 := hext s2 k2
      have l2 := k2.1
      have g4 : sh.length ≤ j := g4
      refine ⟨_, e3, mw_ext.mpr ⟨by rw [List.length_map, List.length_nil]; omega, ⟨_, g3⟩, (ws ++ [k], ex1 qq k, sh), _, rfl, g1, QS_of k1 ?_ ?_ ?_ (by omega) (inc_count ws k), ?_, ?_, by rw [List.length_set, l2, g5], fun i hi => ?_, fun hN => ?_⟩⟩
      · rw [List.getElem?_set_ne (by omega)]
      · rw [List.getElem?_set_ne (by omega)]
      · rw [List.getElem?_set_ne (by omega)]
      · rw [List.getElem?_set_self (some_lt e3), List.append_nil]
      · exact Nat.le_succ_of_le g4
      · rw [List.getElem?_set_ne (by omega), k2.2.1 i (by omega) (by omega), g6 i hi]
      · refine (k2.2.2 (g7 hN)).set (o := .lst _) ?_ _
        rw [List.append_nil]
        exact noLs_lg sh
  · rintro env s ⟨t, u, rfl, g1, g2, g3, g4, g5, g6, g7⟩
    rw [List.drop_length] at g1
    cases g1
    simp only [s_nil, s_seq, s_frz, z_asg, z_asgO, z_asgR, z_par, z_pn, z_pc, z_aug, z_ex, z_ret, z_retN, z_retR, z_ite, z_brk, z_cont, z_pass, z_setIs, z_tn, w_cst, w_var, w_glo, w_bin, w_neg, w_not, w_and, w_or, w_cmp, w_cmp2, w_ife, w_idx, w_slc, w_no, w_so, w_cno, w_cso, w_tup, w_lst, w_dnew, w_nil, w_cons, w_call, w_blt, w_isi, w_iown, w_iseq, w_rng1, w_rng2b, nxK, varE, assignG, own1, oOf, Ev.putK, viewI, O.d, List.getElem?_cons_zero, List.getElem?_cons_succ, List.set_cons_zero, List.set_cons_succ, Option.some.injEq, exists_eq_left', D.bl.injEq, D.int.injEq, EV.own.injEq, b_add, b_adds, b_addl, b_mull, b_muls, b_sub, b_mul, b_fdiv, b_mod, b_pow, at0, at1, at2, at3, c_lt, c_le, c_gt, c_ge, c_eqi, c_nei, c_eqs, c_nes, c_eqb, Option.map_some, len_lst, len_tup, len_scr, f_abs, f_max, f_min, f_intb, f_inti, f_str, f_list_l, f_list_t, seq_lst, seq_str, seq_scr, ck_no, ite_true, if_true, if_false, Bool.false_eq_true, reduceCtorEq, decide_eq_true_eq, decide_eq_false_iff_not, Bool.not_eq_true', Bool.not_eq_false', Bool.not_true, Bool.not_false, not_true_eq_false, not_false_eq_true, true_and, and_true, forall_const, false_implies, implies_true, lpK, w_rngDb, c_isN, c_isnotN, w_mth, z_mcall, mc_own, mc_ref, z_mcallTo, mt_own, z_setK, si_own, si_ref, mw_app, mw_ext, sw_dct, keyOk_int, keyOk_str, setAll, idx_lst, idx_tup, z_retO, ro_own, fz_own, fz_v, ov_lst, ov_dct, ov_non, ov_int, ov_bl, ov_str, ov_tup, w_callF, w_callO, w_lset, Ev.w_rev, w_fld, w_meth, w_mkI, w_setd, w_dcp, z_setX, z_setF]
    exact ⟨sm (by simp), q s g3 g5 g6 g7⟩
theorem shown_all [M_shown_by P] {wf n : Nat} {es : List E} {T : PT} {st : Store} {Q : D → Store → Prop} (he : ∀ e, e ∈ es → e.ok = true) (hz : es.length ≤ 10000) (hT : pst es ([], [], []) = some T)
    (q : ∀ st', st'[st.length + 3]? = some (.lst (T.2.2.map wD)) → st'.length = st.length + 4 → (∀ i, i < st.length → st'[i]? = st[i]?) → (NL st → NL st') → Q (.ref (st.length + 3)) st') : (callF P wf (n + 6) "shown_by" [.lst (es.map E.d)] st).all Q := by
  refine call_all (cd := cd_shown_by) (env := [.v (.lst (es.map E.d))]) M_shown_by.d_shown_by rfl ?_
  have hg : (play [] es).isSome = true := by
    rw [play_pst es [] [] [], hT]
    rfl
  simp only [s_nil, s_seq, s_frz, z_asg, z_asgO, z_asgR, z_par, z_pn, z_pc, z_aug, z_ex, z_ret, z_retN, z_retR, z_ite, z_brk, z_cont, z_pass, z_setIs, z_tn, w_cst, w_var, w_glo, w_bin, w_neg, w_not, w_and, w_or, w_cmp, w_cmp2, w_ife, w_idx, w_slc, w_no, w_so, w_cno, w_cso, w_tup, w_lst, w_dnew, w_nil, w_cons, w_call, w_blt, w_isi, w_iown, w_iseq, w_rng1, w_rng2b, nxK, varE, assignG, own1, oOf, Ev.putK, viewI, O.d, List.getElem?_cons_zero, List.getElem?_cons_succ, List.set_cons_zero, List.set_cons_succ, Option.some.injEq, exists_eq_left', D.bl.injEq, D.int.injEq, EV.own.injEq, b_add, b_adds, b_addl, b_mull, b_muls, b_sub, b_mul, b_fdiv, b_mod, b_pow, at0, at1, at2, at3, c_lt, c_le, c_gt, c_ge, c_eqi, c_nei, c_eqs, c_nes, c_eqb, Option.map_some, len_lst, len_tup, len_scr, f_abs, f_max, f_min, f_intb, f_inti, f_str, f_list_l, f_list_t, seq_lst, seq_str, seq_scr, ck_no, ite_true, if_true, if_false, Bool.false_eq_true, reduceCtorEq, decide_eq_true_eq, decide_eq_false_iff_not, Bool.not_eq_true', Bool.not_eq_false', Bool.not_true, Bool.not_false, not_true_eq_false, not_false_eq_true, true_and, and_true, forall_const, false_implies, implies_true, lpK, w_rngDb, c_isN, c_isnotN, w_mth, z_mcall, mc_own, mc_ref, z_mcallTo, mt_own, z_setK, si_own, si_ref, mw_app, mw_ext, sw_dct, keyOk_int, keyOk_str, setAll, idx_lst, idx_tup, z_retO, ro_own, fz_own, fz_v, ov_lst, ov_dct, ov_non, ov_int, ov_bl, ov_str, ov_tup, w_callF, w_callO, w_lset, Ev.w_rev, w_fld, w_meth, w_mkI, w_setd, w_dcp, z_setX, z_setF, cd_shown_by, rrun_eq (P := P) (wf := wf) (n := n) (st := st) he hz hg, all_ok]
  refine after_all (n := n + 1) he hz hT fun s1 h1 h2 h3 h4 => ?_
  exact ⟨_, at1, q s1 h1 h2 h3 h4⟩
def wrs : List E → List Str
  | [] => []
  | .send :: r => wrs r
  | .wr k :: r => k :: wrs r
theorem wrs_pst : ∀ {es : List E} {t T : PT}, pst es t = some T → T.1 = t.1 ++ wrs es
  | [], t, T, h => by
    cases h
    simp [wrs]
  | .wr k :: es, (ws, q, sh), T, h => by
    rw [wrs_pst (es := es) (t := (ws ++ [k], ex1 q k, sh)) h]
    simp [wrs]
  | .send :: es, (ws, [], sh), T, h => by cases h
  | .send :: es, (ws, k :: q, sh), T, h => by
    rw [wrs_pst (es := es) (t := (ws, q, sh ++ [(k, ws.count k)])) h]
    rfl
def isW : E → Bool
  | .wr _ => true
  | .send => false
def keyE : E → D
  | .wr k => .str k
  | .send => .non
theorem wrs_eq : ∀ es : List E, (es.filter isW).map keyE = (wrs es).map .str
  | [] => rfl
  | .send :: r => wrs_eq r
  | .wr k :: r => by
    show D.str k :: (r.filter isW).map keyE = D.str k :: (wrs r).map .str
    rw [wrs_eq r]
theorem keys_eq [M_written_keys P] {wf n : Nat} {es : List E} {st : Store} (hz : es.length ≤ 10000) : callF P wf (n + 1) "written_keys" [.lst (es.map E.d)] st = .ok (.lst ((wrs es).map .str)) st := eq_of_all (by
  have hs : sizeLine = 16777216 := by rw [sizeLine_eq]
  refine call_all (cd := cd_written_keys) (env := [.v (.lst (es.map E.d)), .un]) M_written_keys.d_written_keys rfl ?_
  have e := lc_eq (cl := callF P wf n) (gl := assoc P.glob) (w := false) (env := [.v (.lst (es.map E.d)), .un]) (st := st) (vs := [1]) (g := .nm 1) (it := .seq (.var 0)) (cnd := .so (.cmp .eq (.idx (.var 1) (.cst (.int 0))) (.glo "WRITE"))) (e := .idx (.var 1) (.cst (.int 1))) (ck := .no) E.d isW keyE (l := es) (by
    simp only [s_nil, s_seq, s_frz, z_asg, z_asgO, z_asgR, z_par, z_pn, z_pc, z_aug, z_ex, z_ret, z_retN, z_retR, z_ite, z_brk, z_cont, z_pass, z_setIs, z_tn, w_cst, w_var, w_glo, w_bin, w_neg, w_not, w_and, w_or, w_cmp, w_cmp2, w_ife, w_idx, w_slc, w_no, w_so, w_cno, w_cso, w_tup, w_lst, w_dnew, w_nil, w_cons, w_call, w_blt, w_isi, w_iown, w_iseq, w_rng1, w_rng2b, nxK, varE, assignG, own1, oOf, Ev.putK, viewI, O.d, List.getElem?_cons_zero, List.getElem?_cons_succ, List.set_cons_zero, List.set_cons_succ, Option.some.injEq, exists_eq_left', D.bl.injEq, D.int.injEq, EV.own.injEq, b_add, b_adds, b_addl, b_mull, b_muls, b_sub, b_mul, b_fdiv, b_mod, b_pow, at0, at1, at2, at3, c_lt, c_le, c_gt, c_ge, c_eqi, c_nei, c_eqs, c_nes, c_eqb, Option.map_some, len_lst, len_tup, len_scr, f_abs, f_max, f_min, f_intb, f_inti, f_str, f_list_l, f_list_t, seq_lst, seq_str, seq_scr, ck_no, ite_true, if_true, if_false, Bool.false_eq_true, reduceCtorEq, decide_eq_true_eq, decide_eq_false_iff_not, Bool.not_eq_true', Bool.not_eq_false', Bool.not_true, Bool.not_false, not_true_eq_false, not_false_eq_true, true_and, and_true, forall_const, false_implies, implies_true, lpK, w_rngDb, c_isN, c_isnotN, w_mth, z_mcall, mc_own, mc_ref, z_mcallTo, mt_own, z_setK, si_own, si_ref, mw_app, mw_ext, sw_dct, keyOk_int, keyOk_str, setAll, idx_lst, idx_tup, z_retO, ro_own, fz_own, fz_v, ov_lst, ov_dct, ov_non, ov_int, ov_bl, ov_str, ov_tup, w_callF, w_callO, w_lset, Ev.w_rev, w_fld, w_meth, w_mkI, w_setd, w_dcp, z_setX, z_setF]) rfl (by omega) fun a ha => ⟨_, rfl, ?_, fun h => ?_⟩
  · rw [cd_written_keys, s_seq, z_ret, e, all_ok]
    exact ⟨by rw [wrs_eq], rfl⟩
  · cases a with
    | send =>
      have i0 : ∀ s, idxop E.send.d (.int 0) s = some (.str "send") := fun s => at0
      simp only [s_nil, s_seq, s_frz, z_asg, z_asgO, z_asgR, z_par, z_pn, z_pc, z_aug, z_ex, z_ret, z_retN, z_retR, z_ite, z_brk, z_cont, z_pass, z_setIs, z_tn, w_cst, w_var, w_glo, w_bin, w_neg, w_not, w_and, w_or, w_cmp, w_cmp2, w_ife, w_idx, w_slc, w_no, w_so, w_cno, w_cso, w_tup, w_lst, w_dnew, w_nil, w_cons, w_call, w_blt, w_isi, w_iown, w_iseq, w_rng1, w_rng2b, nxK, varE, assignG, own1, oOf, Ev.putK, viewI, O.d, List.getElem?_cons_zero, List.getElem?_cons_succ, List.set_cons_zero, List.set_cons_succ, Option.some.injEq, exists_eq_left', D.bl.injEq, D.int.injEq, EV.own.injEq, b_add, b_adds, b_addl, b_mull, b_muls, b_sub, b_mul, b_fdiv, b_mod, b_pow, at0, at1, at2, at3, c_lt, c_le, c_gt, c_ge, c_eqi, c_nei, c_eqs, c_nes, c_eqb, Option.map_some, len_lst, len_tup, len_scr, f_abs, f_max, f_min, f_intb, f_inti, f_str, f_list_l, f_list_t, seq_lst, seq_str, seq_scr, ck_no, ite_true, if_true, if_false, Bool.false_eq_true, reduceCtorEq, decide_eq_true_eq, decide_eq_false_iff_not, Bool.not_eq_true', Bool.not_eq_false', Bool.not_true, Bool.not_false, not_true_eq_false, not_false_eq_true, true_and, and_true, forall_const, false_implies, implies_true, lpK, w_rngDb, c_isN, c_isnotN, w_mth, z_mcall, mc_own, mc_ref, z_mcallTo, mt_own, z_setK, si_own, si_ref, mw_app, mw_ext, sw_dct, keyOk_int, keyOk_str, setAll, idx_lst, idx_tup, z_retO, ro_own, fz_own, fz_v, ov_lst, ov_dct, ov_non, ov_int, ov_bl, ov_str, ov_tup, w_callF, w_callO, w_lset, Ev.w_rev, w_fld, w_meth, w_mkI, w_setd, w_dcp, z_setX, z_setF, wipeE, i0, M_written_keys.g_WRITE (P := P)]
      exact decide_eq_false (by decide +kernel)
    | wr k =>
      have i0 : ∀ s, idxop (E.wr k).d (.int 0) s = some (.str "write") := fun s => at0
      simp only [s_nil, s_seq, s_frz, z_asg, z_asgO, z_asgR, z_par, z_pn, z_pc, z_aug, z_ex, z_ret, z_retN, z_retR, z_ite, z_brk, z_cont, z_pass, z_setIs, z_tn, w_cst, w_var, w_glo, w_bin, w_neg, w_not, w_and, w_or, w_cmp, w_cmp2, w_ife, w_idx, w_slc, w_no, w_so, w_cno, w_cso, w_tup, w_lst, w_dnew, w_nil, w_cons, w_call, w_blt, w_isi, w_iown, w_iseq, w_rng1, w_rng2b, nxK, varE, assignG, own1, oOf, Ev.putK, viewI, O.d, List.getElem?_cons_zero, List.getElem?_cons_succ, List.set_cons_zero, List.set_cons_succ, Option.some.injEq, exists_eq_left', D.bl.injEq, D.int.injEq, EV.own.injEq, b_add, b_adds, b_addl, b_mull, b_muls, b_sub, b_mul, b_fdiv, b_mod, b_pow, at0, at1, at2, at3, c_lt, c_le, c_gt, c_ge, c_eqi, c_nei, c_eqs, c_nes, c_eqb, Option.map_some, len_lst, len_tup, len_scr, f_abs, f_max, f_min, f_intb, f_inti, f_str, f_list_l, f_list_t, seq_lst, seq_str, seq_scr, ck_no, ite_true, if_true, if_false, Bool.false_eq_true, reduceCtorEq, decide_eq_true_eq, decide_eq_false_iff_not, Bool.not_eq_true', Bool.not_eq_false', Bool.not_true, Bool.not_false, not_true_eq_false, not_false_eq_true, true_and, and_true, forall_const, false_implies, implies_true, lpK, w_rngDb, c_isN, c_isnotN, w_mth, z_mcall, mc_own, mc_ref, z_mcallTo, mt_own, z_setK, si_own, si_ref, mw_app, mw_ext, sw_dct, keyOk_int, keyOk_str, setAll, idx_lst, idx_tup, z_retO, ro_own, fz_own, fz_v, ov_lst, ov_dct, ov_non, ov_int, ov_bl, ov_str, ov_tup, w_callF, w_callO, w_lset, Ev.w_rev, w_fld, w_meth, w_mkI, w_setd, w_dcp, z_setX, z_setF, wipeE, i0, M_written_keys.g_WRITE (P := P)]
      exact decide_eq_true trivial
  · cases a with
    | send => cases h
    | wr k =>
      have i1 : ∀ s, idxop (E.wr k).d (.int 1) s = some (.str k) := fun s => at1
      simp only [s_nil, s_seq, s_frz, z_asg, z_asgO, z_asgR, z_par, z_pn, z_pc, z_aug, z_ex, z_ret, z_retN, z_retR, z_ite, z_brk, z_cont, z_pass, z_setIs, z_tn, w_cst, w_var, w_glo, w_bin, w_neg, w_not, w_and, w_or, w_cmp, w_cmp2, w_ife, w_idx, w_slc, w_no, w_so, w_cno, w_cso, w_tup, w_lst, w_dnew, w_nil, w_cons, w_call, w_blt, w_isi, w_iown, w_iseq, w_rng1, w_rng2b, nxK, varE, assignG, own1, oOf, Ev.putK, viewI, O.d, List.getElem?_cons_zero, List.getElem?_cons_succ, List.set_cons_zero, List.set_cons_succ, Option.some.injEq, exists_eq_left', D.bl.injEq, D.int.injEq, EV.own.injEq, b_add, b_adds, b_addl, b_mull, b_muls, b_sub, b_mul, b_fdiv, b_mod, b_pow, at0, at1, at2, at3, c_lt, c_le, c_gt, c_ge, c_eqi, c_nei, c_eqs, c_nes, c_eqb, Option.map_some, len_lst, len_tup, len_scr, f_abs, f_max, f_min, f_intb, f_inti, f_str, f_list_l, f_list_t, seq_lst, seq_str, seq_scr, ck_no, ite_true, if_true, if_false, Bool.false_eq_true, reduceCtorEq, decide_eq_true_eq, decide_eq_false_iff_not, Bool.not_eq_true', Bool.not_eq_false', Bool.not_true, Bool.not_false, not_true_eq_false, not_false_eq_true, true_and, and_true, forall_const, false_implies, implies_true, lpK, w_rngDb, c_isN, c_isnotN, w_mth, z_mcall, mc_own, mc_ref, z_mcallTo, mt_own, z_setK, si_own, si_ref, mw_app, mw_ext, sw_dct, keyOk_int, keyOk_str, setAll, idx_lst, idx_tup, z_retO, ro_own, fz_own, fz_v, ov_lst, ov_dct, ov_non, ov_int, ov_bl, ov_str, ov_tup, w_callF, w_callO, w_lset, Ev.w_rev, w_fld, w_meth, w_mkI, w_setd, w_dcp, z_setX, z_setF, wipeE, i1]
      rfl)
theorem writes_all [M_writes_of P] {wf n : Nat} {es : List E} {st : Store} {Q : D → Store → Prop} (he : ∀ e, e ∈ es → e.ok = true) (hz : es.length ≤ 10000) (hg : (play [] es).isSome = true)
    (q : Q (.ref st.length) (st ++ [.lst ((wrs es).map .str)])) : (callF P wf (n + 6) "writes_of" [.lst (es.map E.d)] st).all Q := by
  refine call_all (cd := cd_writes_of) (env := [.v (.lst (es.map E.d))]) M_writes_of.d_writes_of rfl ?_
  simp only [s_nil, s_seq, s_frz, z_asg, z_asgO, z_asgR, z_par, z_pn, z_pc, z_aug, z_ex, z_ret, z_retN, z_retR, z_ite, z_brk, z_cont, z_pass, z_setIs, z_tn, w_cst, w_var, w_glo, w_bin, w_neg, w_not, w_and, w_or, w_cmp, w_cmp2, w_ife, w_idx, w_slc, w_no, w_so, w_cno, w_cso, w_tup, w_lst, w_dnew, w_nil, w_cons, w_call, w_blt, w_isi, w_iown, w_iseq, w_rng1, w_rng2b, nxK, varE, assignG, own1, oOf, Ev.putK, viewI, O.d, List.getElem?_cons_zero, List.getElem?_cons_succ, List.set_cons_zero, List.set_cons_succ, Option.some.injEq, exists_eq_left', D.bl.injEq, D.int.injEq, EV.own.injEq, b_add, b_adds, b_addl, b_mull, b_muls, b_sub, b_mul, b_fdiv, b_mod, b_pow, at0, at1, at2, at3, c_lt, c_le, c_gt, c_ge, c_eqi, c_nei, c_eqs, c_nes, c_eqb, Option.map_some, len_lst, len_tup, len_scr, f_abs, f_max, f_min, f_intb, f_inti, f_str, f_list_l, f_list_t, seq_lst, seq_str, seq_scr, ck_no, ite_true, if_true, if_false, Bool.false_eq_true, reduceCtorEq, decide_eq_true_eq, decide_eq_false_iff_not, Bool.not_eq_true', Bool.not_eq_false', Bool.not_true, Bool.not_false, not_true_eq_false, not_false_eq_true, true_and, and_true, forall_const, false_implies, implies_true, lpK, w_rngDb, c_isN, c_isnotN, w_mth, z_mcall, mc_own, mc_ref, z_mcallTo, mt_own, z_setK, si_own, si_ref, mw_app, mw_ext, sw_dct, keyOk_int, keyOk_str, setAll, idx_lst, idx_tup, z_retO, ro_own, fz_own, fz_v, ov_lst, ov_dct, ov_non, ov_int, ov_bl, ov_str, ov_tup, w_callF, w_callO, w_lset, Ev.w_rev, w_fld, w_meth, w_mkI, w_setd, w_dcp, z_setX, z_setF, cd_writes_of, rrun_eq (P := P) (wf := wf) (n := n) (st := st) he hz hg, keys_eq (P := P) (wf := wf) (n := n + 4) (st := st) (es := es) hz, all_ok]
  exact q
end FU
open PySem L2 Ev PySem.Spec PyProof.Rows
open FK FR FG FQ FU
namespace K05
def cd_is_key : CDef := ⟨1, 2, [], (.cons (.ite (.or (.not (.isi (.var 0) "str")) (.or (.not (.cmp2 .le .le (.cst (.int 1)) (.blt "len" (.cons (.var 0) .nil)) (.glo "MOST_CHARACTERS"))) (.cmp .notin (.idx (.var 0) (.cst (.int 0))) (.glo "LETTERS")))) (.cons (.ret (.cst (.bl false))) .nil) .nil) (.cons (.ret (.blt "all" (.cons (.lc [1] (.nm 1) (.seq (.var 0)) .no (.cmp .isin (.var 1) (.glo "CHARACTERS"))) .nil))) .nil))⟩
def cd_is_event : CDef := ⟨1, 1, [], (.cons (.ite (.or (.not (.isi (.var 0) "tuple")) (.or (.cmp .eq (.var 0) (.tup .nil)) (.not (.isi (.idx (.var 0) (.cst (.int 0))) "str")))) (.cons (.ret (.cst (.bl false))) .nil) .nil) (.cons (.ite (.cmp .eq (.blt "len" (.cons (.var 0) .nil)) (.cst (.int 2))) (.cons (.ret (.and (.cmp .eq (.idx (.var 0) (.cst (.int 0))) (.glo "WRITE")) (.call "is_key" (.cons (.idx (.var 0) (.cst (.int 1))) .nil)))) .nil) .nil) (.cons (.ret (.cmp .eq (.var 0) (.tup (.cons (.glo "SEND") .nil)))) .nil)))⟩
def cd_are_events : CDef := ⟨1, 2, [], (.cons (.ret (.and (.isi (.var 0) "list") (.blt "all" (.cons (.lc [1] (.nm 1) (.seq (.var 0)) .no (.call "is_event" (.cons (.var 1) .nil))) .nil)))) .nil)⟩
def cd_is_run : CDef := ⟨1, 3, [], (.cons (.ite (.not (.call "are_events" (.cons (.var 0) .nil))) (.cons (.ret (.cst (.bl false))) .nil) .nil) (.cons (.asgO 1 (.lst .nil)) (.cons (.for_ (.nm 2) (.seq (.var 0)) (.cons (.ite (.cmp .eq (.var 2) (.tup (.cons (.glo "SEND") .nil))) (.cons (.ite (.cmp .eq (.var 1) (.lst .nil)) (.cons (.ret (.cst (.bl false))) .nil) .nil) (.cons (.mcall 1 "pop" (.cons (.cst (.int 0)) .nil)) .nil)) (.cons (.ite (.cmp .notin (.idx (.var 2) (.cst (.int 1))) (.var 1)) (.cons (.mcall 1 "append" (.cons (.idx (.var 2) (.cst (.int 1))) .nil)) .nil) .nil) .nil)) .nil)) (.cons (.ret (.cst (.bl true))) .nil))))⟩
def cd_require_run : CDef := ⟨1, 1, [], (.cons (.ite (.not (.call "is_run" (.cons (.var 0) .nil))) (.cons .bad .nil) .nil) .nil)⟩
def cd_Queue___init__ : CDef := ⟨1, 1, [], (.cons (.setF true "Queue" (.var 0) "kept_counts" (.dnew false)) (.cons (.setF true "Queue" (.var 0) "kept_waiting" (.lst .nil)) .nil))⟩
def cd_Queue_take_write : CDef := ⟨2, 2, [], (.cons (.setX (.fld (.var 0) "kept_counts") (.var 1) (.bin .add (.mth "get" (.fld (.var 0) "kept_counts") (.cons (.var 1) (.cons (.cst (.int 0)) .nil))) (.cst (.int 1)))) (.cons (.ite (.cmp .notin (.var 1) (.fld (.var 0) "kept_waiting")) (.cons (.ex (.mutX "append" (.fld (.var 0) "kept_waiting") (.cons (.var 1) .nil))) .nil) .nil) .nil))⟩
def cd_Queue_take_send : CDef := ⟨1, 1, [], (.cons (.ret (.meth ["Queue"] "present_write" (.var 0) (.cons (.mutX "pop" (.fld (.var 0) "kept_waiting") (.cons (.cst (.int 0)) .nil)) .nil))) .nil)⟩
def cd_Queue_present_write : CDef := ⟨2, 2, [], (.cons (.ret (.tup (.cons (.var 1) (.cons (.idx (.fld (.var 0) "kept_counts") (.var 1)) .nil)))) .nil)⟩
def cd_Queue_take : CDef := ⟨2, 2, [], (.cons (.ite (.cmp .eq (.idx (.var 1) (.cst (.int 0))) (.glo "SEND")) (.cons (.ret (.lst (.cons (.meth ["Queue"] "take_send" (.var 0) .nil) .nil))) .nil) .nil) (.cons (.ex (.meth ["Queue"] "take_write" (.var 0) (.cons (.idx (.var 1) (.cst (.int 1))) .nil))) (.cons (.ret (.lst .nil)) .nil)))⟩
def cd_queue_after : CDef := ⟨1, 4, [], (.cons (.par [(0, 2), (2, 3)] (.cons (.mkI "Queue" .nil) (.cons (.lst .nil) .nil))) (.cons (.for_ (.nm 1) (.seq (.var 0)) (.cons (.mcall 3 "extend" (.cons (.meth ["Queue"] "take" (.var 2) (.cons (.var 1) .nil)) .nil)) .nil)) (.cons (.ret (.tup (.cons (.var 2) (.cons (.var 3) .nil)))) .nil)))⟩
def cd_written_keys : CDef := ⟨1, 2, [], (.cons (.ret (.lc [1] (.nm 1) (.seq (.var 0)) (.so (.cmp .eq (.idx (.var 1) (.cst (.int 0))) (.glo "WRITE"))) (.idx (.var 1) (.cst (.int 1))))) .nil)⟩
def cd_writes_of : CDef := ⟨1, 1, [], (.cons (.ex (.call "require_run" (.cons (.var 0) .nil))) (.cons (.retR (.callF "written_keys" (.cons (.var 0) .nil))) .nil))⟩
def cd_shown_by : CDef := ⟨1, 1, [], (.cons (.ex (.call "require_run" (.cons (.var 0) .nil))) (.cons (.ret (.idx (.call "queue_after" (.cons (.var 0) .nil)) (.cst (.int 1)))) .nil))⟩
def cd__law_source : CDef := ⟨2, 3, [], (.cons (.asg (.nm 2) (.ife (.cmp .lt (.var 1) (.blt "len" (.cons (.var 0) .nil))) (.idx (.var 0) (.var 1)) (.cst (.int 0)))) (.cons (.retR (.lst (.cons (.blt "max" (.cons (.cst (.int 0)) (.cons (.bin .sub (.blt "abs" (.cons (.var 2) .nil)) (.bin .pow (.cst (.int 10)) (.cst (.int 18)))) .nil))) (.cons (.bin .add (.bin .add (.bin .mul (.bin .mod (.var 2) (.bin .add (.bin .pow (.cst (.int 10)) (.cst (.int 41))) (.cst (.int 109)))) (.cst (.int 83))) (.bin .mul (.cst (.int 17)) (.var 1))) (.cst (.int 3))) (.cons (.cst (.int 0)) .nil))))) .nil))⟩
def cd__law_draw : CDef := ⟨2, 4, [], (.cons (.ite (.cmp .gt (.idx (.var 0) (.cst (.int 0))) (.cst (.int 0))) (.cons (.asg (.nm 3) (.bin .mod (.idx (.var 0) (.cst (.int 0))) (.var 1))) (.cons (.setI 0 (.cst (.int 0)) (.bin .fdiv (.idx (.var 0) (.cst (.int 0))) (.var 1))) (.cons (.ret (.var 3)) .nil))) .nil) (.cons (.setI 0 (.cst (.int 2)) (.bin .add (.idx (.var 0) (.cst (.int 2))) (.cst (.int 1)))) (.cons (.asg (.nm 2) (.bin .mod (.bin .pow (.bin .add (.idx (.var 0) (.cst (.int 1))) (.bin .mul (.bin .mul (.cst (.int 32452843)) (.idx (.var 0) (.cst (.int 2)))) (.idx (.var 0) (.cst (.int 2))))) (.cst (.int 3))) (.bin .add (.bin .pow (.cst (.int 10)) (.cst (.int 40))) (.cst (.int 121))))) (.cons (.asg (.nm 2) (.bin .mod (.bin .pow (.bin .add (.var 2) (.bin .mul (.cst (.int 49979687)) (.idx (.var 0) (.cst (.int 2))))) (.cst (.int 3))) (.bin .add (.bin .pow (.cst (.int 10)) (.cst (.int 38))) (.cst (.int 133))))) (.cons (.ret (.bin .mod (.bin .fdiv (.var 2) (.cst (.int 999979))) (.var 1))) .nil)))))⟩
def cd__law_mixed : CDef := ⟨2, 4, [], (.cons (.asgR 2 (.blt "list" (.cons (.var 1) .nil))) (.cons (.ret (.lc [3] (.nm 3) (.rng1 (.blt "len" (.cons (.var 1) .nil))) .no (.mut "pop" 2 (.cons (.call "_law_draw" (.cons (.var 0) (.cons (.blt "len" (.cons (.var 2) .nil)) .nil))) .nil)))) .nil))⟩
def cd__law_keys : CDef := ⟨2, 3, [], (.cons (.asg (.nm 2) (.bin .add (.blt "list" (.cons (.cst (.str "abcdefghijklmnopqrstuvwxyz")) .nil)) (.lst (.cons (.cst (.str "a1")) (.cons (.cst (.str "a_")) (.cons (.cst (.str "ab")) (.cons (.cst (.str "abc_de_fg_12")) (.cons (.cst (.str "abc_de_fg_13")) (.cons (.cst (.str "write")) (.cons (.cst (.str "send")) .nil)))))))))) (.cons (.asg (.nm 2) (.bin .add (.var 2) (.lst (.cons (.cst (.str "log")) (.cons (.cst (.str "none")) (.cons (.cst (.str "any")) (.cons (.cst (.str "z9")) (.cons (.cst (.str "zz")) (.cons (.cst (.str "undo")) (.cons (.cst (.str "sure")) .nil)))))))))) (.cons (.ret (.slc (.callF "_law_mixed" (.cons (.var 0) (.cons (.var 2) .nil))) .no (.so (.bin .add (.cst (.int 1)) (.call "_law_draw" (.cons (.var 0) (.cons (.var 1) .nil))))))) .nil)))⟩
def cd__law_drawn_run : CDef := ⟨3, 8, [], (.cons (.par [(1, 4), (1, 5), (0, 6)] (.cons (.lst .nil) (.cons (.lst .nil) (.cons (.idx (.lst (.cons (.cst (.int 1)) (.cons (.cst (.int 2)) (.cons (.cst (.int 5)) .nil)))) (.call "_law_draw" (.cons (.var 0) (.cons (.cst (.int 3)) .nil)))) .nil)))) (.cons (.for_ (.nm 3) (.rng1 (.var 2)) (.cons (.ite (.and (.cmp .ne (.var 5) (.lst .nil)) (.cmp .gt (.call "_law_draw" (.cons (.var 0) (.cons (.bin .add (.var 6) (.cst (.int 1))) .nil))) (.cst (.int 0)))) (.cons (.mcall 5 "pop" (.cons (.cst (.int 0)) .nil)) (.cons (.mcall 4 "append" (.cons (.tup (.cons (.cst (.str "send")) .nil)) .nil)) .nil)) (.cons (.asg (.nm 7) (.idx (.var 1) (.call "_law_draw" (.cons (.var 0) (.cons (.blt "len" (.cons (.var 1) .nil)) .nil))))) (.cons (.ite (.and (.cmp .ne (.var 5) (.lst .nil)) (.cmp .eq (.call "_law_draw" (.cons (.var 0) (.cons (.cst (.int 4)) .nil))) (.cst (.int 0)))) (.cons (.asg (.nm 7) (.idx (.var 5) (.cst (.int 0)))) .nil) .nil) (.cons (.mcall 4 "append" (.cons (.tup (.cons (.cst (.str "write")) (.cons (.var 7) .nil))) .nil)) (.cons (.ite (.cmp .notin (.var 7) (.var 5)) (.cons (.mcall 5 "append" (.cons (.var 7) .nil)) .nil) .nil) .nil))))) .nil)) (.cons (.retO 4) .nil)))⟩
def cd__law_played : CDef := ⟨1, 6, [], (.cons (.par [(1, 2), (1, 3), (1, 4)] (.cons (.lst .nil) (.cons (.lst .nil) (.cons (.lst .nil) .nil)))) (.cons (.for_ (.nm 1) (.seq (.var 0)) (.cons (.ite (.cmp .eq (.var 1) (.tup (.cons (.cst (.str "send")) .nil))) (.cons (.mcallTo 5 4 "pop" (.cons (.cst (.int 0)) .nil)) (.cons (.mcall 3 "append" (.cons (.tup (.cons (.var 5) (.cons (.mth "count" (.var 2) (.cons (.var 5) .nil)) .nil))) .nil)) .nil)) (.cons (.mcall 2 "append" (.cons (.idx (.var 1) (.cst (.int 1))) .nil)) (.cons (.ite (.cmp .notin (.idx (.var 1) (.cst (.int 1))) (.var 4)) (.cons (.mcall 4 "append" (.cons (.idx (.var 1) (.cst (.int 1))) .nil)) .nil) .nil) .nil))) .nil)) (.frz 2 (.frz 3 (.frz 4 (.cons (.ret (.tup (.cons (.var 2) (.cons (.var 3) (.cons (.lc [5] (.nm 5) (.own 4) .no (.tup (.cons (.var 5) (.cons (.mth "count" (.var 2) (.cons (.var 5) .nil)) .nil)))) .nil))))) .nil))))))⟩
def cd__law_right : CDef := ⟨1, 5, [], (.cons (.par [(0, 2), (0, 3)] (.cons (.blt "repr" (.cons (.var 0) .nil)) (.cons (.call "_law_played" (.cons (.var 0) .nil)) .nil))) (.cons (.for_ (.nm 1) (.rng1 (.cst (.int 2))) (.cons (.asg (.nm 4) (.lst (.cons (.call "writes_of" (.cons (.var 0) .nil)) (.cons (.call "shown_by" (.cons (.var 0) .nil)) .nil)))) (.cons (.ite (.or (.cmp .ne (.blt "repr" (.cons (.var 4) .nil)) (.blt "repr" (.cons (.lst (.cons (.idx (.var 3) (.cst (.int 0))) (.cons (.idx (.var 3) (.cst (.int 1))) .nil))) .nil))) (.cmp .ne (.blt "repr" (.cons (.var 0) .nil)) (.var 2))) (.cons (.ret (.cst (.bl false))) .nil) .nil) (.cons (.ex (.mutX "append" (.idx (.var 4) (.cst (.int 0))) (.cons (.cst (.str "more")) .nil))) (.cons (.ex (.mutX "append" (.idx (.var 4) (.cst (.int 1))) (.cons (.tup (.cons (.cst (.str "more")) (.cons (.cst (.int 1)) .nil))) .nil))) .nil))))) (.cons (.ret (.cst (.bl true))) .nil)))⟩
def cd_law : CDef := ⟨1, 7, [], (.cons (.for_ (.nm 1) (.rng1 (.blt "max" (.cons (.cst (.int 1)) (.cons (.blt "min" (.cons (.cst (.int 5)) (.cons (.blt "len" (.cons (.var 0) .nil)) .nil))) .nil)))) (.cons (.asg (.nm 2) (.call "_law_source" (.cons (.var 0) (.cons (.var 1) .nil)))) (.cons (.for_ (.nm 3) (.seq (.lst (.cons (.cst (.int 2)) (.cons (.cst (.int 4)) (.cons (.cst (.int 10)) .nil))))) (.cons (.asgO 4 (.callF "_law_drawn_run" (.cons (.var 2) (.cons (.callF "_law_keys" (.cons (.var 2) (.cons (.var 3) .nil))) (.cons (.call "_law_draw" (.cons (.var 2) (.cons (.cst (.int 61)) .nil))) .nil))))) (.cons (.ite (.not (.callO false "_law_right" (.cons (.var 4) .nil))) (.cons (.ret (.cst (.bl false))) .nil) .nil) (.cons (.mcall 4 "append" (.cons (.tup (.cons (.cst (.str "write")) (.cons (.cst (.str "more")) .nil))) .nil)) (.cons (.ite (.not (.callO false "_law_right" (.cons (.var 4) .nil))) (.cons (.ret (.cst (.bl false))) .nil) .nil) (.cons (.mcall 4 "append" (.cons (.tup (.cons (.cst (.str "send")) .nil)) .nil)) (.cons (.ite (.not (.callO false "_law_right" (.cons (.var 4) .nil))) (.cons (.ret (.cst (.bl false))) .nil) .nil) .nil))))))) (.cons (.ite (.cmp .eq (.var 1) (.cst (.int 0))) (.cons (.for_ (.nm 5) (.seq (.lst (.cons (.callF "_law_keys" (.cons (.var 2) (.cons (.cst (.int 10)) .nil))) (.cons (.lc [6] (.nm 6) (.rng1 (.cst (.int 300))) .no (.bin .add (.cst (.str "k")) (.blt "str" (.cons (.var 6) .nil)))) .nil)))) (.cons (.ite (.not (.call "_law_right" (.cons (.callF "_law_drawn_run" (.cons (.var 2) (.cons (.var 5) (.cons (.cst (.int 1000)) .nil)))) .nil))) (.cons (.ret (.cst (.bl false))) .nil) .nil) .nil)) .nil) .nil) .nil)))) (.cons (.ret (.and (.cmp .eq (.call "writes_of" (.cons (.lst .nil) .nil)) (.lst .nil)) (.cmp .eq (.call "shown_by" (.cons (.lst (.cons (.tup (.cons (.cst (.str "write")) (.cons (.cst (.str "a")) .nil))) (.cons (.tup (.cons (.cst (.str "write")) (.cons (.cst (.str "a")) .nil))) (.cons (.tup (.cons (.cst (.str "send")) .nil)) .nil)))) .nil)) (.lst (.cons (.tup (.cons (.cst (.str "a")) (.cons (.cst (.int 2)) .nil))) .nil))))) .nil))⟩
def P : Prog := ⟨[("is_key", cd_is_key), ("is_event", cd_is_event), ("are_events", cd_are_events), ("is_run", cd_is_run), ("require_run", cd_require_run), ("Queue.__init__", cd_Queue___init__), ("Queue.take_write", cd_Queue_take_write), ("Queue.take_send", cd_Queue_take_send), ("Queue.present_write", cd_Queue_present_write), ("Queue.take", cd_Queue_take), ("queue_after", cd_queue_after), ("written_keys", cd_written_keys), ("writes_of", cd_writes_of), ("shown_by", cd_shown_by), ("_law_source", cd__law_source), ("_law_draw", cd__law_draw), ("_law_mixed", cd__law_mixed), ("_law_keys", cd__law_keys), ("_law_drawn_run", cd__law_drawn_run), ("_law_played", cd__law_played), ("_law_right", cd__law_right), ("law", cd_law)], [("LETTERS", .str "abcdefghijklmnopqrstuvwxyz"), ("CHARACTERS", .str "abcdefghijklmnopqrstuvwxyz0123456789_"), ("MOST_CHARACTERS", .int 12), ("WRITE", .str "write"), ("SEND", .str "send")]⟩
instance : FK.M_is_key P := { d_is_key := by rfl, g_LETTERS := by rfl, g_CHARACTERS := by rfl, g_MOST := by rfl }
instance : FR.M_is_event P := { (inferInstance : M_is_key P) with d_is_event := by rfl, g_WRITE := by rfl, g_SEND := by rfl }
instance : FR.M_are_events P := { (inferInstance : M_is_event P) with d_are_events := by rfl }
instance : FR.M_is_run P := { (inferInstance : M_are_events P) with d_is_run := by rfl }
instance : FG.M__law_source P := { d__law_source := by rfl }
instance : FG.M__law_draw P := { d__law_draw := by rfl }
instance : FG.M__law_mixed P := { (inferInstance : M__law_draw P) with d__law_mixed := by rfl }
instance : FG.M__law_keys P := { (inferInstance : M__law_mixed P) with d__law_keys := by rfl }
instance : FG.M__law_drawn_run P := { (inferInstance : M__law_draw P) with d__law_drawn_run := by rfl }
instance : FQ.M_Queue P := { (inferInstance : M_is_event P) with d_init := by rfl, d_take_write := by rfl, d_take_send := by rfl, d_present_write := by rfl, d_take := by rfl }
instance : FU.M_require_run P := { (inferInstance : M_is_run P) with d_require_run := by rfl }
instance : FU.M_queue_after P := { (inferInstance : M_Queue P) with d_queue_after := by rfl }
instance : FU.M_shown_by P := { (inferInstance : M_queue_after P), (inferInstance : M_require_run P) with d_shown_by := by rfl }
instance : FU.M_written_keys P := { d_written_keys := by rfl, g_WRITE := by rfl }
instance : FU.M_writes_of P := { (inferInstance : M_written_keys P), (inferInstance : M_require_run P) with d_writes_of := by rfl }
end K05
open PySem L2 Ev PySem.Spec PyProof.Rows
namespace K05
abbrev R : PySem.W.OpenRow := PySem.W.OpenLaw.row PySem.Challenge.rw_conflate_k05_logs_of_runs
def top (i : Nat) : Stmt := PySem.Challenge.pw_conflate_k05_logs_of_runs.main.body.getD i (.Pass ⟨0, 0, 0, 0⟩)
def clsB : Stmt → List Stmt
  | .ClassDef _ _ _ b _ _ _ _ _ _ _ => b
  | _ => []
def mth (i j : Nat) : Stmt := (clsB (top i)).getD j (.Pass ⟨0, 0, 0, 0⟩)
def fsN : List String := ["is_key", "is_event", "are_events", "is_run", "require_run", "queue_after", "written_keys", "writes_of", "shown_by", "_law_source", "_law_draw", "_law_mixed", "_law_keys", "_law_drawn_run", "_law_played", "_law_right", "law"]
def csN : List String := ["Queue"]
def atN : List String := ["kept_counts", "kept_waiting"]
def msN : List (String × String) := [("Queue", "take_write"), ("Queue", "take_send"), ("Queue", "present_write"), ("Queue", "take")]
def rsN : List String := ["written_keys", "_law_mixed", "_law_keys", "_law_drawn_run"]
def gsN : List String := ["LETTERS", "CHARACTERS", "MOST_CHARACTERS", "WRITE", "SEND"]
def tb_is_key : Tab := { N := ["value", "character"], fs := fsN, gs := gsN, frs := rsN, cs := csN, at_ := atN, mts := msN }
def dd_is_key : He.DefD := ⟨("is_key", none), "is_key", "is_key", defArgs (top 9), defBody (top 9), defScope (top 9), [], []⟩
theorem er_is_key : erSs tb_is_key (erS tb_is_key 40 dd_is_key.scope 40) dd_is_key.body = cd_is_key.body := by kernel_rfl
theorem sc_is_key : FnScope tb_is_key.N ["value"] dd_is_key.scope := ⟨rfl, rfl, rfl, by decide +kernel, rfl, by decide +kernel, by decide +kernel⟩
def tb_is_event : Tab := { N := ["value"], fs := fsN, gs := gsN, frs := rsN, cs := csN, at_ := atN, mts := msN }
def dd_is_event : He.DefD := ⟨("is_event", none), "is_event", "is_event", defArgs (top 10), defBody (top 10), defScope (top 10), [], []⟩
theorem er_is_event : erSs tb_is_event (erS tb_is_event 40 dd_is_event.scope 40) dd_is_event.body = cd_is_event.body := by kernel_rfl
theorem sc_is_event : FnScope tb_is_event.N ["value"] dd_is_event.scope := ⟨rfl, rfl, rfl, by decide +kernel, rfl, by decide +kernel, by decide +kernel⟩
def tb_are_events : Tab := { N := ["value", "event"], fs := fsN, gs := gsN, frs := rsN, cs := csN, at_ := atN, mts := msN }
def dd_are_events : He.DefD := ⟨("are_events", none), "are_events", "are_events", defArgs (top 11), defBody (top 11), defScope (top 11), [], []⟩
theorem er_are_events : erSs tb_are_events (erS tb_are_events 40 dd_are_events.scope 40) dd_are_events.body = cd_are_events.body := by kernel_rfl
theorem sc_are_events : FnScope tb_are_events.N ["value"] dd_are_events.scope := ⟨rfl, rfl, rfl, by decide +kernel, rfl, by decide +kernel, by decide +kernel⟩
def tb_is_run : Tab := { N := ["value", "waiting", "event"], fs := fsN, gs := gsN, frs := rsN, own := ["waiting"], cs := csN, at_ := atN, mts := msN }
def dd_is_run : He.DefD := ⟨("is_run", none), "is_run", "is_run", defArgs (top 12), defBody (top 12), defScope (top 12), [], []⟩
theorem er_is_run : erSs tb_is_run (erS tb_is_run 40 dd_is_run.scope 40) dd_is_run.body = cd_is_run.body := by kernel_rfl
theorem sc_is_run : FnScope tb_is_run.N ["value"] dd_is_run.scope := ⟨rfl, rfl, rfl, by decide +kernel, rfl, by decide +kernel, by decide +kernel⟩
def tb_require_run : Tab := { N := ["run"], fs := fsN, gs := gsN, frs := rsN, cs := csN, at_ := atN, mts := msN }
def dd_require_run : He.DefD := ⟨("require_run", none), "require_run", "require_run", defArgs (top 13), defBody (top 13), defScope (top 13), [], []⟩
theorem er_require_run : erSs tb_require_run (erS tb_require_run 40 dd_require_run.scope 40) dd_require_run.body = cd_require_run.body := by kernel_rfl
theorem sc_require_run : FnScope tb_require_run.N ["run"] dd_require_run.scope := ⟨rfl, rfl, rfl, by decide +kernel, rfl, by decide +kernel, by decide +kernel⟩
def tb_Queue___init__ : Tab := { N := ["self"], fs := fsN, gs := gsN, frs := rsN, cs := csN, at_ := atN, mts := msN, me := "Queue" }
def dd_Queue___init__ : He.DefD := ⟨("Queue", some "__init__"), "__init__", "Queue.__init__", defArgs (mth 15 0), defBody (mth 15 0), defScope (mth 15 0), [], []⟩
theorem er_Queue___init__ : erSs tb_Queue___init__ (erS tb_Queue___init__ 40 dd_Queue___init__.scope 40) dd_Queue___init__.body = cd_Queue___init__.body := by kernel_rfl
theorem sc_Queue___init__ : FnScope tb_Queue___init__.N ["self"] dd_Queue___init__.scope := ⟨rfl, rfl, rfl, by decide +kernel, rfl, by decide +kernel, by decide +kernel⟩
def tb_Queue_take_write : Tab := { N := ["self", "key"], fs := fsN, gs := gsN, frs := rsN, cs := csN, at_ := atN, mts := msN, me := "Queue" }
def dd_Queue_take_write : He.DefD := ⟨("Queue", some "take_write"), "take_write", "Queue.take_write", defArgs (mth 15 1), defBody (mth 15 1), defScope (mth 15 1), [], []⟩
theorem er_Queue_take_write : erSs tb_Queue_take_write (erS tb_Queue_take_write 40 dd_Queue_take_write.scope 40) dd_Queue_take_write.body = cd_Queue_take_write.body := by kernel_rfl
theorem sc_Queue_take_write : FnScope tb_Queue_take_write.N ["self", "key"] dd_Queue_take_write.scope := ⟨rfl, rfl, rfl, by decide +kernel, rfl, by decide +kernel, by decide +kernel⟩
def tb_Queue_take_send : Tab := { N := ["self"], fs := fsN, gs := gsN, frs := rsN, cs := csN, at_ := atN, mts := msN, me := "Queue" }
def dd_Queue_take_send : He.DefD := ⟨("Queue", some "take_send"), "take_send", "Queue.take_send", defArgs (mth 15 2), defBody (mth 15 2), defScope (mth 15 2), [], []⟩
theorem er_Queue_take_send : erSs tb_Queue_take_send (erS tb_Queue_take_send 40 dd_Queue_take_send.scope 40) dd_Queue_take_send.body = cd_Queue_take_send.body := by kernel_rfl
theorem sc_Queue_take_send : FnScope tb_Queue_take_send.N ["self"] dd_Queue_take_send.scope := ⟨rfl, rfl, rfl, by decide +kernel, rfl, by decide +kernel, by decide +kernel⟩
def tb_Queue_present_write : Tab := { N := ["self", "key"], fs := fsN, gs := gsN, frs := rsN, cs := csN, at_ := atN, mts := msN, me := "Queue" }
def dd_Queue_present_write : He.DefD := ⟨("Queue", some "present_write"), "present_write", "Queue.present_write", defArgs (mth 15 3), defBody (mth 15 3), defScope (mth 15 3), [], []⟩
theorem er_Queue_present_write : erSs tb_Queue_present_write (erS tb_Queue_present_write 40 dd_Queue_present_write.scope 40) dd_Queue_present_write.body = cd_Queue_present_write.body := by kernel_rfl
theorem sc_Queue_present_write : FnScope tb_Queue_present_write.N ["self", "key"] dd_Queue_present_write.scope := ⟨rfl, rfl, rfl, by decide +kernel, rfl, by decide +kernel, by decide +kernel⟩
def tb_Queue_take : Tab := { N := ["self", "event"], fs := fsN, gs := gsN, frs := rsN, cs := csN, at_ := atN, mts := msN, me := "Queue" }
def dd_Queue_take : He.DefD := ⟨("Queue", some "take"), "take", "Queue.take", defArgs (mth 15 4), defBody (mth 15 4), defScope (mth 15 4), [], []⟩
theorem er_Queue_take : erSs tb_Queue_take (erS tb_Queue_take 40 dd_Queue_take.scope 40) dd_Queue_take.body = cd_Queue_take.body := by kernel_rfl
theorem sc_Queue_take : FnScope tb_Queue_take.N ["self", "event"] dd_Queue_take.scope := ⟨rfl, rfl, rfl, by decide +kernel, rfl, by decide +kernel, by decide +kernel⟩
def tb_queue_after : Tab := { N := ["run", "event", "queue", "shown"], fs := fsN, gs := gsN, frs := rsN, rfs := ["shown"], cs := csN, at_ := atN, mts := msN }
def dd_queue_after : He.DefD := ⟨("queue_after", none), "queue_after", "queue_after", defArgs (top 16), defBody (top 16), defScope (top 16), [], []⟩
theorem er_queue_after : erSs tb_queue_after (erS tb_queue_after 40 dd_queue_after.scope 40) dd_queue_after.body = cd_queue_after.body := by kernel_rfl
theorem sc_queue_after : FnScope tb_queue_after.N ["run"] dd_queue_after.scope := ⟨rfl, rfl, rfl, by decide +kernel, rfl, by decide +kernel, by decide +kernel⟩
def tb_written_keys : Tab := { N := ["events", "event"], fs := fsN, gs := gsN, frs := rsN, fresh := true, cs := csN, at_ := atN, mts := msN }
def dd_written_keys : He.DefD := ⟨("written_keys", none), "written_keys", "written_keys", defArgs (top 17), defBody (top 17), defScope (top 17), [], []⟩
theorem er_written_keys : erSs tb_written_keys (erS tb_written_keys 40 dd_written_keys.scope 40) dd_written_keys.body = cd_written_keys.body := by kernel_rfl
theorem sc_written_keys : FnScope tb_written_keys.N ["events"] dd_written_keys.scope := ⟨rfl, rfl, rfl, by decide +kernel, rfl, by decide +kernel, by decide +kernel⟩
def tb_writes_of : Tab := { N := ["run"], fs := fsN, gs := gsN, frs := rsN, give := true, cs := csN, at_ := atN, mts := msN }
def dd_writes_of : He.DefD := ⟨("writes_of", none), "writes_of", "writes_of", defArgs (top 18), defBody (top 18), defScope (top 18), [], []⟩
theorem er_writes_of : erSs tb_writes_of (erS tb_writes_of 40 dd_writes_of.scope 40) dd_writes_of.body = cd_writes_of.body := by kernel_rfl
theorem sc_writes_of : FnScope tb_writes_of.N ["run"] dd_writes_of.scope := ⟨rfl, rfl, rfl, by decide +kernel, rfl, by decide +kernel, by decide +kernel⟩
def tb_shown_by : Tab := { N := ["run"], fs := fsN, gs := gsN, frs := rsN, cs := csN, at_ := atN, mts := msN }
def dd_shown_by : He.DefD := ⟨("shown_by", none), "shown_by", "shown_by", defArgs (top 19), defBody (top 19), defScope (top 19), [], []⟩
theorem er_shown_by : erSs tb_shown_by (erS tb_shown_by 40 dd_shown_by.scope 40) dd_shown_by.body = cd_shown_by.body := by kernel_rfl
theorem sc_shown_by : FnScope tb_shown_by.N ["run"] dd_shown_by.scope := ⟨rfl, rfl, rfl, by decide +kernel, rfl, by decide +kernel, by decide +kernel⟩
def tb__law_source : Tab := { N := ["script", "k", "cell"], fs := fsN, gs := gsN, frs := rsN, give := true, cs := csN, at_ := atN, mts := msN }
def dd__law_source : He.DefD := ⟨("_law_source", none), "_law_source", "_law_source", defArgs (top 21), defBody (top 21), defScope (top 21), [], []⟩
theorem er__law_source : erSs tb__law_source (erS tb__law_source 40 dd__law_source.scope 40) dd__law_source.body = cd__law_source.body := by kernel_rfl
theorem sc__law_source : FnScope tb__law_source.N ["script", "k"] dd__law_source.scope := ⟨rfl, rfl, rfl, by decide +kernel, rfl, by decide +kernel, by decide +kernel⟩
def tb__law_draw : Tab := { N := ["source", "many", "ground", "found"], fs := fsN, gs := gsN, frs := rsN, cs := csN, at_ := atN, mts := msN }
def dd__law_draw : He.DefD := ⟨("_law_draw", none), "_law_draw", "_law_draw", defArgs (top 22), defBody (top 22), defScope (top 22), [], []⟩
theorem er__law_draw : erSs tb__law_draw (erS tb__law_draw 40 dd__law_draw.scope 40) dd__law_draw.body = cd__law_draw.body := by kernel_rfl
theorem sc__law_draw : FnScope tb__law_draw.N ["source", "many"] dd__law_draw.scope := ⟨rfl, rfl, rfl, by decide +kernel, rfl, by decide +kernel, by decide +kernel⟩
def tb__law_mixed : Tab := { N := ["source", "items", "left", "k"], fs := fsN, gs := gsN, frs := rsN, rfs := ["left"], fresh := true, cs := csN, at_ := atN, mts := msN }
def dd__law_mixed : He.DefD := ⟨("_law_mixed", none), "_law_mixed", "_law_mixed", defArgs (top 23), defBody (top 23), defScope (top 23), [], []⟩
theorem er__law_mixed : erSs tb__law_mixed (erS tb__law_mixed 40 dd__law_mixed.scope 40) dd__law_mixed.body = cd__law_mixed.body := by kernel_rfl
theorem sc__law_mixed : FnScope tb__law_mixed.N ["source", "items"] dd__law_mixed.scope := ⟨rfl, rfl, rfl, by decide +kernel, rfl, by decide +kernel, by decide +kernel⟩
def tb__law_keys : Tab := { N := ["source", "most", "pool"], fs := fsN, gs := gsN, frs := rsN, fresh := true, cs := csN, at_ := atN, mts := msN }
def dd__law_keys : He.DefD := ⟨("_law_keys", none), "_law_keys", "_law_keys", defArgs (top 24), defBody (top 24), defScope (top 24), [], []⟩
theorem er__law_keys : erSs tb__law_keys (erS tb__law_keys 40 dd__law_keys.scope 40) dd__law_keys.body = cd__law_keys.body := by kernel_rfl
theorem sc__law_keys : FnScope tb__law_keys.N ["source", "most"] dd__law_keys.scope := ⟨rfl, rfl, rfl, by decide +kernel, rfl, by decide +kernel, by decide +kernel⟩
def tb__law_drawn_run : Tab := { N := ["source", "keys", "many", "turn", "found", "waiting", "lean", "key"], fs := fsN, gs := gsN, frs := rsN, own := ["found", "waiting"], fresh := true, cs := csN, at_ := atN, mts := msN }
def dd__law_drawn_run : He.DefD := ⟨("_law_drawn_run", none), "_law_drawn_run", "_law_drawn_run", defArgs (top 25), defBody (top 25), defScope (top 25), [], []⟩
theorem er__law_drawn_run : erSs tb__law_drawn_run (erS tb__law_drawn_run 40 dd__law_drawn_run.scope 40) dd__law_drawn_run.body = cd__law_drawn_run.body := by kernel_rfl
theorem sc__law_drawn_run : FnScope tb__law_drawn_run.N ["source", "keys", "many"] dd__law_drawn_run.scope := ⟨rfl, rfl, rfl, by decide +kernel, rfl, by decide +kernel, by decide +kernel⟩
def tb__law_played : Tab := { N := ["events", "event", "wrote", "shown", "waiting", "key"], fs := fsN, gs := gsN, frs := rsN, own := ["shown", "waiting", "wrote"], frz := [(119, "wrote"), (119, "shown"), (119, "waiting")], cs := csN, at_ := atN, mts := msN }
def dd__law_played : He.DefD := ⟨("_law_played", none), "_law_played", "_law_played", defArgs (top 26), defBody (top 26), defScope (top 26), [], []⟩
theorem er__law_played : erSs tb__law_played (erS tb__law_played 40 dd__law_played.scope 40) dd__law_played.body = cd__law_played.body := by kernel_rfl
theorem sc__law_played : FnScope tb__law_played.N ["events"] dd__law_played.scope := ⟨rfl, rfl, rfl, by decide +kernel, rfl, by decide +kernel, by decide +kernel⟩
def tb__law_right : Tab := { N := ["run", "turn", "before", "due", "found"], fs := fsN, gs := gsN, frs := rsN, cs := csN, at_ := atN, mts := msN }
def dd__law_right : He.DefD := ⟨("_law_right", none), "_law_right", "_law_right", defArgs (top 27), defBody (top 27), defScope (top 27), [], []⟩
theorem er__law_right : erSs tb__law_right (erS tb__law_right 40 dd__law_right.scope 40) dd__law_right.body = cd__law_right.body := by kernel_rfl
theorem sc__law_right : FnScope tb__law_right.N ["run"] dd__law_right.scope := ⟨rfl, rfl, rfl, by decide +kernel, rfl, by decide +kernel, by decide +kernel⟩
def tb_law : Tab := { N := ["script", "k", "source", "most", "run", "keys", "number"], fs := fsN, gs := gsN, frs := rsN, own := ["run"], cs := csN, at_ := atN, mts := msN }
def dd_law : He.DefD := ⟨("law", none), "law", "law", defArgs (top 28), defBody (top 28), defScope (top 28), [], []⟩
theorem er_law : erSs tb_law (erS tb_law 40 dd_law.scope 40) dd_law.body = cd_law.body := by kernel_rfl
theorem sc_law : FnScope tb_law.N ["script"] dd_law.scope := ⟨rfl, rfl, rfl, by decide +kernel, rfl, by decide +kernel, by decide +kernel⟩
def fn : List He.DefD := [dd_is_key, dd_is_event, dd_are_events, dd_is_run, dd_require_run, dd_Queue___init__, dd_Queue_take_write, dd_Queue_take_send, dd_Queue_present_write, dd_Queue_take, dd_queue_after, dd_written_keys, dd_writes_of, dd_shown_by, dd__law_source, dd__law_draw, dd__law_mixed, dd__law_keys, dd__law_drawn_run, dd__law_played, dd__law_right, dd_law]
def ds_is_key : DefS P fsN gsN rsN csN atN msN fn "is_key" (Str.ofString "is_key", none) where
  T := tb_is_key
  ps := ["value"]
  dfl := []
  n1 := 40
  n2 := 40
  i := 0
  d := dd_is_key
  at_i := rfl
  hat := rfl
  hfs := rfl
  hgs := rfl
  hrs := rfl
  hfr := rfl
  hcs := rfl
  has := rfl
  hms := rfl
  hme := .inl rfl
  S := sc_is_key
  def_ := (show assoc P.defs "is_key" = some cd_is_key by kernel_rfl).trans (congrArg (fun b => some (⟨1, 2, [], b⟩ : CDef)) er_is_key.symm)
  kwd := rfl
  rel := rel_nil rfl
  bind := bind_all rfl fun kV doc pm an cdv ct us hl => match us, hl with
    | [_], _ => rfl
def ds_is_event : DefS P fsN gsN rsN csN atN msN fn "is_event" (Str.ofString "is_event", none) where
  T := tb_is_event
  ps := ["value"]
  dfl := []
  n1 := 40
  n2 := 40
  i := 1
  d := dd_is_event
  at_i := rfl
  hat := rfl
  hfs := rfl
  hgs := rfl
  hrs := rfl
  hfr := rfl
  hcs := rfl
  has := rfl
  hms := rfl
  hme := .inl rfl
  S := sc_is_event
  def_ := (show assoc P.defs "is_event" = some cd_is_event by kernel_rfl).trans (congrArg (fun b => some (⟨1, 1, [], b⟩ : CDef)) er_is_event.symm)
  kwd := rfl
  rel := rel_nil rfl
  bind := bind_all rfl fun kV doc pm an cdv ct us hl => match us, hl with
    | [_], _ => rfl
def ds_are_events : DefS P fsN gsN rsN csN atN msN fn "are_events" (Str.ofString "are_events", none) where
  T := tb_are_events
  ps := ["value"]
  dfl := []
  n1 := 40
  n2 := 40
  i := 2
  d := dd_are_events
  at_i := rfl
  hat := rfl
  hfs := rfl
  hgs := rfl
  hrs := rfl
  hfr := rfl
  hcs := rfl
  has := rfl
  hms := rfl
  hme := .inl rfl
  S := sc_are_events
  def_ := (show assoc P.defs "are_events" = some cd_are_events by kernel_rfl).trans (congrArg (fun b => some (⟨1, 2, [], b⟩ : CDef)) er_are_events.symm)
  kwd := rfl
  rel := rel_nil rfl
  bind := bind_all rfl fun kV doc pm an cdv ct us hl => match us, hl with
    | [_], _ => rfl
def ds_is_run : DefS P fsN gsN rsN csN atN msN fn "is_run" (Str.ofString "is_run", none) where
  T := tb_is_run
  ps := ["value"]
  dfl := []
  n1 := 40
  n2 := 40
  i := 3
  d := dd_is_run
  at_i := rfl
  hat := rfl
  hfs := rfl
  hgs := rfl
  hrs := rfl
  hfr := rfl
  hcs := rfl
  has := rfl
  hms := rfl
  hme := .inl rfl
  S := sc_is_run
  def_ := (show assoc P.defs "is_run" = some cd_is_run by kernel_rfl).trans (congrArg (fun b => some (⟨1, 3, [], b⟩ : CDef)) er_is_run.symm)
  kwd := rfl
  rel := rel_nil rfl
  bind := bind_all rfl fun kV doc pm an cdv ct us hl => match us, hl with
    | [_], _ => rfl
def ds_require_run : DefS P fsN gsN rsN csN atN msN fn "require_run" (Str.ofString "require_run", none) where
  T := tb_require_run
  ps := ["run"]
  dfl := []
  n1 := 40
  n2 := 40
  i := 4
  d := dd_require_run
  at_i := rfl
  hat := rfl
  hfs := rfl
  hgs := rfl
  hrs := rfl
  hfr := rfl
  hcs := rfl
  has := rfl
  hms := rfl
  hme := .inl rfl
  S := sc_require_run
  def_ := (show assoc P.defs "require_run" = some cd_require_run by kernel_rfl).trans (congrArg (fun b => some (⟨1, 1, [], b⟩ : CDef)) er_require_run.symm)
  kwd := rfl
  rel := rel_nil rfl
  bind := bind_all rfl fun kV doc pm an cdv ct us hl => match us, hl with
    | [_], _ => rfl
def ds_Queue___init__ : DefS P fsN gsN rsN csN atN msN fn ("Queue" ++ ".__init__") (Str.ofString "Queue", some (Str.ofString "__init__")) where
  T := tb_Queue___init__
  ps := ["self"]
  dfl := []
  n1 := 40
  n2 := 40
  i := 5
  d := dd_Queue___init__
  at_i := rfl
  hat := rfl
  hfs := rfl
  hgs := rfl
  hrs := rfl
  hfr := by decide +kernel
  hcs := rfl
  has := rfl
  hms := rfl
  hme := .inr (by decide)
  S := sc_Queue___init__
  def_ := (show assoc P.defs ("Queue" ++ ".__init__") = some cd_Queue___init__ by kernel_rfl).trans (congrArg (fun b => some (⟨1, 1, [], b⟩ : CDef)) er_Queue___init__.symm)
  kwd := rfl
  rel := rel_nil rfl
  bind := bind_all rfl fun kV doc pm an cdv ct us hl => match us, hl with
    | [_], _ => rfl
def ds_Queue_take_write : DefS P fsN gsN rsN csN atN msN fn ("Queue" ++ "." ++ "take_write") (Str.ofString "Queue", some (Str.ofString "take_write")) where
  T := tb_Queue_take_write
  ps := ["self", "key"]
  dfl := []
  n1 := 40
  n2 := 40
  i := 6
  d := dd_Queue_take_write
  at_i := rfl
  hat := rfl
  hfs := rfl
  hgs := rfl
  hrs := rfl
  hfr := by decide +kernel
  hcs := rfl
  has := rfl
  hms := rfl
  hme := .inr (by decide)
  S := sc_Queue_take_write
  def_ := (show assoc P.defs ("Queue" ++ "." ++ "take_write") = some cd_Queue_take_write by kernel_rfl).trans (congrArg (fun b => some (⟨2, 2, [], b⟩ : CDef)) er_Queue_take_write.symm)
  kwd := rfl
  rel := rel_nil rfl
  bind := bind_all rfl fun kV doc pm an cdv ct us hl => match us, hl with
    | [_, _], _ => rfl
def ds_Queue_take_send : DefS P fsN gsN rsN csN atN msN fn ("Queue" ++ "." ++ "take_send") (Str.ofString "Queue", some (Str.ofString "take_send")) where
  T := tb_Queue_take_send
  ps := ["self"]
  dfl := []
  n1 := 40
  n2 := 40
  i := 7
  d := dd_Queue_take_send
  at_i := rfl
  hat := rfl
  hfs := rfl
  hgs := rfl
  hrs := rfl
  hfr := by decide +kernel
  hcs := rfl
  has := rfl
  hms := rfl
  hme := .inr (by decide)
  S := sc_Queue_take_send
  def_ := (show assoc P.defs ("Queue" ++ "." ++ "take_send") = some cd_Queue_take_send by kernel_rfl).trans (congrArg (fun b => some (⟨1, 1, [], b⟩ : CDef)) er_Queue_take_send.symm)
  kwd := rfl
  rel := rel_nil rfl
  bind := bind_all rfl fun kV doc pm an cdv ct us hl => match us, hl with
    | [_], _ => rfl
def ds_Queue_present_write : DefS P fsN gsN rsN csN atN msN fn ("Queue" ++ "." ++ "present_write") (Str.ofString "Queue", some (Str.ofString "present_write")) where
  T := tb_Queue_present_write
  ps := ["self", "key"]
  dfl := []
  n1 := 40
  n2 := 40
  i := 8
  d := dd_Queue_present_write
  at_i := rfl
  hat := rfl
  hfs := rfl
  hgs := rfl
  hrs := rfl
  hfr := by decide +kernel
  hcs := rfl
  has := rfl
  hms := rfl
  hme := .inr (by decide)
  S := sc_Queue_present_write
  def_ := (show assoc P.defs ("Queue" ++ "." ++ "present_write") = some cd_Queue_present_write by kernel_rfl).trans (congrArg (fun b => some (⟨2, 2, [], b⟩ : CDef)) er_Queue_present_write.symm)
  kwd := rfl
  rel := rel_nil rfl
  bind := bind_all rfl fun kV doc pm an cdv ct us hl => match us, hl with
    | [_, _], _ => rfl
def ds_Queue_take : DefS P fsN gsN rsN csN atN msN fn ("Queue" ++ "." ++ "take") (Str.ofString "Queue", some (Str.ofString "take")) where
  T := tb_Queue_take
  ps := ["self", "event"]
  dfl := []
  n1 := 40
  n2 := 40
  i := 9
  d := dd_Queue_take
  at_i := rfl
  hat := rfl
  hfs := rfl
  hgs := rfl
  hrs := rfl
  hfr := by decide +kernel
  hcs := rfl
  has := rfl
  hms := rfl
  hme := .inr (by decide)
  S := sc_Queue_take
  def_ := (show assoc P.defs ("Queue" ++ "." ++ "take") = some cd_Queue_take by kernel_rfl).trans (congrArg (fun b => some (⟨2, 2, [], b⟩ : CDef)) er_Queue_take.symm)
  kwd := rfl
  rel := rel_nil rfl
  bind := bind_all rfl fun kV doc pm an cdv ct us hl => match us, hl with
    | [_, _], _ => rfl
def ds_queue_after : DefS P fsN gsN rsN csN atN msN fn "queue_after" (Str.ofString "queue_after", none) where
  T := tb_queue_after
  ps := ["run"]
  dfl := []
  n1 := 40
  n2 := 40
  i := 10
  d := dd_queue_after
  at_i := rfl
  hat := rfl
  hfs := rfl
  hgs := rfl
  hrs := rfl
  hfr := rfl
  hcs := rfl
  has := rfl
  hms := rfl
  hme := .inl rfl
  S := sc_queue_after
  def_ := (show assoc P.defs "queue_after" = some cd_queue_after by kernel_rfl).trans (congrArg (fun b => some (⟨1, 4, [], b⟩ : CDef)) er_queue_after.symm)
  kwd := rfl
  rel := rel_nil rfl
  bind := bind_all rfl fun kV doc pm an cdv ct us hl => match us, hl with
    | [_], _ => rfl
def ds_written_keys : DefS P fsN gsN rsN csN atN msN fn "written_keys" (Str.ofString "written_keys", none) where
  T := tb_written_keys
  ps := ["events"]
  dfl := []
  n1 := 40
  n2 := 40
  i := 11
  d := dd_written_keys
  at_i := rfl
  hat := rfl
  hfs := rfl
  hgs := rfl
  hrs := rfl
  hfr := rfl
  hcs := rfl
  has := rfl
  hms := rfl
  hme := .inl rfl
  S := sc_written_keys
  def_ := (show assoc P.defs "written_keys" = some cd_written_keys by kernel_rfl).trans (congrArg (fun b => some (⟨1, 2, [], b⟩ : CDef)) er_written_keys.symm)
  kwd := rfl
  rel := rel_nil rfl
  bind := bind_all rfl fun kV doc pm an cdv ct us hl => match us, hl with
    | [_], _ => rfl
def ds_writes_of : DefS P fsN gsN rsN csN atN msN fn "writes_of" (Str.ofString "writes_of", none) where
  T := tb_writes_of
  ps := ["run"]
  dfl := []
  n1 := 40
  n2 := 40
  i := 12
  d := dd_writes_of
  at_i := rfl
  hat := rfl
  hfs := rfl
  hgs := rfl
  hrs := rfl
  hfr := rfl
  hcs := rfl
  has := rfl
  hms := rfl
  hme := .inl rfl
  S := sc_writes_of
  def_ := (show assoc P.defs "writes_of" = some cd_writes_of by kernel_rfl).trans (congrArg (fun b => some (⟨1, 1, [], b⟩ : CDef)) er_writes_of.symm)
  kwd := rfl
  rel := rel_nil rfl
  bind := bind_all rfl fun kV doc pm an cdv ct us hl => match us, hl with
    | [_], _ => rfl
def ds_shown_by : DefS P fsN gsN rsN csN atN msN fn "shown_by" (Str.ofString "shown_by", none) where
  T := tb_shown_by
  ps := ["run"]
  dfl := []
  n1 := 40
  n2 := 40
  i := 13
  d := dd_shown_by
  at_i := rfl
  hat := rfl
  hfs := rfl
  hgs := rfl
  hrs := rfl
  hfr := rfl
  hcs := rfl
  has := rfl
  hms := rfl
  hme := .inl rfl
  S := sc_shown_by
  def_ := (show assoc P.defs "shown_by" = some cd_shown_by by kernel_rfl).trans (congrArg (fun b => some (⟨1, 1, [], b⟩ : CDef)) er_shown_by.symm)
  kwd := rfl
  rel := rel_nil rfl
  bind := bind_all rfl fun kV doc pm an cdv ct us hl => match us, hl with
    | [_], _ => rfl
def ds__law_source : DefS P fsN gsN rsN csN atN msN fn "_law_source" (Str.ofString "_law_source", none) where
  T := tb__law_source
  ps := ["script", "k"]
  dfl := []
  n1 := 40
  n2 := 40
  i := 14
  d := dd__law_source
  at_i := rfl
  hat := rfl
  hfs := rfl
  hgs := rfl
  hrs := rfl
  hfr := rfl
  hcs := rfl
  has := rfl
  hms := rfl
  hme := .inl rfl
  S := sc__law_source
  def_ := (show assoc P.defs "_law_source" = some cd__law_source by kernel_rfl).trans (congrArg (fun b => some (⟨2, 3, [], b⟩ : CDef)) er__law_source.symm)
  kwd := rfl
  rel := rel_nil rfl
  bind := bind_all rfl fun kV doc pm an cdv ct us hl => match us, hl with
    | [_, _], _ => rfl
def ds__law_draw : DefS P fsN gsN rsN csN atN msN fn "_law_draw" (Str.ofString "_law_draw", none) where
  T := tb__law_draw
  ps := ["source", "many"]
  dfl := []
  n1 := 40
  n2 := 40
  i := 15
  d := dd__law_draw
  at_i := rfl
  hat := rfl
  hfs := rfl
  hgs := rfl
  hrs := rfl
  hfr := rfl
  hcs := rfl
  has := rfl
  hms := rfl
  hme := .inl rfl
  S := sc__law_draw
  def_ := (show assoc P.defs "_law_draw" = some cd__law_draw by kernel_rfl).trans (congrArg (fun b => some (⟨2, 4, [], b⟩ : CDef)) er__law_draw.symm)
  kwd := rfl
  rel := rel_nil rfl
  bind := bind_all rfl fun kV doc pm an cdv ct us hl => match us, hl with
    | [_, _], _ => rfl
def ds__law_mixed : DefS P fsN gsN rsN csN atN msN fn "_law_mixed" (Str.ofString "_law_mixed", none) where
  T := tb__law_mixed
  ps := ["source", "items"]
  dfl := []
  n1 := 40
  n2 := 40
  i := 16
  d := dd__law_mixed
  at_i := rfl
  hat := rfl
  hfs := rfl
  hgs := rfl
  hrs := rfl
  hfr := rfl
  hcs := rfl
  has := rfl
  hms := rfl
  hme := .inl rfl
  S := sc__law_mixed
  def_ := (show assoc P.defs "_law_mixed" = some cd__law_mixed by kernel_rfl).trans (congrArg (fun b => some (⟨2, 4, [], b⟩ : CDef)) er__law_mixed.symm)
  kwd := rfl
  rel := rel_nil rfl
  bind := bind_all rfl fun kV doc pm an cdv ct us hl => match us, hl with
    | [_, _], _ => rfl
def ds__law_keys : DefS P fsN gsN rsN csN atN msN fn "_law_keys" (Str.ofString "_law_keys", none) where
  T := tb__law_keys
  ps := ["source", "most"]
  dfl := []
  n1 := 40
  n2 := 40
  i := 17
  d := dd__law_keys
  at_i := rfl
  hat := rfl
  hfs := rfl
  hgs := rfl
  hrs := rfl
  hfr := rfl
  hcs := rfl
  has := rfl
  hms := rfl
  hme := .inl rfl
  S := sc__law_keys
  def_ := (show assoc P.defs "_law_keys" = some cd__law_keys by kernel_rfl).trans (congrArg (fun b => some (⟨2, 3, [], b⟩ : CDef)) er__law_keys.symm)
  kwd := rfl
  rel := rel_nil rfl
  bind := bind_all rfl fun kV doc pm an cdv ct us hl => match us, hl with
    | [_, _], _ => rfl
def ds__law_drawn_run : DefS P fsN gsN rsN csN atN msN fn "_law_drawn_run" (Str.ofString "_law_drawn_run", none) where
  T := tb__law_drawn_run
  ps := ["source", "keys", "many"]
  dfl := []
  n1 := 40
  n2 := 40
  i := 18
  d := dd__law_drawn_run
  at_i := rfl
  hat := rfl
  hfs := rfl
  hgs := rfl
  hrs := rfl
  hfr := rfl
  hcs := rfl
  has := rfl
  hms := rfl
  hme := .inl rfl
  S := sc__law_drawn_run
  def_ := (show assoc P.defs "_law_drawn_run" = some cd__law_drawn_run by kernel_rfl).trans (congrArg (fun b => some (⟨3, 8, [], b⟩ : CDef)) er__law_drawn_run.symm)
  kwd := rfl
  rel := rel_nil rfl
  bind := bind_all rfl fun kV doc pm an cdv ct us hl => match us, hl with
    | [_, _, _], _ => rfl
def ds__law_played : DefS P fsN gsN rsN csN atN msN fn "_law_played" (Str.ofString "_law_played", none) where
  T := tb__law_played
  ps := ["events"]
  dfl := []
  n1 := 40
  n2 := 40
  i := 19
  d := dd__law_played
  at_i := rfl
  hat := rfl
  hfs := rfl
  hgs := rfl
  hrs := rfl
  hfr := rfl
  hcs := rfl
  has := rfl
  hms := rfl
  hme := .inl rfl
  S := sc__law_played
  def_ := (show assoc P.defs "_law_played" = some cd__law_played by kernel_rfl).trans (congrArg (fun b => some (⟨1, 6, [], b⟩ : CDef)) er__law_played.symm)
  kwd := rfl
  rel := rel_nil rfl
  bind := bind_all rfl fun kV doc pm an cdv ct us hl => match us, hl with
    | [_], _ => rfl
def ds__law_right : DefS P fsN gsN rsN csN atN msN fn "_law_right" (Str.ofString "_law_right", none) where
  T := tb__law_right
  ps := ["run"]
  dfl := []
  n1 := 40
  n2 := 40
  i := 20
  d := dd__law_right
  at_i := rfl
  hat := rfl
  hfs := rfl
  hgs := rfl
  hrs := rfl
  hfr := rfl
  hcs := rfl
  has := rfl
  hms := rfl
  hme := .inl rfl
  S := sc__law_right
  def_ := (show assoc P.defs "_law_right" = some cd__law_right by kernel_rfl).trans (congrArg (fun b => some (⟨1, 5, [], b⟩ : CDef)) er__law_right.symm)
  kwd := rfl
  rel := rel_nil rfl
  bind := bind_all rfl fun kV doc pm an cdv ct us hl => match us, hl with
    | [_], _ => rfl
def ds_law : DefS P fsN gsN rsN csN atN msN fn "law" (Str.ofString "law", none) where
  T := tb_law
  ps := ["script"]
  dfl := []
  n1 := 40
  n2 := 40
  i := 21
  d := dd_law
  at_i := rfl
  hat := rfl
  hfs := rfl
  hgs := rfl
  hrs := rfl
  hfr := rfl
  hcs := rfl
  has := rfl
  hms := rfl
  hme := .inl rfl
  S := sc_law
  def_ := (show assoc P.defs "law" = some cd_law by kernel_rfl).trans (congrArg (fun b => some (⟨1, 7, [], b⟩ : CDef)) er_law.symm)
  kwd := rfl
  rel := rel_nil rfl
  bind := bind_all rfl fun kV doc pm an cdv ct us hl => match us, hl with
    | [_], _ => rfl
theorem mod_ok (w : World) (K : PySem.W.Frag) (mg : Str → Option Value) (h : Heap) (X : K.In h) (G : h.Ns mainGlobals mg) (sm : smB K = true) (c : He.SaysD (faOf2 fsN P.glob csN atN msN) fn K) : ∃ M : ModC R.prog w K mg P, "law" ∈ M.fs :=
  mod_of X G sm c (by decide) (fun s hs => by
    simp only [fsN, List.mem_cons, List.not_mem_nil, or_false] at hs
    rcases hs with rfl | rfl | rfl | rfl | rfl | rfl | rfl | rfl | rfl | rfl | rfl | rfl | rfl | rfl | rfl | rfl | rfl
    · exact ⟨ds_is_key⟩
    · exact ⟨ds_is_event⟩
    · exact ⟨ds_are_events⟩
    · exact ⟨ds_is_run⟩
    · exact ⟨ds_require_run⟩
    · exact ⟨ds_queue_after⟩
    · exact ⟨ds_written_keys⟩
    · exact ⟨ds_writes_of⟩
    · exact ⟨ds_shown_by⟩
    · exact ⟨ds__law_source⟩
    · exact ⟨ds__law_draw⟩
    · exact ⟨ds__law_mixed⟩
    · exact ⟨ds__law_keys⟩
    · exact ⟨ds__law_drawn_run⟩
    · exact ⟨ds__law_played⟩
    · exact ⟨ds__law_right⟩
    · exact ⟨ds_law⟩
    ) (fun s hs => by
    simp only [msN, List.mem_cons, List.not_mem_nil, or_false] at hs
    rcases hs with rfl | rfl | rfl | rfl
    · exact ⟨ds_Queue_take_write⟩
    · exact ⟨ds_Queue_take_send⟩
    · exact ⟨ds_Queue_present_write⟩
    · exact ⟨ds_Queue_take⟩
    ) (fun s hs => by
    simp only [csN, List.mem_cons, List.not_mem_nil, or_false] at hs
    rcases hs with rfl
    · exact ⟨ds_Queue___init__⟩
    ) (by decide)
abbrev hk : PySem.W.Hook := hookS 4 (faOf2 fsN P.glob csN atN msN) fn
def ob (s : PySem.W.SharedT) : AlS := obsSG 4 (faOf2 fsN P.glob csN atN msN) fn (HandSHeadRun.getT s)
theorem ob_eq (s : PySem.W.SharedT) : ob s = hk.obs s.abs := obsSG_eq (HandSHeadRun.getT_eq s)
def names : List PySem.Str := (["ConflateError", "InvalidRun", "LETTERS", "CHARACTERS", "MOST_CHARACTERS", "WRITE", "SEND", "is_key", "is_event", "are_events", "is_run", "require_run", "Queue", "queue_after", "written_keys", "writes_of", "shown_by", "_law_source", "_law_draw", "_law_mixed", "_law_keys", "_law_drawn_run", "_law_played", "_law_right"] : List PySem.Str)
theorem run (w : World) : HandSHeadRun.RunEq R (PySem.W.view R.prog [28]) hk ob 20000 names w := by
  intro os
  kernel_rfl
end K05
/-! K05a: _law_played, _law_right -/
open PySem L2 Ev PySem.Spec PyProof.Rows FK FR FG FQ GV FI FU
open FB (NL Fr rngL_len in62_of mul_small2 pow_ok2 noLs_strs noLs_of)
namespace K05
theorem cnt_strs {ws : List Str} {k : Str} {st : Store} : mthR "count" (.lst (ws.map .str)) [.str k] st = some (.int (ws.count k : Nat)) := by
  have hf : (ws.map D.str).all flatD = true := by
    rw [List.all_eq_true]
    intro d hd
    obtain ⟨x, _, rfl⟩ := List.mem_map.mp hd
    rfl
  have hc : (ws.map D.str).countP (fun z => eqF z (.str k)) = ws.count k := by
    rw [List.countP_map]
    rfl
  show (match asL st (.lst (ws.map .str)) with
    | some l => if flatD (.str k) = true ∧ l.all flatD = true then some (D.int (l.countP fun z => eqF z (.str k) : Nat)) else none
    | none => none) = _
  show (if flatD (.str k) = true ∧ (ws.map D.str).all flatD = true then some (D.int ((ws.map D.str).countP fun z => eqF z (.str k) : Nat)) else none) = _
  rw [if_pos ⟨rfl, hf⟩, hc]
theorem played_all {wf n : Nat} {es : List E} {T : PT} {st : Store} {Q : D → Store → Prop} (he : ∀ e, e ∈ es → e.ok = true) (hz : es.length ≤ 10000) (hT : pst es ([], [], []) = some T)
    (k : ∀ x, Q (.tup [.lst (T.1.map .str), .lst (T.2.2.map wD), x]) st) : (callF P wf (n + 1) "_law_played" [.lst (es.map E.d)] st).all Q := by
  have hs : sizeLine = 16777216 := by rw [sizeLine_eq]
  refine call_all (cd := cd__law_played) (env := [.v (.lst (es.map E.d)), .un, .un, .un, .un, .un]) rfl rfl ?_
  simp only [s_nil, s_seq, s_frz, z_asg, z_asgO, z_asgR, z_par, z_pn, z_pc, z_aug, z_ex, z_ret, z_retN, z_retR, z_ite, z_brk, z_cont, z_pass, z_setIs, z_tn, w_cst, w_var, w_glo, w_bin, w_neg, w_not, w_and, w_or, w_cmp, w_cmp2, w_ife, w_idx, w_slc, w_no, w_so, w_cno, w_cso, w_tup, w_lst, w_dnew, w_nil, w_cons, w_call, w_blt, w_isi, w_iown, w_iseq, w_rng1, w_rng2b, nxK, varE, assignG, own1, oOf, Ev.putK, viewI, O.d, List.getElem?_cons_zero, List.getElem?_cons_succ, List.set_cons_zero, List.set_cons_succ, Option.some.injEq, exists_eq_left', D.bl.injEq, D.int.injEq, EV.own.injEq, b_add, b_adds, b_addl, b_mull, b_muls, b_sub, b_mul, b_fdiv, b_mod, b_pow, at0, at1, at2, at3, c_lt, c_le, c_gt, c_ge, c_eqi, c_nei, c_eqs, c_nes, c_eqb, Option.map_some, len_lst, len_tup, len_scr, f_abs, f_max, f_min, f_intb, f_inti, f_str, f_list_l, f_list_t, seq_lst, seq_str, seq_scr, ck_no, ite_true, if_true, if_false, Bool.false_eq_true, reduceCtorEq, decide_eq_true_eq, decide_eq_false_iff_not, Bool.not_eq_true', Bool.not_eq_false', Bool.not_true, Bool.not_false, not_true_eq_false, not_false_eq_true, true_and, and_true, forall_const, false_implies, implies_true, lpK, w_rngDb, c_isN, c_isnotN, w_mth, z_mcall, mc_own, mc_ref, z_mcallTo, mt_own, z_setK, si_own, si_ref, mw_app, mw_ext, sw_dct, keyOk_int, keyOk_str, setAll, idx_lst, idx_tup, z_retO, ro_own, fz_own, fz_v, ov_lst, ov_dct, ov_non, ov_int, ov_bl, ov_str, ov_tup, w_callF, w_callO, w_lset, Ev.w_rev, w_fld, w_meth, w_mkI, w_setd, w_dcp, z_setX, z_setF, cd__law_played]
  refine ⟨sm (by simp), sm (by simp), sm (by simp), ?_⟩
  rw [z_for]
  simp only [s_nil, s_seq, s_frz, z_asg, z_asgO, z_asgR, z_par, z_pn, z_pc, z_aug, z_ex, z_ret, z_retN, z_retR, z_ite, z_brk, z_cont, z_pass, z_setIs, z_tn, w_cst, w_var, w_glo, w_bin, w_neg, w_not, w_and, w_or, w_cmp, w_cmp2, w_ife, w_idx, w_slc, w_no, w_so, w_cno, w_cso, w_tup, w_lst, w_dnew, w_nil, w_cons, w_call, w_blt, w_isi, w_iown, w_iseq, w_rng1, w_rng2b, nxK, varE, assignG, own1, oOf, Ev.putK, viewI, O.d, List.getElem?_cons_zero, List.getElem?_cons_succ, List.set_cons_zero, List.set_cons_succ, Option.some.injEq, exists_eq_left', D.bl.injEq, D.int.injEq, EV.own.injEq, b_add, b_adds, b_addl, b_mull, b_muls, b_sub, b_mul, b_fdiv, b_mod, b_pow, at0, at1, at2, at3, c_lt, c_le, c_gt, c_ge, c_eqi, c_nei, c_eqs, c_nes, c_eqb, Option.map_some, len_lst, len_tup, len_scr, f_abs, f_max, f_min, f_intb, f_inti, f_str, f_list_l, f_list_t, seq_lst, seq_str, seq_scr, ck_no, ite_true, if_true, if_false, Bool.false_eq_true, reduceCtorEq, decide_eq_true_eq, decide_eq_false_iff_not, Bool.not_eq_true', Bool.not_eq_false', Bool.not_true, Bool.not_false, not_true_eq_false, not_false_eq_true, true_and, and_true, forall_const, false_implies, implies_true, lpK, w_rngDb, c_isN, c_isnotN, w_mth, z_mcall, mc_own, mc_ref, z_mcallTo, mt_own, z_setK, si_own, si_ref, mw_app, mw_ext, sw_dct, keyOk_int, keyOk_str, setAll, idx_lst, idx_tup, z_retO, ro_own, fz_own, fz_v, ov_lst, ov_dct, ov_non, ov_int, ov_bl, ov_str, ov_tup, w_callF, w_callO, w_lset, Ev.w_rev, w_fld, w_meth, w_mkI, w_setd, w_dcp, z_setX, z_setF]
  refine ⟨rfl, for_map (fun j e s => s = st ∧ ∃ (t : PT) (u1 u5 : EV), e = [.v (.lst (es.map E.d)), u1, .own (.lst (t.1.map .str)), .own (.lst (t.2.2.map wD)), .own (.lst (t.2.1.map .str)), u5] ∧ pst (es.drop j) t = some T ∧ t.1.length ≤ j ∧ t.2.1.length ≤ j ∧ t.2.2.length ≤ j)
    ⟨rfl, ([], [], []), _, _, rfl, hT, Nat.le_refl _, Nat.le_refl _, Nat.le_refl _⟩ (fun _ _ _ _ _ => rfl) ?_ ?_⟩
  · rintro j e env s hj ⟨rfl, t, u1, u5, rfl, h1, h2, h3, h4⟩
    refine ⟨_, rfl, ?_⟩
    have hjl := some_lt hj
    have hok := he e (List.mem_of_getElem? hj)
    rw [drop_cons hj] at h1
    have h1 : (pS t e).bind (pst (es.drop (j + 1))) = some T := h1
    have v := c_eq (eq_send (st := s) hok)
    obtain ⟨ws, q, sh⟩ := t
    simp only at h2 h3 h4
    cases e with
    | send =>
      cases q with
      | nil => cases h1
      | cons x q =>
        have h1 : pst (es.drop (j + 1)) (ws, q, sh ++ [(x, ws.count x)]) = some T := h1
        simp only [List.length_cons] at h3
        simp only [s_nil, s_seq, s_frz, z_asg, z_asgO, z_asgR, z_par, z_pn, z_pc, z_aug, z_ex, z_ret, z_retN, z_retR, z_ite, z_brk, z_cont, z_pass, z_setIs, z_tn, w_cst, w_var, w_glo, w_bin, w_neg, w_not, w_and, w_or, w_cmp, w_cmp2, w_ife, w_idx, w_slc, w_no, w_so, w_cno, w_cso, w_tup, w_lst, w_dnew, w_nil, w_cons, w_call, w_blt, w_isi, w_iown, w_iseq, w_rng1, w_rng2b, nxK, varE, assignG, own1, oOf, Ev.putK, viewI, O.d, List.getElem?_cons_zero, List.getElem?_cons_succ, List.set_cons_zero, List.set_cons_succ, Option.some.injEq, exists_eq_left', D.bl.injEq, D.int.injEq, EV.own.injEq, b_add, b_adds, b_addl, b_mull, b_muls, b_sub, b_mul, b_fdiv, b_mod, b_pow, at0, at1, at2, at3, c_lt, c_le, c_gt, c_ge, c_eqi, c_nei, c_eqs, c_nes, c_eqb, Option.map_some, len_lst, len_tup, len_scr, f_abs, f_max, f_min, f_intb, f_inti, f_str, f_list_l, f_list_t, seq_lst, seq_str, seq_scr, ck_no, ite_true, if_true, if_false, Bool.false_eq_true, reduceCtorEq, decide_eq_true_eq, decide_eq_false_iff_not, Bool.not_eq_true', Bool.not_eq_false', Bool.not_true, Bool.not_false, not_true_eq_false, not_false_eq_true, true_and, and_true, forall_const, false_implies, implies_true, lpK, w_rngDb, c_isN, c_isnotN, w_mth, z_mcall, mc_own, mc_ref, z_mcallTo, mt_own, z_setK, si_own, si_ref, mw_app, mw_ext, sw_dct, keyOk_int, keyOk_str, setAll, idx_lst, idx_tup, z_retO, ro_own, fz_own, fz_v, ov_lst, ov_dct, ov_non, ov_int, ov_bl, ov_str, ov_tup, w_callF, w_callO, w_lset, Ev.w_rev, w_fld, w_meth, w_mkI, w_setd, w_dcp, z_setX, z_setF, v, decide_true, cnt_strs]
        refine ⟨sm (by simp), _, pop0 (x := .str x) (r := q.map .str) (by simp only [List.length_cons, List.length_map]; omega), ?_⟩
        simp only [s_nil, s_seq, s_frz, z_asg, z_asgO, z_asgR, z_par, z_pn, z_pc, z_aug, z_ex, z_ret, z_retN, z_retR, z_ite, z_brk, z_cont, z_pass, z_setIs, z_tn, w_cst, w_var, w_glo, w_bin, w_neg, w_not, w_and, w_or, w_cmp, w_cmp2, w_ife, w_idx, w_slc, w_no, w_so, w_cno, w_cso, w_tup, w_lst, w_dnew, w_nil, w_cons, w_call, w_blt, w_isi, w_iown, w_iseq, w_rng1, w_rng2b, nxK, varE, assignG, own1, oOf, Ev.putK, viewI, O.d, List.getElem?_cons_zero, List.getElem?_cons_succ, List.set_cons_zero, List.set_cons_succ, Option.some.injEq, exists_eq_left', D.bl.injEq, D.int.injEq, EV.own.injEq, b_add, b_adds, b_addl, b_mull, b_muls, b_sub, b_mul, b_fdiv, b_mod, b_pow, at0, at1, at2, at3, c_lt, c_le, c_gt, c_ge, c_eqi, c_nei, c_eqs, c_nes, c_eqb, Option.map_some, len_lst, len_tup, len_scr, f_abs, f_max, f_min, f_intb, f_inti, f_str, f_list_l, f_list_t, seq_lst, seq_str, seq_scr, ck_no, ite_true, if_true, if_false, Bool.false_eq_true, reduceCtorEq, decide_eq_true_eq, decide_eq_false_iff_not, Bool.not_eq_true', Bool.not_eq_false', Bool.not_true, Bool.not_false, not_true_eq_false, not_false_eq_true, true_and, and_true, forall_const, false_implies, implies_true, lpK, w_rngDb, c_isN, c_isnotN, w_mth, z_mcall, mc_own, mc_ref, z_mcallTo, mt_own, z_setK, si_own, si_ref, mw_app, mw_ext, sw_dct, keyOk_int, keyOk_str, setAll, idx_lst, idx_tup, z_retO, ro_own, fz_own, fz_v, ov_lst, ov_dct, ov_non, ov_int, ov_bl, ov_str, ov_tup, w_callF, w_callO, w_lset, Ev.w_rev, w_fld, w_meth, w_mkI, w_setd, w_dcp, z_setX, z_setF, cnt_strs, List.length_map]
        refine ⟨rfl, sm (by simp), by omega, (ws, q, sh ++ [(x, ws.count x)]), _, _, by rw [List.map_append]; rfl, h1, by show ws.length ≤ j + 1; omega, by show q.length ≤ j + 1; omega, by simp only [List.length_append, List.length_cons, List.length_nil]; omega⟩
    | wr x =>
      have h1 : pst (es.drop (j + 1)) (ws ++ [x], ex1 q x, sh) = some T := h1
      have i0 : idxop (E.wr x).d (.int 1) s = some (.str x) := at1
      have hql : (ex1 q x).length ≤ j + 1 := by
        unfold ex1
        split
        · exact Nat.le_succ_of_le h3
        · rw [List.length_append]
          exact Nat.succ_le_succ h3
      have fin : ∃ (t : PT) (u1 u5' : EV), [EV.v (.lst (es.map E.d)), .v (E.wr x).d, .own (.lst ((ws ++ [x]).map .str)), .own (.lst (sh.map wD)), .own (.lst ((ex1 q x).map .str)), u5] = [.v (.lst (es.map E.d)), u1, .own (.lst (t.1.map .str)), .own (.lst (t.2.2.map wD)), .own (.lst (t.2.1.map .str)), u5'] ∧ pst (es.drop (j + 1)) t = some T ∧ t.1.length ≤ j + 1 ∧ t.2.1.length ≤ j + 1 ∧ t.2.2.length ≤ j + 1 :=
        ⟨(ws ++ [x], ex1 q x, sh), _, _, rfl, h1, by simp only [List.length_append, List.length_cons, List.length_nil]; omega, hql, Nat.le_succ_of_le h4⟩
      have hex : ex1 q x = if x ∈ q then q else q ++ [x] := rfl
      have e9 : ws.map D.str ++ [D.str x] = (ws ++ [x]).map D.str := by rw [List.map_append]; rfl
      simp only [s_nil, s_seq, s_frz, z_asg, z_asgO, z_asgR, z_par, z_pn, z_pc, z_aug, z_ex, z_ret, z_retN, z_retR, z_ite, z_brk, z_cont, z_pass, z_setIs, z_tn, w_cst, w_var, w_glo, w_bin, w_neg, w_not, w_and, w_or, w_cmp, w_cmp2, w_ife, w_idx, w_slc, w_no, w_so, w_cno, w_cso, w_tup, w_lst, w_dnew, w_nil, w_cons, w_call, w_blt, w_isi, w_iown, w_iseq, w_rng1, w_rng2b, nxK, varE, assignG, own1, oOf, Ev.putK, viewI, O.d, List.getElem?_cons_zero, List.getElem?_cons_succ, List.set_cons_zero, List.set_cons_succ, Option.some.injEq, exists_eq_left', D.bl.injEq, D.int.injEq, EV.own.injEq, b_add, b_adds, b_addl, b_mull, b_muls, b_sub, b_mul, b_fdiv, b_mod, b_pow, at0, at1, at2, at3, c_lt, c_le, c_gt, c_ge, c_eqi, c_nei, c_eqs, c_nes, c_eqb, Option.map_some, len_lst, len_tup, len_scr, f_abs, f_max, f_min, f_intb, f_inti, f_str, f_list_l, f_list_t, seq_lst, seq_str, seq_scr, ck_no, ite_true, if_true, if_false, Bool.false_eq_true, reduceCtorEq, decide_eq_true_eq, decide_eq_false_iff_not, Bool.not_eq_true', Bool.not_eq_false', Bool.not_true, Bool.not_false, not_true_eq_false, not_false_eq_true, true_and, and_true, forall_const, false_implies, implies_true, lpK, w_rngDb, c_isN, c_isnotN, w_mth, z_mcall, mc_own, mc_ref, z_mcallTo, mt_own, z_setK, si_own, si_ref, mw_app, mw_ext, sw_dct, keyOk_int, keyOk_str, setAll, idx_lst, idx_tup, z_retO, ro_own, fz_own, fz_v, ov_lst, ov_dct, ov_non, ov_int, ov_bl, ov_str, ov_tup, w_callF, w_callO, w_lset, Ev.w_rev, w_fld, w_meth, w_mkI, w_setd, w_dcp, z_setX, z_setF, v, i0, List.length_map]
      rw [e9]
      refine ⟨sm (by simp), by omega, _, c_notin in_strs, fun hm => ?_, fun hm => ?_⟩
      · have hm : x ∉ q := by simpa using hm
        rw [hex, if_neg hm, List.map_append (l₁ := q)] at fin
        exact ⟨by omega, fin⟩
      · have hm : x ∈ q := by simpa using hm
        rw [hex, if_pos hm] at fin
        exact fin
  · rintro env s ⟨rfl, t, u1, u5, rfl, h1, h2, h3, h4⟩
    rw [List.drop_length] at h1
    cases h1
    have elc : ∀ w u1 u5, ev (callF P wf n) (assoc P.glob) w (.lc [5] (.nm 5) (.own 4) .no (.tup (.cons (.var 5) (.cons (.mth "count" (.var 2) (.cons (.var 5) .nil)) .nil))))
        [.v (.lst (es.map E.d)), u1, .v (.lst (T.1.map .str)), .v (.lst (T.2.2.map wD)), .v (.lst (T.2.1.map .str)), u5] s = .ok (.lst (T.2.1.map fun k => D.tup [.str k, .int (T.1.count k : Nat)])) s := fun w u1 u5 => by
      refine lc_eq0 (fun k => D.str k) (fun k => D.tup [.str k, .int (T.1.count k : Nat)]) (ck := .no) ?_ rfl (by omega) fun k hk => ⟨_, rfl, ?_⟩
      · simp only [s_nil, s_seq, s_frz, z_asg, z_asgO, z_asgR, z_par, z_pn, z_pc, z_aug, z_ex, z_ret, z_retN, z_retR, z_ite, z_brk, z_cont, z_pass, z_setIs, z_tn, w_cst, w_var, w_glo, w_bin, w_neg, w_not, w_and, w_or, w_cmp, w_cmp2, w_ife, w_idx, w_slc, w_no, w_so, w_cno, w_cso, w_tup, w_lst, w_dnew, w_nil, w_cons, w_call, w_blt, w_isi, w_iown, w_iseq, w_rng1, w_rng2b, nxK, varE, assignG, own1, oOf, Ev.putK, viewI, O.d, List.getElem?_cons_zero, List.getElem?_cons_succ, List.set_cons_zero, List.set_cons_succ, Option.some.injEq, exists_eq_left', D.bl.injEq, D.int.injEq, EV.own.injEq, b_add, b_adds, b_addl, b_mull, b_muls, b_sub, b_mul, b_fdiv, b_mod, b_pow, at0, at1, at2, at3, c_lt, c_le, c_gt, c_ge, c_eqi, c_nei, c_eqs, c_nes, c_eqb, Option.map_some, len_lst, len_tup, len_scr, f_abs, f_max, f_min, f_intb, f_inti, f_str, f_list_l, f_list_t, seq_lst, seq_str, seq_scr, ck_no, ite_true, if_true, if_false, Bool.false_eq_true, reduceCtorEq, decide_eq_true_eq, decide_eq_false_iff_not, Bool.not_eq_true', Bool.not_eq_false', Bool.not_true, Bool.not_false, not_true_eq_false, not_false_eq_true, true_and, and_true, forall_const, false_implies, implies_true, lpK, w_rngDb, c_isN, c_isnotN, w_mth, z_mcall, mc_own, mc_ref, z_mcallTo, mt_own, z_setK, si_own, si_ref, mw_app, mw_ext, sw_dct, keyOk_int, keyOk_str, setAll, idx_lst, idx_tup, z_retO, ro_own, fz_own, fz_v, ov_lst, ov_dct, ov_non, ov_int, ov_bl, ov_str, ov_tup, w_callF, w_callO, w_lset, Ev.w_rev, w_fld, w_meth, w_mkI, w_setd, w_dcp, z_setX, z_setF]
      · simp only [s_nil, s_seq, s_frz, z_asg, z_asgO, z_asgR, z_par, z_pn, z_pc, z_aug, z_ex, z_ret, z_retN, z_retR, z_ite, z_brk, z_cont, z_pass, z_setIs, z_tn, w_cst, w_var, w_glo, w_bin, w_neg, w_not, w_and, w_or, w_cmp, w_cmp2, w_ife, w_idx, w_slc, w_no, w_so, w_cno, w_cso, w_tup, w_lst, w_dnew, w_nil, w_cons, w_call, w_blt, w_isi, w_iown, w_iseq, w_rng1, w_rng2b, nxK, varE, assignG, own1, oOf, Ev.putK, viewI, O.d, List.getElem?_cons_zero, List.getElem?_cons_succ, List.set_cons_zero, List.set_cons_succ, Option.some.injEq, exists_eq_left', D.bl.injEq, D.int.injEq, EV.own.injEq, b_add, b_adds, b_addl, b_mull, b_muls, b_sub, b_mul, b_fdiv, b_mod, b_pow, at0, at1, at2, at3, c_lt, c_le, c_gt, c_ge, c_eqi, c_nei, c_eqs, c_nes, c_eqb, Option.map_some, len_lst, len_tup, len_scr, f_abs, f_max, f_min, f_intb, f_inti, f_str, f_list_l, f_list_t, seq_lst, seq_str, seq_scr, ck_no, ite_true, if_true, if_false, Bool.false_eq_true, reduceCtorEq, decide_eq_true_eq, decide_eq_false_iff_not, Bool.not_eq_true', Bool.not_eq_false', Bool.not_true, Bool.not_false, not_true_eq_false, not_false_eq_true, true_and, and_true, forall_const, false_implies, implies_true, lpK, w_rngDb, c_isN, c_isnotN, w_mth, z_mcall, mc_own, mc_ref, z_mcallTo, mt_own, z_setK, si_own, si_ref, mw_app, mw_ext, sw_dct, keyOk_int, keyOk_str, setAll, idx_lst, idx_tup, z_retO, ro_own, fz_own, fz_v, ov_lst, ov_dct, ov_non, ov_int, ov_bl, ov_str, ov_tup, w_callF, w_callO, w_lset, Ev.w_rev, w_fld, w_meth, w_mkI, w_setd, w_dcp, z_setX, z_setF, wipeE, cnt_strs]
        exact ⟨rfl, sm (by simp)⟩
    simp only [s_nil, s_seq, s_frz, z_asg, z_asgO, z_asgR, z_par, z_pn, z_pc, z_aug, z_ex, z_ret, z_retN, z_retR, z_ite, z_brk, z_cont, z_pass, z_setIs, z_tn, w_cst, w_var, w_glo, w_bin, w_neg, w_not, w_and, w_or, w_cmp, w_cmp2, w_ife, w_idx, w_slc, w_no, w_so, w_cno, w_cso, w_tup, w_lst, w_dnew, w_nil, w_cons, w_call, w_blt, w_isi, w_iown, w_iseq, w_rng1, w_rng2b, nxK, varE, assignG, own1, oOf, Ev.putK, viewI, O.d, List.getElem?_cons_zero, List.getElem?_cons_succ, List.set_cons_zero, List.set_cons_succ, Option.some.injEq, exists_eq_left', D.bl.injEq, D.int.injEq, EV.own.injEq, b_add, b_adds, b_addl, b_mull, b_muls, b_sub, b_mul, b_fdiv, b_mod, b_pow, at0, at1, at2, at3, c_lt, c_le, c_gt, c_ge, c_eqi, c_nei, c_eqs, c_nes, c_eqb, Option.map_some, len_lst, len_tup, len_scr, f_abs, f_max, f_min, f_intb, f_inti, f_str, f_list_l, f_list_t, seq_lst, seq_str, seq_scr, ck_no, ite_true, if_true, if_false, Bool.false_eq_true, reduceCtorEq, decide_eq_true_eq, decide_eq_false_iff_not, Bool.not_eq_true', Bool.not_eq_false', Bool.not_true, Bool.not_false, not_true_eq_false, not_false_eq_true, true_and, and_true, forall_const, false_implies, implies_true, lpK, w_rngDb, c_isN, c_isnotN, w_mth, z_mcall, mc_own, mc_ref, z_mcallTo, mt_own, z_setK, si_own, si_ref, mw_app, mw_ext, sw_dct, keyOk_int, keyOk_str, setAll, idx_lst, idx_tup, z_retO, ro_own, fz_own, fz_v, ov_lst, ov_dct, ov_non, ov_int, ov_bl, ov_str, ov_tup, w_callF, w_callO, w_lset, Ev.w_rev, w_fld, w_meth, w_mkI, w_setd, w_dcp, z_setX, z_setF, elc, all_ok]
    exact ⟨sm (by simp), k _⟩
/-- a display of two lists of the store, told -/
theorem f_repr2 {c k a b : Nat} {l m : List D} {st : Store} {Q : D → Store → Prop} (ha : st[a]? = some (.lst l)) (hb : st[b]? = some (.lst m)) (h : Rp c k (.lst [.lst l, .lst m])) (hc : c ≤ 200000) (hk : k ≤ 60) : (callB "repr" [.lst [.ref a, .ref b]] st).all Q ↔ Q (.str (rep (.lst [.lst l, .lst m]))) st := by
  have hok : okDs [.lst l, .lst m] = true := h.ok
  simp only [okDs, Bool.and_eq_true] at hok
  have ra : toPy st (.ref a) = some (pyD (.lst l)) := toPy_ref ha hok.1
  have rb : toPy st (.ref b) = some (pyD (.lst m)) := toPy_ref hb hok.2.1
  have e : callB "repr" [.lst [.ref a, .ref b]] st = .ok (.str (rep (.lst [.lst l, .lst m]))) st := by
    have h1 : toPy st (.lst [.ref a, .ref b]) = some (pyD (.lst [.lst l, .lst m])) := by
      show (toPs (dr1 st) [.ref a, .ref b]).map PyData.list = _
      have ra : toP (dr1 st) (.ref a) = some (pyD (.lst l)) := ra
      have rb : toP (dr1 st) (.ref b) = some (pyD (.lst m)) := rb
      simp only [toPs, ra, rb]
      rfl
    have h2 : (pyD (.lst [.lst l, .lst m])).showable = true ∧ (pyD (.lst [.lst l, .lst m])).shown.length ≤ sizeLine ∧ (pyD (.lst [.lst l, .lst m])).depth ≤ 60 := ⟨h.sh, rp_fits h hc, Nat.le_trans h.dp hk⟩
    show (match toPy st (.lst [.ref a, .ref b]) with
      | some p => if p.showable = true ∧ p.shown.length ≤ sizeLine ∧ p.depth ≤ 60 then .ok (.str p.shown) st else .bad
      | none => .bad : Res D) = _
    rw [h1]
    simp only [h2, and_self, if_true]
    rfl
  rw [e, all_ok]
theorem rp_send : Rp 5 1 (.tup [.str "send"]) := (Rp.tup (Rps.cons (Rp.str (n := 4) (by decide +kernel) (by decide +kernel)) .nil)).mono (by decide) (by decide)
theorem rp_E {e : E} (h : e.ok = true) : Rp 19 1 e.d := by
  cases e with
  | send => exact rp_send.mono (by decide) (by decide)
  | wr k =>
    have hk := keyB_ok (show keyB k = true from h)
    exact (Rp.tup (Rps.cons (Rp.str (n := 5) (s := "write") (by decide +kernel) (by decide +kernel)) (Rps.cons (Rp.str hk.1 hk.2) .nil))).mono (by decide) (by decide)
theorem rp_es {es : List E} {L : Nat} (h : ∀ e, e ∈ es → e.ok = true) (hz : es.length ≤ L) : Rp (L * 20) 2 (.lst (es.map E.d)) :=
  Rp.lst (Rps.all (c := 19) (k := 1) (fun x hx => by
    obtain ⟨e, he, rfl⟩ := List.mem_map.mp hx
    exact rp_E (h e he)) (by rw [List.length_map]; exact hz))
theorem rp_wD {x : Str × Nat} (h : keyB x.1 = true) (h2 : x.2 < 100000) : Rp 140 1 (wD x) :=
  (Rp.tup (Rps.cons (Rp.str (keyB_ok h).1 (keyB_ok h).2) (Rps.cons (Rp.int (i := x.2) (by omega)) .nil))).mono (by decide) (by decide)
/-- what is played has keys alone -/
theorem pst_ok : ∀ {es : List E} {t T : PT}, pst es t = some T → (∀ e, e ∈ es → e.ok = true) → (∀ k, k ∈ t.1 → keyB k = true) → (∀ k, k ∈ t.2.1 → keyB k = true) → (∀ x, x ∈ t.2.2 → keyB x.1 = true ∧ x.2 ≤ t.1.length) →
    (∀ k, k ∈ T.1 → keyB k = true) ∧ ∀ x, x ∈ T.2.2 → keyB x.1 = true ∧ x.2 ≤ T.1.length
  | [], t, T, h, _, h1, _, h3 => by
    cases h
    exact ⟨h1, h3⟩
  | .wr k :: es, (ws, q, sh), T, h, he, h1, h2, h3 => by
    have hk : keyB k = true := he (.wr k) List.mem_cons_self
    refine pst_ok (es := es) (t := (ws ++ [k], ex1 q k, sh)) h (fun e h => he e (List.mem_cons_of_mem _ h)) (fun x hx => ?_) (fun x hx => ?_) fun x hx => ⟨(h3 x hx).1, ?_⟩
    · rcases List.mem_append.mp hx with z | z
      · exact h1 x z
      · rw [List.mem_singleton.mp z]; exact hk
    · rcases mem_ex1.mp hx with z | z
      · exact h2 x z
      · rw [z]; exact hk
    · have := (h3 x hx).2
      simp only [List.length_append, List.length_cons, List.length_nil] at this ⊢
      omega
  | .send :: es, (ws, [], sh), T, h, _, _, _, _ => by cases h
  | .send :: es, (ws, k :: q, sh), T, h, he, h1, h2, h3 => by
    refine pst_ok (es := es) (t := (ws, q, sh ++ [(k, ws.count k)])) h (fun e h => he e (List.mem_cons_of_mem _ h)) h1 (fun x hx => h2 x (List.mem_cons_of_mem _ hx)) fun x hx => ?_
    rcases List.mem_append.mp hx with z | z
    · exact h3 x z
    · rw [List.mem_singleton.mp z]
      exact ⟨h2 k List.mem_cons_self, List.count_le_length⟩
theorem right_all {wf n : Nat} {es : List E} {st : Store} {Q : D → Store → Prop} (hg : FG.good es) (hz : es.length ≤ 1000)
    (q : ∀ st', st.length ≤ st'.length → (∀ i, i < st.length → st'[i]? = st[i]?) → (NL st → NL st') → Q (.bl true) st') : (callF P wf (n + 7) "_law_right" [.lst (es.map E.d)] st).all Q := by
  have hs : sizeLine = 16777216 := by rw [sizeLine_eq]
  have he := hg.1
  obtain ⟨T, hT⟩ := pst_of hg.2
  obtain ⟨k1, k2⟩ := pst_ok hT he (fun k h => by cases h) (fun k h => by cases h) (fun k h => by cases h)
  obtain ⟨l1, l2⟩ := pst_len hT
  simp only [List.length_nil, Nat.zero_add] at l1 l2
  have ew : wrs es = T.1 := by
    have := wrs_pst hT
    rw [this]
    rfl
  have hr : Rp (1000 * 20) 2 (.lst (es.map E.d)) := rp_es he hz
  have r1 : Rp (1000 * 13) 1 (.lst (T.1.map .str)) := Rp.lst (Rps.all (c := 12) (k := 0) (n := 1000) (fun x hx => by
    obtain ⟨k, hk, rfl⟩ := List.mem_map.mp hx
    exact Rp.str (keyB_ok (k1 k hk)).1 (keyB_ok (k1 k hk)).2) (by rw [List.length_map]; omega))
  have r2 : Rp (1000 * 141) 2 (.lst (T.2.2.map wD)) := Rp.lst (Rps.all (c := 140) (k := 1) (n := 1000) (fun x hx => by
    obtain ⟨k, hk, rfl⟩ := List.mem_map.mp hx
    exact rp_wD (k2 k hk).1 (by have := (k2 k hk).2; omega)) (by rw [List.length_map]; omega))
  have r3 : Rp 170000 3 (.lst [.lst (T.1.map .str), .lst (T.2.2.map wD)]) := (Rp.lst (Rps.cons r1 (Rps.cons r2 .nil))).mono (by decide) (by decide)
  refine call_all (cd := cd__law_right) (env := [.v (.lst (es.map E.d)), .un, .un, .un, .un]) rfl rfl ?_
  simp only [s_nil, s_seq, s_frz, z_asg, z_asgO, z_asgR, z_par, z_pn, z_pc, z_aug, z_ex, z_ret, z_retN, z_retR, z_ite, z_brk, z_cont, z_pass, z_setIs, z_tn, w_cst, w_var, w_glo, w_bin, w_neg, w_not, w_and, w_or, w_cmp, w_cmp2, w_ife, w_idx, w_slc, w_no, w_so, w_cno, w_cso, w_tup, w_lst, w_dnew, w_nil, w_cons, w_call, w_blt, w_isi, w_iown, w_iseq, w_rng1, w_rng2b, nxK, varE, assignG, own1, oOf, Ev.putK, viewI, O.d, List.getElem?_cons_zero, List.getElem?_cons_succ, List.set_cons_zero, List.set_cons_succ, Option.some.injEq, exists_eq_left', D.bl.injEq, D.int.injEq, EV.own.injEq, b_add, b_adds, b_addl, b_mull, b_muls, b_sub, b_mul, b_fdiv, b_mod, b_pow, at0, at1, at2, at3, c_lt, c_le, c_gt, c_ge, c_eqi, c_nei, c_eqs, c_nes, c_eqb, Option.map_some, len_lst, len_tup, len_scr, f_abs, f_max, f_min, f_intb, f_inti, f_str, f_list_l, f_list_t, seq_lst, seq_str, seq_scr, ck_no, ite_true, if_true, if_false, Bool.false_eq_true, reduceCtorEq, decide_eq_true_eq, decide_eq_false_iff_not, Bool.not_eq_true', Bool.not_eq_false', Bool.not_true, Bool.not_false, not_true_eq_false, not_false_eq_true, true_and, and_true, forall_const, false_implies, implies_true, lpK, w_rngDb, c_isN, c_isnotN, w_mth, z_mcall, mc_own, mc_ref, z_mcallTo, mt_own, z_setK, si_own, si_ref, mw_app, mw_ext, sw_dct, keyOk_int, keyOk_str, setAll, idx_lst, idx_tup, z_retO, ro_own, fz_own, fz_v, ov_lst, ov_dct, ov_non, ov_int, ov_bl, ov_str, ov_tup, w_callF, w_callO, w_lset, Ev.w_rev, w_fld, w_meth, w_mkI, w_setd, w_dcp, z_setX, z_setF, cd__law_right, f_repr hr (by decide) (by decide)]
  refine played_all (n := n + 5) he (by omega) hT fun x => ?_
  rw [z_for]
  simp only [s_nil, s_seq, s_frz, z_asg, z_asgO, z_asgR, z_par, z_pn, z_pc, z_aug, z_ex, z_ret, z_retN, z_retR, z_ite, z_brk, z_cont, z_pass, z_setIs, z_tn, w_cst, w_var, w_glo, w_bin, w_neg, w_not, w_and, w_or, w_cmp, w_cmp2, w_ife, w_idx, w_slc, w_no, w_so, w_cno, w_cso, w_tup, w_lst, w_dnew, w_nil, w_cons, w_call, w_blt, w_isi, w_iown, w_iseq, w_rng1, w_rng2b, nxK, varE, assignG, own1, oOf, Ev.putK, viewI, O.d, List.getElem?_cons_zero, List.getElem?_cons_succ, List.set_cons_zero, List.set_cons_succ, Option.some.injEq, exists_eq_left', D.bl.injEq, D.int.injEq, EV.own.injEq, b_add, b_adds, b_addl, b_mull, b_muls, b_sub, b_mul, b_fdiv, b_mod, b_pow, at0, at1, at2, at3, c_lt, c_le, c_gt, c_ge, c_eqi, c_nei, c_eqs, c_nes, c_eqb, Option.map_some, len_lst, len_tup, len_scr, f_abs, f_max, f_min, f_intb, f_inti, f_str, f_list_l, f_list_t, seq_lst, seq_str, seq_scr, ck_no, ite_true, if_true, if_false, Bool.false_eq_true, reduceCtorEq, decide_eq_true_eq, decide_eq_false_iff_not, Bool.not_eq_true', Bool.not_eq_false', Bool.not_true, Bool.not_false, not_true_eq_false, not_false_eq_true, true_and, and_true, forall_const, false_implies, implies_true, lpK, w_rngDb, c_isN, c_isnotN, w_mth, z_mcall, mc_own, mc_ref, z_mcallTo, mt_own, z_setK, si_own, si_ref, mw_app, mw_ext, sw_dct, keyOk_int, keyOk_str, setAll, idx_lst, idx_tup, z_retO, ro_own, fz_own, fz_v, ov_lst, ov_dct, ov_non, ov_int, ov_bl, ov_str, ov_tup, w_callF, w_callO, w_lset, Ev.w_rev, w_fld, w_meth, w_mkI, w_setd, w_dcp, z_setX, z_setF]
  refine ⟨by decide, rfl, for_rng (fun j e s => (∃ u1 u4, e = [.v (.lst (es.map E.d)), u1, .v (.str (rep (.lst (es.map E.d)))), .v (.tup [.lst (T.1.map .str), .lst (T.2.2.map wD), x]), u4]) ∧ st.length ≤ s.length ∧ (∀ i, i < st.length → s[i]? = st[i]?) ∧ (NL st → NL s)) ⟨⟨_, _, rfl⟩, Nat.le_refl _, fun _ _ => rfl, id⟩ ?_ ?_⟩
  · rintro j e s hj ⟨⟨u1, u4, rfl⟩, h1, h2, h3⟩
    refine ⟨_, rfl, ?_⟩
    simp only [s_nil, s_seq, s_frz, z_asg, z_asgO, z_asgR, z_par, z_pn, z_pc, z_aug, z_ex, z_ret, z_retN, z_retR, z_ite, z_brk, z_cont, z_pass, z_setIs, z_tn, w_cst, w_var, w_glo, w_bin, w_neg, w_not, w_and, w_or, w_cmp, w_cmp2, w_ife, w_idx, w_slc, w_no, w_so, w_cno, w_cso, w_tup, w_lst, w_dnew, w_nil, w_cons, w_call, w_blt, w_isi, w_iown, w_iseq, w_rng1, w_rng2b, nxK, varE, assignG, own1, oOf, Ev.putK, viewI, O.d, List.getElem?_cons_zero, List.getElem?_cons_succ, List.set_cons_zero, List.set_cons_succ, Option.some.injEq, exists_eq_left', D.bl.injEq, D.int.injEq, EV.own.injEq, b_add, b_adds, b_addl, b_mull, b_muls, b_sub, b_mul, b_fdiv, b_mod, b_pow, at0, at1, at2, at3, c_lt, c_le, c_gt, c_ge, c_eqi, c_nei, c_eqs, c_nes, c_eqb, Option.map_some, len_lst, len_tup, len_scr, f_abs, f_max, f_min, f_intb, f_inti, f_str, f_list_l, f_list_t, seq_lst, seq_str, seq_scr, ck_no, ite_true, if_true, if_false, Bool.false_eq_true, reduceCtorEq, decide_eq_true_eq, decide_eq_false_iff_not, Bool.not_eq_true', Bool.not_eq_false', Bool.not_true, Bool.not_false, not_true_eq_false, not_false_eq_true, true_and, and_true, forall_const, false_implies, implies_true, lpK, w_rngDb, c_isN, c_isnotN, w_mth, z_mcall, mc_own, mc_ref, z_mcallTo, mt_own, z_setK, si_own, si_ref, mw_app, mw_ext, sw_dct, keyOk_int, keyOk_str, setAll, idx_lst, idx_tup, z_retO, ro_own, fz_own, fz_v, ov_lst, ov_dct, ov_non, ov_int, ov_bl, ov_str, ov_tup, w_callF, w_callO, w_lset, Ev.w_rev, w_fld, w_meth, w_mkI, w_setd, w_dcp, z_setX, z_setF]
    refine writes_all (n := n) he (by omega) hg.2 ?_
    rw [ew]
    refine shown_all (n := n) he (by omega) hT fun s2 g1 g2 g3 g4 => ?_
    rw [List.length_append, List.length_singleton] at g1 g2 g3
    have ga : s2[s.length]? = some (.lst (T.1.map .str)) := by
      rw [g3 _ (Nat.lt_succ_self _), List.getElem?_append_right (Nat.le_refl _), Nat.sub_self]
      rfl
    have e0 : ∀ s', idxop (.tup [.lst (T.1.map .str), .lst (T.2.2.map wD), x]) (.int 0) s' = some (.lst (T.1.map .str)) := fun s' => at0
    have e1 : ∀ s', idxop (.tup [.lst (T.1.map .str), .lst (T.2.2.map wD), x]) (.int 1) s' = some (.lst (T.2.2.map wD)) := fun s' => at1
    simp only [s_nil, s_seq, s_frz, z_asg, z_asgO, z_asgR, z_par, z_pn, z_pc, z_aug, z_ex, z_ret, z_retN, z_retR, z_ite, z_brk, z_cont, z_pass, z_setIs, z_tn, w_cst, w_var, w_glo, w_bin, w_neg, w_not, w_and, w_or, w_cmp, w_cmp2, w_ife, w_idx, w_slc, w_no, w_so, w_cno, w_cso, w_tup, w_lst, w_dnew, w_nil, w_cons, w_call, w_blt, w_isi, w_iown, w_iseq, w_rng1, w_rng2b, nxK, varE, assignG, own1, oOf, Ev.putK, viewI, O.d, List.getElem?_cons_zero, List.getElem?_cons_succ, List.set_cons_zero, List.set_cons_succ, Option.some.injEq, exists_eq_left', D.bl.injEq, D.int.injEq, EV.own.injEq, b_add, b_adds, b_addl, b_mull, b_muls, b_sub, b_mul, b_fdiv, b_mod, b_pow, at0, at1, at2, at3, c_lt, c_le, c_gt, c_ge, c_eqi, c_nei, c_eqs, c_nes, c_eqb, Option.map_some, len_lst, len_tup, len_scr, f_abs, f_max, f_min, f_intb, f_inti, f_str, f_list_l, f_list_t, seq_lst, seq_str, seq_scr, ck_no, ite_true, if_true, if_false, Bool.false_eq_true, reduceCtorEq, decide_eq_true_eq, decide_eq_false_iff_not, Bool.not_eq_true', Bool.not_eq_false', Bool.not_true, Bool.not_false, not_true_eq_false, not_false_eq_true, true_and, and_true, forall_const, false_implies, implies_true, lpK, w_rngDb, c_isN, c_isnotN, w_mth, z_mcall, mc_own, mc_ref, z_mcallTo, mt_own, z_setK, si_own, si_ref, mw_app, mw_ext, sw_dct, keyOk_int, keyOk_str, setAll, idx_lst, idx_tup, z_retO, ro_own, fz_own, fz_v, ov_lst, ov_dct, ov_non, ov_int, ov_bl, ov_str, ov_tup, w_callF, w_callO, w_lset, Ev.w_rev, w_fld, w_meth, w_mkI, w_setd, w_dcp, z_setX, z_setF, List.length_append, List.length_singleton, f_repr2 ga g1 r3 (by decide) (by decide), e0, e1, f_repr r3 (by decide) (by decide), f_repr hr (by decide) (by decide), decide_true]
    refine ⟨sm (by simp), sm (by simp), w_mutX ?_⟩
    have i0 : ∀ s', idxop (.lst [.ref s.length, .ref (s.length + 1 + 3)]) (.int 0) s' = some (.ref s.length) := fun s' => at0
    have i1 : ∀ s', idxop (.lst [.ref s.length, .ref (s.length + 1 + 3)]) (.int 1) s' = some (.ref (s.length + 1 + 3)) := fun s' => at1
    simp only [s_nil, s_seq, s_frz, z_asg, z_asgO, z_asgR, z_par, z_pn, z_pc, z_aug, z_ex, z_ret, z_retN, z_retR, z_ite, z_brk, z_cont, z_pass, z_setIs, z_tn, w_cst, w_var, w_glo, w_bin, w_neg, w_not, w_and, w_or, w_cmp, w_cmp2, w_ife, w_idx, w_slc, w_no, w_so, w_cno, w_cso, w_tup, w_lst, w_dnew, w_nil, w_cons, w_call, w_blt, w_isi, w_iown, w_iseq, w_rng1, w_rng2b, nxK, varE, assignG, own1, oOf, Ev.putK, viewI, O.d, List.getElem?_cons_zero, List.getElem?_cons_succ, List.set_cons_zero, List.set_cons_succ, Option.some.injEq, exists_eq_left', D.bl.injEq, D.int.injEq, EV.own.injEq, b_add, b_adds, b_addl, b_mull, b_muls, b_sub, b_mul, b_fdiv, b_mod, b_pow, at0, at1, at2, at3, c_lt, c_le, c_gt, c_ge, c_eqi, c_nei, c_eqs, c_nes, c_eqb, Option.map_some, len_lst, len_tup, len_scr, f_abs, f_max, f_min, f_intb, f_inti, f_str, f_list_l, f_list_t, seq_lst, seq_str, seq_scr, ck_no, ite_true, if_true, if_false, Bool.false_eq_true, reduceCtorEq, decide_eq_true_eq, decide_eq_false_iff_not, Bool.not_eq_true', Bool.not_eq_false', Bool.not_true, Bool.not_false, not_true_eq_false, not_false_eq_true, true_and, and_true, forall_const, false_implies, implies_true, lpK, w_rngDb, c_isN, c_isnotN, w_mth, z_mcall, mc_own, mc_ref, z_mcallTo, mt_own, z_setK, si_own, si_ref, mw_app, mw_ext, sw_dct, keyOk_int, keyOk_str, setAll, idx_lst, idx_tup, z_retO, ro_own, fz_own, fz_v, ov_lst, ov_dct, ov_non, ov_int, ov_bl, ov_str, ov_tup, w_callF, w_callO, w_lset, Ev.w_rev, w_fld, w_meth, w_mkI, w_setd, w_dcp, z_setX, z_setF, i0, D.ref.injEq]
    refine ⟨⟨_, ga⟩, _, ga, by rw [List.length_map]; omega, w_mutX ?_⟩
    obtain ⟨s3, hs3⟩ : ∃ s3, s3 = List.set s2 s.length (O.lst (T.1.map D.str ++ [D.str (Str.ofString "more")])) := ⟨_, rfl⟩
    rw [← hs3]
    have gb : s3[s.length + 1 + 3]? = some (.lst (T.2.2.map wD)) := by rw [hs3, List.getElem?_set_ne (by omega)]; exact g1
    simp only [s_nil, s_seq, s_frz, z_asg, z_asgO, z_asgR, z_par, z_pn, z_pc, z_aug, z_ex, z_ret, z_retN, z_retR, z_ite, z_brk, z_cont, z_pass, z_setIs, z_tn, w_cst, w_var, w_glo, w_bin, w_neg, w_not, w_and, w_or, w_cmp, w_cmp2, w_ife, w_idx, w_slc, w_no, w_so, w_cno, w_cso, w_tup, w_lst, w_dnew, w_nil, w_cons, w_call, w_blt, w_isi, w_iown, w_iseq, w_rng1, w_rng2b, nxK, varE, assignG, own1, oOf, Ev.putK, viewI, O.d, List.getElem?_cons_zero, List.getElem?_cons_succ, List.set_cons_zero, List.set_cons_succ, Option.some.injEq, exists_eq_left', D.bl.injEq, D.int.injEq, EV.own.injEq, b_add, b_adds, b_addl, b_mull, b_muls, b_sub, b_mul, b_fdiv, b_mod, b_pow, at0, at1, at2, at3, c_lt, c_le, c_gt, c_ge, c_eqi, c_nei, c_eqs, c_nes, c_eqb, Option.map_some, len_lst, len_tup, len_scr, f_abs, f_max, f_min, f_intb, f_inti, f_str, f_list_l, f_list_t, seq_lst, seq_str, seq_scr, ck_no, ite_true, if_true, if_false, Bool.false_eq_true, reduceCtorEq, decide_eq_true_eq, decide_eq_false_iff_not, Bool.not_eq_true', Bool.not_eq_false', Bool.not_true, Bool.not_false, not_true_eq_false, not_false_eq_true, true_and, and_true, forall_const, false_implies, implies_true, lpK, w_rngDb, c_isN, c_isnotN, w_mth, z_mcall, mc_own, mc_ref, z_mcallTo, mt_own, z_setK, si_own, si_ref, mw_app, mw_ext, sw_dct, keyOk_int, keyOk_str, setAll, idx_lst, idx_tup, z_retO, ro_own, fz_own, fz_v, ov_lst, ov_dct, ov_non, ov_int, ov_bl, ov_str, ov_tup, w_callF, w_callO, w_lset, Ev.w_rev, w_fld, w_meth, w_mkI, w_setd, w_dcp, z_setX, z_setF, i1, D.ref.injEq]
    refine ⟨⟨_, gb⟩, sm (by simp), _, gb, by rw [List.length_map]; omega, ⟨_, _, rfl⟩, ?_, fun i hi => ?_, fun hN => ?_⟩
    · rw [List.length_set, hs3, List.length_set]
      omega
    · rw [List.getElem?_set_ne (by omega), hs3, List.getElem?_set_ne (by omega), g3 i (by omega), List.getElem?_append_left (by omega)]
      exact h2 i hi
    · have hN2 : NL s2 := g4 ((h3 hN).push (o := .lst _) (noLs_strs T.1))
      have hN3 : NL s3 := by
        rw [hs3]
        refine hN2.set (o := .lst _) ?_ _
        have := noLs_strs (T.1 ++ [Str.ofString "more"])
        rw [List.map_append] at this
        exact this
      refine hN3.set (o := .lst _) ?_ _
      have := noLs_lg (T.2.2 ++ [(Str.ofString "more", 1)])
      rw [List.map_append] at this
      exact this
  · rintro e s ⟨⟨u1, u4, rfl⟩, h1, h2, h3⟩
    simp only [s_nil, s_seq, s_frz, z_asg, z_asgO, z_asgR, z_par, z_pn, z_pc, z_aug, z_ex, z_ret, z_retN, z_retR, z_ite, z_brk, z_cont, z_pass, z_setIs, z_tn, w_cst, w_var, w_glo, w_bin, w_neg, w_not, w_and, w_or, w_cmp, w_cmp2, w_ife, w_idx, w_slc, w_no, w_so, w_cno, w_cso, w_tup, w_lst, w_dnew, w_nil, w_cons, w_call, w_blt, w_isi, w_iown, w_iseq, w_rng1, w_rng2b, nxK, varE, assignG, own1, oOf, Ev.putK, viewI, O.d, List.getElem?_cons_zero, List.getElem?_cons_succ, List.set_cons_zero, List.set_cons_succ, Option.some.injEq, exists_eq_left', D.bl.injEq, D.int.injEq, EV.own.injEq, b_add, b_adds, b_addl, b_mull, b_muls, b_sub, b_mul, b_fdiv, b_mod, b_pow, at0, at1, at2, at3, c_lt, c_le, c_gt, c_ge, c_eqi, c_nei, c_eqs, c_nes, c_eqb, Option.map_some, len_lst, len_tup, len_scr, f_abs, f_max, f_min, f_intb, f_inti, f_str, f_list_l, f_list_t, seq_lst, seq_str, seq_scr, ck_no, ite_true, if_true, if_false, Bool.false_eq_true, reduceCtorEq, decide_eq_true_eq, decide_eq_false_iff_not, Bool.not_eq_true', Bool.not_eq_false', Bool.not_true, Bool.not_false, not_true_eq_false, not_false_eq_true, true_and, and_true, forall_const, false_implies, implies_true, lpK, w_rngDb, c_isN, c_isnotN, w_mth, z_mcall, mc_own, mc_ref, z_mcallTo, mt_own, z_setK, si_own, si_ref, mw_app, mw_ext, sw_dct, keyOk_int, keyOk_str, setAll, idx_lst, idx_tup, z_retO, ro_own, fz_own, fz_v, ov_lst, ov_dct, ov_non, ov_int, ov_bl, ov_str, ov_tup, w_callF, w_callO, w_lset, Ev.w_rev, w_fld, w_meth, w_mkI, w_setd, w_dcp, z_setX, z_setF]
    exact q s h1 h2 h3
end K05
/-! K05b: the law -/
open PySem L2 Ev PySem.Spec PyProof.Rows FK FR FG FQ GV FI FU
open FB (NL Fr rngL_len in62_of mul_small2 pow_ok2 noLs_strs noLs_of)
namespace K05
def bA : CSs := .cons (.asgO 4 (.callF "_law_drawn_run" (.cons (.var 2) (.cons (.callF "_law_keys" (.cons (.var 2) (.cons (.var 3) .nil))) (.cons (.call "_law_draw" (.cons (.var 2) (.cons (.cst (.int 61)) .nil))) .nil))))) (.cons (.ite (.not (.callO false "_law_right" (.cons (.var 4) .nil))) (.cons (.ret (.cst (.bl false))) .nil) .nil) (.cons (.mcall 4 "append" (.cons (.tup (.cons (.cst (.str "write")) (.cons (.cst (.str "more")) .nil))) .nil)) (.cons (.ite (.not (.callO false "_law_right" (.cons (.var 4) .nil))) (.cons (.ret (.cst (.bl false))) .nil) .nil) (.cons (.mcall 4 "append" (.cons (.tup (.cons (.cst (.str "send")) .nil)) .nil)) (.cons (.ite (.not (.callO false "_law_right" (.cons (.var 4) .nil))) (.cons (.ret (.cst (.bl false))) .nil) .nil) .nil)))))
def sA : CS := .for_ (.nm 3) (.seq (.lst (.cons (.cst (.int 2)) (.cons (.cst (.int 4)) (.cons (.cst (.int 10)) .nil))))) bA
def bF : CSs := .cons (.ite (.not (.call "_law_right" (.cons (.callF "_law_drawn_run" (.cons (.var 2) (.cons (.var 5) (.cons (.cst (.int 1000)) .nil)))) .nil))) (.cons (.ret (.cst (.bl false))) .nil) .nil) .nil
def sB : CS := .ite (.cmp .eq (.var 1) (.cst (.int 0))) (.cons (.for_ (.nm 5) (.seq (.lst (.cons (.callF "_law_keys" (.cons (.var 2) (.cons (.cst (.int 10)) .nil))) (.cons (.lc [6] (.nm 6) (.rng1 (.cst (.int 300))) .no (.bin .add (.cst (.str "k")) (.blt "str" (.cons (.var 6) .nil)))) .nil)))) bF) .nil) .nil
theorem cd_law_eq : cd_law = ⟨1, 7, [], (.cons (.for_ (.nm 1) (.rng1 (.blt "max" (.cons (.cst (.int 1)) (.cons (.blt "min" (.cons (.cst (.int 5)) (.cons (.blt "len" (.cons (.var 0) .nil)) .nil))) .nil)))) (.cons (.asg (.nm 2) (.call "_law_source" (.cons (.var 0) (.cons (.var 1) .nil)))) (.cons sA (.cons sB .nil)))) (.cons (.ret (.and (.cmp .eq (.call "writes_of" (.cons (.lst .nil) .nil)) (.lst .nil)) (.cmp .eq (.call "shown_by" (.cons (.lst (.cons (.tup (.cons (.cst (.str "write")) (.cons (.cst (.str "a")) .nil))) (.cons (.tup (.cons (.cst (.str "write")) (.cons (.cst (.str "a")) .nil))) (.cons (.tup (.cons (.cst (.str "send")) .nil)) .nil)))) .nil)) (.lst (.cons (.tup (.cons (.cst (.str "a")) (.cons (.cst (.int 2)) .nil))) .nil))))) .nil))⟩ := rfl
def kn (i : Nat) : Str := ("k" : Str) ++ (toString (i : Int) : Str)
theorem kn_ok : ∀ i, i < 300 → keyB (kn i) = true ∧ (toString (i : Int) : Str).length ≤ 1000 ∧ ((i : Int)).natAbs.log2 < 1920 := by
  have h : (List.range 300).all (fun i => keyB (kn i) && (decide ((toString (i : Int) : Str).length ≤ 1000) && decide (((i : Int)).natAbs.log2 < 1920))) = true := by decide +kernel
  intro i hi
  have := List.all_eq_true.mp h i (List.mem_range.mpr hi)
  simp only [Bool.and_eq_true, decide_eq_true_eq] at this
  exact this
def big : List Str := (List.range 300).map kn
theorem big_ok : ∀ k, k ∈ big → keyB k = true := fun k hk => by
  obtain ⟨i, hi, rfl⟩ := List.mem_map.mp hk
  exact (kn_ok i (List.mem_range.mp hi)).1
theorem big_len : big.length = 300 := by simp [big]
theorem ok_more : keyB (Str.ofString "more") = true := by decide +kernel
theorem good_more {es : List E} (h : FG.good es) : FG.good (es ++ [.wr (Str.ofString "more")]) := by
  refine ⟨fun e he => ?_, ?_⟩
  · rcases List.mem_append.mp he with z | z
    · exact h.1 e z
    · rw [List.mem_singleton.mp z]
      exact ok_more
  · rw [play_append]
    have h2 := h.2
    cases hp : play [] es with
    | none =>
      rw [hp] at h2
      cases h2
    | some ws => rfl
theorem good_send {es : List E} (h : FG.good es) : FG.good (es ++ [.wr (Str.ofString "more")] ++ [.send]) := by
  refine ⟨fun e he => ?_, ?_⟩
  · rcases List.mem_append.mp he with z | z
    · exact (good_more h).1 e z
    · rw [List.mem_singleton.mp z]
      rfl
  · rw [play_append, play_append]
    have h2 := h.2
    cases hp : play [] es with
    | none =>
      rw [hp] at h2
      cases h2
    | some ws =>
      show (play (if Str.ofString "more" ∈ ws then ws else ws ++ [Str.ofString "more"]) [.send]).isSome = true
      have : (if Str.ofString "more" ∈ ws then ws else ws ++ [Str.ofString "more"]) ≠ [] := by
        split
        · rename_i hm
          exact List.ne_nil_of_mem hm
        · simp
      cases hq : (if Str.ofString "more" ∈ ws then ws else ws ++ [Str.ofString "more"]) with
      | nil => exact absurd hq this
      | cons a r => rfl
theorem good_nil : FG.good [] := ⟨fun _ h => (by cases h), rfl⟩
section
variable {wf n l : Nat} {b : Int} {v0 v1 v3 v4 v5 v6 : EV} {st : Store} {QO : Out → Store → Prop}
/-- the frame's own run is right -/
theorem rightO {es : List E} {l : Nat} {b : Int} {s : Store} {Q : D → Store → Prop} (hp : PZ s l b) (hg : FG.good es) (hz : es.length ≤ 1000) (q : ∀ s', PZ s' l b → Q (.bl true) s') : (callF P wf (n + 7) "_law_right" [.lst (es.map E.d)] s).all fun d s => okX false d s = true ∧ Q d s := by
  refine right_all (n := n) hg hz fun s1 h1 h2 h3 => ?_
  have hN := h3 hp.2
  exact ⟨okX_bl hN, q s1 (hp.fr (h2 l hp.lt) hN)⟩
theorem sA_all (hp : PZ st l b) (hb0 : 0 ≤ b) (hb : b < 2 ^ 30) (hq : ∀ v3 v4 s, PZ s l (b + 1000) → QO (.nx [v0, v1, .v (.ref l), v3, v4, v5, v6]) s) : (evS (callF P wf (n + 7)) (assoc P.glob) wf sA [v0, v1, .v (.ref l), v3, v4, v5, v6] st).all QO := by
  have hs : sizeLine = 16777216 := by rw [sizeLine_eq]
  unfold sA
  rw [z_for]
  simp only [s_nil, s_seq, s_frz, z_asg, z_asgO, z_asgR, z_par, z_pn, z_pc, z_aug, z_ex, z_ret, z_retN, z_retR, z_ite, z_brk, z_cont, z_pass, z_setIs, z_tn, w_cst, w_var, w_glo, w_bin, w_neg, w_not, w_and, w_or, w_cmp, w_cmp2, w_ife, w_idx, w_slc, w_no, w_so, w_cno, w_cso, w_tup, w_lst, w_dnew, w_nil, w_cons, w_call, w_blt, w_isi, w_iown, w_iseq, w_rng1, w_rng2b, nxK, varE, assignG, own1, oOf, Ev.putK, viewI, O.d, List.getElem?_cons_zero, List.getElem?_cons_succ, List.set_cons_zero, List.set_cons_succ, Option.some.injEq, exists_eq_left', D.bl.injEq, D.int.injEq, EV.own.injEq, b_add, b_adds, b_addl, b_mull, b_muls, b_sub, b_mul, b_fdiv, b_mod, b_pow, at0, at1, at2, at3, c_lt, c_le, c_gt, c_ge, c_eqi, c_nei, c_eqs, c_nes, c_eqb, Option.map_some, len_lst, len_tup, len_scr, f_abs, f_max, f_min, f_intb, f_inti, f_str, f_list_l, f_list_t, seq_lst, seq_str, seq_scr, ck_no, ite_true, if_true, if_false, Bool.false_eq_true, reduceCtorEq, decide_eq_true_eq, decide_eq_false_iff_not, Bool.not_eq_true', Bool.not_eq_false', Bool.not_true, Bool.not_false, not_true_eq_false, not_false_eq_true, true_and, and_true, forall_const, false_implies, implies_true, lpK, w_rngDb, c_isN, c_isnotN, w_mth, z_mcall, mc_own, mc_ref, z_mcallTo, mt_own, z_setK, si_own, si_ref, mw_app, mw_ext, sw_dct, keyOk_int, keyOk_str, setAll, idx_lst, idx_tup, z_retO, ro_own, fz_own, fz_v, ov_lst, ov_dct, ov_non, ov_int, ov_bl, ov_str, ov_tup, w_callF, w_callO, w_lset, Ev.w_rev, w_fld, w_meth, w_mkI, w_setd, w_dcp, z_setX, z_setF]
  have e : [D.int 2, .int 4, .int 10] = ([2, 4, 10] : List Nat).map fun (i : Nat) => D.int i := rfl
  rw [e]
  refine ⟨by rw [hs]; decide, rfl, for_map (fun j e s => PZ s l (b + 300 * j) ∧ ∃ v3 v4, e = [v0, v1, .v (.ref l), v3, v4, v5, v6]) ⟨hp.mono (by omega), _, _, rfl⟩ (fun _ _ _ _ _ => rfl) ?_ ?_⟩
  · rintro j m e s hj ⟨hp, v3, v4, rfl⟩
    have hj3 : j < 3 := some_lt hj
    have hm : 1 ≤ m ∧ m ≤ 12 := by
      have := List.mem_of_getElem? hj
      simp at this
      omega
    refine ⟨_, rfl, ?_⟩
    unfold bA
    simp only [s_nil, s_seq, s_frz, z_asg, z_asgO, z_asgR, z_par, z_pn, z_pc, z_aug, z_ex, z_ret, z_retN, z_retR, z_ite, z_brk, z_cont, z_pass, z_setIs, z_tn, w_cst, w_var, w_glo, w_bin, w_neg, w_not, w_and, w_or, w_cmp, w_cmp2, w_ife, w_idx, w_slc, w_no, w_so, w_cno, w_cso, w_tup, w_lst, w_dnew, w_nil, w_cons, w_call, w_blt, w_isi, w_iown, w_iseq, w_rng1, w_rng2b, nxK, varE, assignG, own1, oOf, Ev.putK, viewI, O.d, List.getElem?_cons_zero, List.getElem?_cons_succ, List.set_cons_zero, List.set_cons_succ, Option.some.injEq, exists_eq_left', D.bl.injEq, D.int.injEq, EV.own.injEq, b_add, b_adds, b_addl, b_mull, b_muls, b_sub, b_mul, b_fdiv, b_mod, b_pow, at0, at1, at2, at3, c_lt, c_le, c_gt, c_ge, c_eqi, c_nei, c_eqs, c_nes, c_eqb, Option.map_some, len_lst, len_tup, len_scr, f_abs, f_max, f_min, f_intb, f_inti, f_str, f_list_l, f_list_t, seq_lst, seq_str, seq_scr, ck_no, ite_true, if_true, if_false, Bool.false_eq_true, reduceCtorEq, decide_eq_true_eq, decide_eq_false_iff_not, Bool.not_eq_true', Bool.not_eq_false', Bool.not_true, Bool.not_false, not_true_eq_false, not_false_eq_true, true_and, and_true, forall_const, false_implies, implies_true, lpK, w_rngDb, c_isN, c_isnotN, w_mth, z_mcall, mc_own, mc_ref, z_mcallTo, mt_own, z_setK, si_own, si_ref, mw_app, mw_ext, sw_dct, keyOk_int, keyOk_str, setAll, idx_lst, idx_tup, z_retO, ro_own, fz_own, fz_v, ov_lst, ov_dct, ov_non, ov_int, ov_bl, ov_str, ov_tup, w_callF, w_callO, w_lset, Ev.w_rev, w_fld, w_meth, w_mkI, w_setd, w_dcp, z_setX, z_setF]
    refine keys_all (n := n + 4) hp (by omega) (by omega) hm.1 hm.2 fun ks s1 k1 k2 k3 hp1 hF1 => ?_
    refine draw_all hp1 (by omega) (by decide) (by decide) fun r s2 r0 r1 hp2 hl2 hf2 => ?_
    obtain ⟨mm, rfl⟩ : ∃ mm : Nat, r = mm := ⟨r.toNat, by omega⟩
    refine drun_all (n := n + 5) hp2 (by omega) (by omega) k3 k1 (by omega) (by omega) fun es s3 hg hze hp3 hF3 => ?_
    have eo : ownV (D.lst (es.map E.d)) = .own (.lst (es.map E.d)) := rfl
    have e1 : es.map E.d ++ [D.tup [.str (Str.ofString "write"), .str (Str.ofString "more")]] = (es ++ [E.wr (Str.ofString "more")]).map E.d := by rw [List.map_append]; rfl
    have e2 : (es ++ [E.wr (Str.ofString "more")]).map E.d ++ [D.tup [.str (Str.ofString "send")]] = (es ++ [E.wr (Str.ofString "more")] ++ [E.send]).map E.d := by rw [List.map_append (l₂ := [E.send])]; rfl
    rw [eo]
    simp only [s_nil, s_seq, s_frz, z_asg, z_asgO, z_asgR, z_par, z_pn, z_pc, z_aug, z_ex, z_ret, z_retN, z_retR, z_ite, z_brk, z_cont, z_pass, z_setIs, z_tn, w_cst, w_var, w_glo, w_bin, w_neg, w_not, w_and, w_or, w_cmp, w_cmp2, w_ife, w_idx, w_slc, w_no, w_so, w_cno, w_cso, w_tup, w_lst, w_dnew, w_nil, w_cons, w_call, w_blt, w_isi, w_iown, w_iseq, w_rng1, w_rng2b, nxK, varE, assignG, own1, oOf, Ev.putK, viewI, O.d, List.getElem?_cons_zero, List.getElem?_cons_succ, List.set_cons_zero, List.set_cons_succ, Option.some.injEq, exists_eq_left', D.bl.injEq, D.int.injEq, EV.own.injEq, b_add, b_adds, b_addl, b_mull, b_muls, b_sub, b_mul, b_fdiv, b_mod, b_pow, at0, at1, at2, at3, c_lt, c_le, c_gt, c_ge, c_eqi, c_nei, c_eqs, c_nes, c_eqb, Option.map_some, len_lst, len_tup, len_scr, f_abs, f_max, f_min, f_intb, f_inti, f_str, f_list_l, f_list_t, seq_lst, seq_str, seq_scr, ck_no, ite_true, if_true, if_false, Bool.false_eq_true, reduceCtorEq, decide_eq_true_eq, decide_eq_false_iff_not, Bool.not_eq_true', Bool.not_eq_false', Bool.not_true, Bool.not_false, not_true_eq_false, not_false_eq_true, true_and, and_true, forall_const, false_implies, implies_true, lpK, w_rngDb, c_isN, c_isnotN, w_mth, z_mcall, mc_own, mc_ref, z_mcallTo, mt_own, z_setK, si_own, si_ref, mw_app, mw_ext, sw_dct, keyOk_int, keyOk_str, setAll, idx_lst, idx_tup, z_retO, ro_own, fz_own, fz_v, ov_lst, ov_dct, ov_non, ov_int, ov_bl, ov_str, ov_tup, w_callF, w_callO, w_lset, Ev.w_rev, w_fld, w_meth, w_mkI, w_setd, w_dcp, z_setX, z_setF]
    refine rightO (n := n) (hp3.mono (show _ ≤ b + 300 * (j : Int) + 300 by omega)) hg (by omega) fun s4 hp4 => ⟨_, rfl, fun h => (by cases h), fun _ => ⟨sm (by simp), by rw [List.length_map]; omega, ?_⟩⟩
    rw [e1]
    refine rightO (n := n) hp4 (good_more hg) (by rw [List.length_append]; simp; omega) fun s5 hp5 => ⟨_, rfl, fun h => (by cases h), fun _ => ⟨sm (by simp), by rw [List.length_map, List.length_append]; simp; omega, ?_⟩⟩
    rw [e2]
    refine rightO (n := n) hp5 (good_send hg) (by rw [List.length_append, List.length_append]; simp; omega) fun s6 hp6 => ⟨_, rfl, fun h => (by cases h), fun _ => ?_⟩
    exact ⟨hp6.mono (by omega), _, _, rfl⟩
  · rintro e s ⟨hp, v3, v4, rfl⟩
    have hp : PZ s l (b + 300 * ((3 : Nat) : Int)) := hp
    exact hq _ _ s (hp.mono (by omega))
theorem sB_all (hp : PZ st l b) (hb0 : 0 ≤ b) (hb : b < 2 ^ 30) {j : Int} (hq : ∀ v5 v6 s, PZ s l (b + 10000) → QO (.nx [v0, .v (.int j), .v (.ref l), v3, v4, v5, v6]) s) : (evS (callF P wf (n + 7)) (assoc P.glob) wf sB [v0, .v (.int j), .v (.ref l), v3, v4, v5, v6] st).all QO := by
  have hs : sizeLine = 16777216 := by rw [sizeLine_eq]
  have elc : ∀ w u0 u1 u2 u3 u4 u5 s, ev (callF P wf (n + 7)) (assoc P.glob) w (.lc [6] (.nm 6) (.rng1 (.cst (.int 300))) .no (.bin .add (.cst (.str "k")) (.blt "str" (.cons (.var 6) .nil)))) [u0, u1, u2, u3, u4, u5, v6] s = .ok (.lst (big.map .str)) s := fun w u0 u1 u2 u3 u4 u5 s => by
    have e := lc_eq0 (cl := callF P wf (n + 7)) (gl := assoc P.glob) (w := w) (env := [u0, u1, u2, u3, u4, u5, v6]) (st := s) (vs := [6]) (g := .nm 6) (it := .rng1 (.cst (.int 300))) (e := .bin .add (.cst (.str "k")) (.blt "str" (.cons (.var 6) .nil))) (ck := .no) (fun i : Nat => D.int i) (fun i => .str (kn i)) (l := List.range 300) (by
      simp only [s_nil, s_seq, s_frz, z_asg, z_asgO, z_asgR, z_par, z_pn, z_pc, z_aug, z_ex, z_ret, z_retN, z_retR, z_ite, z_brk, z_cont, z_pass, z_setIs, z_tn, w_cst, w_var, w_glo, w_bin, w_neg, w_not, w_and, w_or, w_cmp, w_cmp2, w_ife, w_idx, w_slc, w_no, w_so, w_cno, w_cso, w_tup, w_lst, w_dnew, w_nil, w_cons, w_call, w_blt, w_isi, w_iown, w_iseq, w_rng1, w_rng2b, nxK, varE, assignG, own1, oOf, Ev.putK, viewI, O.d, List.getElem?_cons_zero, List.getElem?_cons_succ, List.set_cons_zero, List.set_cons_succ, Option.some.injEq, exists_eq_left', D.bl.injEq, D.int.injEq, EV.own.injEq, b_add, b_adds, b_addl, b_mull, b_muls, b_sub, b_mul, b_fdiv, b_mod, b_pow, at0, at1, at2, at3, c_lt, c_le, c_gt, c_ge, c_eqi, c_nei, c_eqs, c_nes, c_eqb, Option.map_some, len_lst, len_tup, len_scr, f_abs, f_max, f_min, f_intb, f_inti, f_str, f_list_l, f_list_t, seq_lst, seq_str, seq_scr, ck_no, ite_true, if_true, if_false, Bool.false_eq_true, reduceCtorEq, decide_eq_true_eq, decide_eq_false_iff_not, Bool.not_eq_true', Bool.not_eq_false', Bool.not_true, Bool.not_false, not_true_eq_false, not_false_eq_true, true_and, and_true, forall_const, false_implies, implies_true, lpK, w_rngDb, c_isN, c_isnotN, w_mth, z_mcall, mc_own, mc_ref, z_mcallTo, mt_own, z_setK, si_own, si_ref, mw_app, mw_ext, sw_dct, keyOk_int, keyOk_str, setAll, idx_lst, idx_tup, z_retO, ro_own, fz_own, fz_v, ov_lst, ov_dct, ov_non, ov_int, ov_bl, ov_str, ov_tup, w_callF, w_callO, w_lset, Ev.w_rev, w_fld, w_meth, w_mkI, w_setd, w_dcp, z_setX, z_setF]
      exact ⟨in62_of (by decide) (by decide), by rw [rng0_map]; rfl⟩) rfl (by rw [List.length_range]; omega) fun i hi => by
        obtain ⟨_, k2, k3⟩ := kn_ok i (List.mem_range.mp hi)
        refine ⟨_, rfl, ?_⟩
        simp only [s_nil, s_seq, s_frz, z_asg, z_asgO, z_asgR, z_par, z_pn, z_pc, z_aug, z_ex, z_ret, z_retN, z_retR, z_ite, z_brk, z_cont, z_pass, z_setIs, z_tn, w_cst, w_var, w_glo, w_bin, w_neg, w_not, w_and, w_or, w_cmp, w_cmp2, w_ife, w_idx, w_slc, w_no, w_so, w_cno, w_cso, w_tup, w_lst, w_dnew, w_nil, w_cons, w_call, w_blt, w_isi, w_iown, w_iseq, w_rng1, w_rng2b, nxK, varE, assignG, own1, oOf, Ev.putK, viewI, O.d, List.getElem?_cons_zero, List.getElem?_cons_succ, List.set_cons_zero, List.set_cons_succ, Option.some.injEq, exists_eq_left', D.bl.injEq, D.int.injEq, EV.own.injEq, b_add, b_adds, b_addl, b_mull, b_muls, b_sub, b_mul, b_fdiv, b_mod, b_pow, at0, at1, at2, at3, c_lt, c_le, c_gt, c_ge, c_eqi, c_nei, c_eqs, c_nes, c_eqb, Option.map_some, len_lst, len_tup, len_scr, f_abs, f_max, f_min, f_intb, f_inti, f_str, f_list_l, f_list_t, seq_lst, seq_str, seq_scr, ck_no, ite_true, if_true, if_false, Bool.false_eq_true, reduceCtorEq, decide_eq_true_eq, decide_eq_false_iff_not, Bool.not_eq_true', Bool.not_eq_false', Bool.not_true, Bool.not_false, not_true_eq_false, not_false_eq_true, true_and, and_true, forall_const, false_implies, implies_true, lpK, w_rngDb, c_isN, c_isnotN, w_mth, z_mcall, mc_own, mc_ref, z_mcallTo, mt_own, z_setK, si_own, si_ref, mw_app, mw_ext, sw_dct, keyOk_int, keyOk_str, setAll, idx_lst, idx_tup, z_retO, ro_own, fz_own, fz_v, ov_lst, ov_dct, ov_non, ov_int, ov_bl, ov_str, ov_tup, w_callF, w_callO, w_lset, Ev.w_rev, w_fld, w_meth, w_mkI, w_setd, w_dcp, z_setX, z_setF, wipeE]
        refine ⟨k3, ?_, rfl⟩
        have : (("k" : Str)).length = 1 := by decide +kernel
        omega
    rw [e, big, List.map_map]
    rfl
  unfold sB
  rw [z_ite]
  simp only [s_nil, s_seq, s_frz, z_asg, z_asgO, z_asgR, z_par, z_pn, z_pc, z_aug, z_ex, z_ret, z_retN, z_retR, z_ite, z_brk, z_cont, z_pass, z_setIs, z_tn, w_cst, w_var, w_glo, w_bin, w_neg, w_not, w_and, w_or, w_cmp, w_cmp2, w_ife, w_idx, w_slc, w_no, w_so, w_cno, w_cso, w_tup, w_lst, w_dnew, w_nil, w_cons, w_call, w_blt, w_isi, w_iown, w_iseq, w_rng1, w_rng2b, nxK, varE, assignG, own1, oOf, Ev.putK, viewI, O.d, List.getElem?_cons_zero, List.getElem?_cons_succ, List.set_cons_zero, List.set_cons_succ, Option.some.injEq, exists_eq_left', D.bl.injEq, D.int.injEq, EV.own.injEq, b_add, b_adds, b_addl, b_mull, b_muls, b_sub, b_mul, b_fdiv, b_mod, b_pow, at0, at1, at2, at3, c_lt, c_le, c_gt, c_ge, c_eqi, c_nei, c_eqs, c_nes, c_eqb, Option.map_some, len_lst, len_tup, len_scr, f_abs, f_max, f_min, f_intb, f_inti, f_str, f_list_l, f_list_t, seq_lst, seq_str, seq_scr, ck_no, ite_true, if_true, if_false, Bool.false_eq_true, reduceCtorEq, decide_eq_true_eq, decide_eq_false_iff_not, Bool.not_eq_true', Bool.not_eq_false', Bool.not_true, Bool.not_false, not_true_eq_false, not_false_eq_true, true_and, and_true, forall_const, false_implies, implies_true, lpK, w_rngDb, c_isN, c_isnotN, w_mth, z_mcall, mc_own, mc_ref, z_mcallTo, mt_own, z_setK, si_own, si_ref, mw_app, mw_ext, sw_dct, keyOk_int, keyOk_str, setAll, idx_lst, idx_tup, z_retO, ro_own, fz_own, fz_v, ov_lst, ov_dct, ov_non, ov_int, ov_bl, ov_str, ov_tup, w_callF, w_callO, w_lset, Ev.w_rev, w_fld, w_meth, w_mkI, w_setd, w_dcp, z_setX, z_setF]
  refine ⟨fun hj => ?_, fun hj => hq _ _ st (hp.mono (by omega))⟩
  rw [z_for]
  simp only [s_nil, s_seq, s_frz, z_asg, z_asgO, z_asgR, z_par, z_pn, z_pc, z_aug, z_ex, z_ret, z_retN, z_retR, z_ite, z_brk, z_cont, z_pass, z_setIs, z_tn, w_cst, w_var, w_glo, w_bin, w_neg, w_not, w_and, w_or, w_cmp, w_cmp2, w_ife, w_idx, w_slc, w_no, w_so, w_cno, w_cso, w_tup, w_lst, w_dnew, w_nil, w_cons, w_call, w_blt, w_isi, w_iown, w_iseq, w_rng1, w_rng2b, nxK, varE, assignG, own1, oOf, Ev.putK, viewI, O.d, List.getElem?_cons_zero, List.getElem?_cons_succ, List.set_cons_zero, List.set_cons_succ, Option.some.injEq, exists_eq_left', D.bl.injEq, D.int.injEq, EV.own.injEq, b_add, b_adds, b_addl, b_mull, b_muls, b_sub, b_mul, b_fdiv, b_mod, b_pow, at0, at1, at2, at3, c_lt, c_le, c_gt, c_ge, c_eqi, c_nei, c_eqs, c_nes, c_eqb, Option.map_some, len_lst, len_tup, len_scr, f_abs, f_max, f_min, f_intb, f_inti, f_str, f_list_l, f_list_t, seq_lst, seq_str, seq_scr, ck_no, ite_true, if_true, if_false, Bool.false_eq_true, reduceCtorEq, decide_eq_true_eq, decide_eq_false_iff_not, Bool.not_eq_true', Bool.not_eq_false', Bool.not_true, Bool.not_false, not_true_eq_false, not_false_eq_true, true_and, and_true, forall_const, false_implies, implies_true, lpK, w_rngDb, c_isN, c_isnotN, w_mth, z_mcall, mc_own, mc_ref, z_mcallTo, mt_own, z_setK, si_own, si_ref, mw_app, mw_ext, sw_dct, keyOk_int, keyOk_str, setAll, idx_lst, idx_tup, z_retO, ro_own, fz_own, fz_v, ov_lst, ov_dct, ov_non, ov_int, ov_bl, ov_str, ov_tup, w_callF, w_callO, w_lset, Ev.w_rev, w_fld, w_meth, w_mkI, w_setd, w_dcp, z_setX, z_setF, elc, all_ok]
  refine keys_all (n := n + 4) hp (by omega) (by omega) (by decide) (by decide) fun ks s1 k1 k2 k3 hp1 hF1 => ?_
  have e : [D.lst (ks.map .str), .lst (big.map .str)] = [ks, big].map fun (k : List Str) => D.lst (k.map .str) := rfl
  rw [e]
  refine ⟨sm (by simp), rfl, for_map (fun i e s => PZ s l (b + 41 + 4000 * i) ∧ ∃ v5 v6, e = [v0, .v (.int j), .v (.ref l), v3, v4, v5, v6]) ⟨hp1.mono (by omega), _, _, rfl⟩ (fun _ _ _ _ _ => rfl) ?_ ?_⟩
  · rintro i m e s hi ⟨hp, v5, v6, rfl⟩
    have hi2 : i < 2 := some_lt hi
    have hm : 1 ≤ m.length ∧ m.length ≤ 1000 ∧ ∀ k, k ∈ m → keyB k = true := by
      have := List.mem_of_getElem? hi
      simp at this
      rcases this with rfl | rfl
      · exact ⟨k1, by omega, k3⟩
      · exact ⟨by rw [big_len]; decide, by rw [big_len]; decide, big_ok⟩
    refine ⟨_, rfl, ?_⟩
    unfold bF
    simp only [s_nil, s_seq, s_frz, z_asg, z_asgO, z_asgR, z_par, z_pn, z_pc, z_aug, z_ex, z_ret, z_retN, z_retR, z_ite, z_brk, z_cont, z_pass, z_setIs, z_tn, w_cst, w_var, w_glo, w_bin, w_neg, w_not, w_and, w_or, w_cmp, w_cmp2, w_ife, w_idx, w_slc, w_no, w_so, w_cno, w_cso, w_tup, w_lst, w_dnew, w_nil, w_cons, w_call, w_blt, w_isi, w_iown, w_iseq, w_rng1, w_rng2b, nxK, varE, assignG, own1, oOf, Ev.putK, viewI, O.d, List.getElem?_cons_zero, List.getElem?_cons_succ, List.set_cons_zero, List.set_cons_succ, Option.some.injEq, exists_eq_left', D.bl.injEq, D.int.injEq, EV.own.injEq, b_add, b_adds, b_addl, b_mull, b_muls, b_sub, b_mul, b_fdiv, b_mod, b_pow, at0, at1, at2, at3, c_lt, c_le, c_gt, c_ge, c_eqi, c_nei, c_eqs, c_nes, c_eqb, Option.map_some, len_lst, len_tup, len_scr, f_abs, f_max, f_min, f_intb, f_inti, f_str, f_list_l, f_list_t, seq_lst, seq_str, seq_scr, ck_no, ite_true, if_true, if_false, Bool.false_eq_true, reduceCtorEq, decide_eq_true_eq, decide_eq_false_iff_not, Bool.not_eq_true', Bool.not_eq_false', Bool.not_true, Bool.not_false, not_true_eq_false, not_false_eq_true, true_and, and_true, forall_const, false_implies, implies_true, lpK, w_rngDb, c_isN, c_isnotN, w_mth, z_mcall, mc_own, mc_ref, z_mcallTo, mt_own, z_setK, si_own, si_ref, mw_app, mw_ext, sw_dct, keyOk_int, keyOk_str, setAll, idx_lst, idx_tup, z_retO, ro_own, fz_own, fz_v, ov_lst, ov_dct, ov_non, ov_int, ov_bl, ov_str, ov_tup, w_callF, w_callO, w_lset, Ev.w_rev, w_fld, w_meth, w_mkI, w_setd, w_dcp, z_setX, z_setF]
    refine drun_all (n := n + 5) (m := 1000) hp (by omega) (by omega) hm.2.2 hm.1 hm.2.1 (by decide) fun es s3 hg hze hp3 hF3 => ?_
    refine right_all (n := n) hg (by omega) fun s4 g1 g2 g3 => ⟨_, rfl, fun h => (by cases h), fun _ => ?_⟩
    exact ⟨(hp3.fr (g2 l hp3.lt) (g3 hp3.2)).mono (by omega), _, _, rfl⟩
  · rintro e s ⟨hp, v5, v6, rfl⟩
    have hp : PZ s l (b + 41 + 4000 * ((2 : Nat) : Int)) := hp
    simp only [nxK]
    exact hq _ _ s (hp.mono (by omega))
end
theorem eq_refD {st : Store} {b : Nat} {l m : List D} (h : st[b]? = some (.lst l)) (hl : Ev.okD (.lst l) = true) (hm : Ev.okD (.lst m) = true) (d1 : (pyD (.lst l)).depth ≤ 64) (d2 : (pyD (.lst m)).depth ≤ 64) : eqD st (.ref b) (.lst m) = some (PyData.eqv (pyD (.lst l)) (pyD (.lst m))) :=
  eqD_ok (toPy_ref h hl) (toPy_ok hm) (shaped_ok hl d1) (shaped_ok hm d2) ⟨fun _ z => (by cases z), fun _ z => (by cases z), fun _ z => (by cases z)⟩
def last3 : List E := [.wr (Str.ofString "a"), .wr (Str.ofString "a"), .send]
theorem law_all {wf n : Nat} (ns : List Int) : (callF P wf (n + 8) "law" [.scr ns] []).all fun d _ => d = .bl true := by
  have hs : sizeLine = 16777216 := by rw [sizeLine_eq]
  refine call_all (cd := cd_law) (env := [.v (.scr ns), .un, .un, .un, .un, .un, .un]) rfl rfl ?_
  rw [cd_law_eq, s_seq, z_for]
  simp only [s_nil, s_seq, s_frz, z_asg, z_asgO, z_asgR, z_par, z_pn, z_pc, z_aug, z_ex, z_ret, z_retN, z_retR, z_ite, z_brk, z_cont, z_pass, z_setIs, z_tn, w_cst, w_var, w_glo, w_bin, w_neg, w_not, w_and, w_or, w_cmp, w_cmp2, w_ife, w_idx, w_slc, w_no, w_so, w_cno, w_cso, w_tup, w_lst, w_dnew, w_nil, w_cons, w_call, w_blt, w_isi, w_iown, w_iseq, w_rng1, w_rng2b, nxK, varE, assignG, own1, oOf, Ev.putK, viewI, O.d, List.getElem?_cons_zero, List.getElem?_cons_succ, List.set_cons_zero, List.set_cons_succ, Option.some.injEq, exists_eq_left', D.bl.injEq, D.int.injEq, EV.own.injEq, b_add, b_adds, b_addl, b_mull, b_muls, b_sub, b_mul, b_fdiv, b_mod, b_pow, at0, at1, at2, at3, c_lt, c_le, c_gt, c_ge, c_eqi, c_nei, c_eqs, c_nes, c_eqb, Option.map_some, len_lst, len_tup, len_scr, f_abs, f_max, f_min, f_intb, f_inti, f_str, f_list_l, f_list_t, seq_lst, seq_str, seq_scr, ck_no, ite_true, if_true, if_false, Bool.false_eq_true, reduceCtorEq, decide_eq_true_eq, decide_eq_false_iff_not, Bool.not_eq_true', Bool.not_eq_false', Bool.not_true, Bool.not_false, not_true_eq_false, not_false_eq_true, true_and, and_true, forall_const, false_implies, implies_true, lpK, w_rngDb, c_isN, c_isnotN, w_mth, z_mcall, mc_own, mc_ref, z_mcallTo, mt_own, z_setK, si_own, si_ref, mw_app, mw_ext, sw_dct, keyOk_int, keyOk_str, setAll, idx_lst, idx_tup, z_retO, ro_own, fz_own, fz_v, ov_lst, ov_dct, ov_non, ov_int, ov_bl, ov_str, ov_tup, w_callF, w_callO, w_lset, Ev.w_rev, w_fld, w_meth, w_mkI, w_setd, w_dcp, z_setX, z_setF]
  have rb : ∀ z : Int, 0 ≤ z → in62 (if (if z < 5 then z else 5) > 1 then (if z < 5 then z else 5) else 1) = true ∧ ((if (if z < 5 then z else 5) > 1 then (if z < 5 then z else 5) else 1) : Int).toNat ≤ 5 := fun z hz => by
    constructor
    · apply in62_of <;> split <;> (try split) <;> omega
    · split <;> (try split) <;> omega
  obtain ⟨b1, b2⟩ := rb ns.length (by omega)
  refine ⟨b1, rfl, ?_⟩
  generalize ((if (if (ns.length : Int) < 5 then (ns.length : Int) else 5) > 1 then (if (ns.length : Int) < 5 then (ns.length : Int) else 5) else 1) : Int).toNat = m at *
  refine for_rng (fun i e s => NL s ∧ ∃ (u1 u2 u3 u4 u5 u6 : EV), e = [.v (.scr ns), u1, u2, u3, u4, u5, u6]) ⟨rfl, _, _, _, _, _, _, rfl⟩ ?_ ?_
  · rintro j e s hj ⟨hN, u1, u2, u3, u4, u5, u6, rfl⟩
    refine ⟨_, rfl, ?_⟩
    rw [Int.zero_add, s_seq, z_asg]
    simp only [s_nil, s_seq, s_frz, z_asg, z_asgO, z_asgR, z_par, z_pn, z_pc, z_aug, z_ex, z_ret, z_retN, z_retR, z_ite, z_brk, z_cont, z_pass, z_setIs, z_tn, w_cst, w_var, w_glo, w_bin, w_neg, w_not, w_and, w_or, w_cmp, w_cmp2, w_ife, w_idx, w_slc, w_no, w_so, w_cno, w_cso, w_tup, w_lst, w_dnew, w_nil, w_cons, w_call, w_blt, w_isi, w_iown, w_iseq, w_rng1, w_rng2b, nxK, varE, assignG, own1, oOf, Ev.putK, viewI, O.d, List.getElem?_cons_zero, List.getElem?_cons_succ, List.set_cons_zero, List.set_cons_succ, Option.some.injEq, exists_eq_left', D.bl.injEq, D.int.injEq, EV.own.injEq, b_add, b_adds, b_addl, b_mull, b_muls, b_sub, b_mul, b_fdiv, b_mod, b_pow, at0, at1, at2, at3, c_lt, c_le, c_gt, c_ge, c_eqi, c_nei, c_eqs, c_nes, c_eqb, Option.map_some, len_lst, len_tup, len_scr, f_abs, f_max, f_min, f_intb, f_inti, f_str, f_list_l, f_list_t, seq_lst, seq_str, seq_scr, ck_no, ite_true, if_true, if_false, Bool.false_eq_true, reduceCtorEq, decide_eq_true_eq, decide_eq_false_iff_not, Bool.not_eq_true', Bool.not_eq_false', Bool.not_true, Bool.not_false, not_true_eq_false, not_false_eq_true, true_and, and_true, forall_const, false_implies, implies_true, lpK, w_rngDb, c_isN, c_isnotN, w_mth, z_mcall, mc_own, mc_ref, z_mcallTo, mt_own, z_setK, si_own, si_ref, mw_app, mw_ext, sw_dct, keyOk_int, keyOk_str, setAll, idx_lst, idx_tup, z_retO, ro_own, fz_own, fz_v, ov_lst, ov_dct, ov_non, ov_int, ov_bl, ov_str, ov_tup, w_callF, w_callO, w_lset, Ev.w_rev, w_fld, w_meth, w_mkI, w_setd, w_dcp, z_setX, z_setF]
    refine source_all hN (by omega) (by omega) fun s1 hp hl hf => ?_
    refine sA_all (n := n) hp (by decide) (by decide) fun v3 v4 s2 hp2 => ?_
    simp only [nxK]
    refine sB_all (n := n) hp2 (by decide) (by decide) fun v5 v6 s3 hp3 => ?_
    simp only [nxK, lpK]
    exact ⟨hp3.2, _, _, _, _, _, _, rfl⟩
  · rintro e s ⟨hN, u1, u2, u3, u4, u5, u6, rfl⟩
    simp only [s_nil, s_seq, s_frz, z_asg, z_asgO, z_asgR, z_par, z_pn, z_pc, z_aug, z_ex, z_ret, z_retN, z_retR, z_ite, z_brk, z_cont, z_pass, z_setIs, z_tn, w_cst, w_var, w_glo, w_bin, w_neg, w_not, w_and, w_or, w_cmp, w_cmp2, w_ife, w_idx, w_slc, w_no, w_so, w_cno, w_cso, w_tup, w_lst, w_dnew, w_nil, w_cons, w_call, w_blt, w_isi, w_iown, w_iseq, w_rng1, w_rng2b, nxK, varE, assignG, own1, oOf, Ev.putK, viewI, O.d, List.getElem?_cons_zero, List.getElem?_cons_succ, List.set_cons_zero, List.set_cons_succ, Option.some.injEq, exists_eq_left', D.bl.injEq, D.int.injEq, EV.own.injEq, b_add, b_adds, b_addl, b_mull, b_muls, b_sub, b_mul, b_fdiv, b_mod, b_pow, at0, at1, at2, at3, c_lt, c_le, c_gt, c_ge, c_eqi, c_nei, c_eqs, c_nes, c_eqb, Option.map_some, len_lst, len_tup, len_scr, f_abs, f_max, f_min, f_intb, f_inti, f_str, f_list_l, f_list_t, seq_lst, seq_str, seq_scr, ck_no, ite_true, if_true, if_false, Bool.false_eq_true, reduceCtorEq, decide_eq_true_eq, decide_eq_false_iff_not, Bool.not_eq_true', Bool.not_eq_false', Bool.not_true, Bool.not_false, not_true_eq_false, not_false_eq_true, true_and, and_true, forall_const, false_implies, implies_true, lpK, w_rngDb, c_isN, c_isnotN, w_mth, z_mcall, mc_own, mc_ref, z_mcallTo, mt_own, z_setK, si_own, si_ref, mw_app, mw_ext, sw_dct, keyOk_int, keyOk_str, setAll, idx_lst, idx_tup, z_retO, ro_own, fz_own, fz_v, ov_lst, ov_dct, ov_non, ov_int, ov_bl, ov_str, ov_tup, w_callF, w_callO, w_lset, Ev.w_rev, w_fld, w_meth, w_mkI, w_setd, w_dcp, z_setX, z_setF]
    refine ⟨sm (by simp), ?_⟩
    refine writes_all (P := P) (n := n + 1) (es := []) (st := s) (fun _ h => by cases h) (by decide) rfl ?_
    have hT : pst last3 ([], [], []) = some ([Str.ofString "a", Str.ofString "a"], [], [(Str.ofString "a", 2)]) := by decide +kernel
    have hr : Rp 141 2 (.lst [wD (Str.ofString "a", 2)]) := (Rp.lst (Rps.cons (rp_wD (x := (Str.ofString "a", 2)) (by decide +kernel) (by decide)) .nil)).mono (by decide) (by decide)
    refine ⟨sm (by simp), true, c_eq (eq_ref0 (l := []) (by simp [wrs])), fun _ => ⟨sm (by simp), sm (by simp), sm (by simp), sm (by simp), ?_⟩, fun h => (by cases h)⟩
    refine shown_all (P := P) (n := n + 1) (es := last3) (fun e he => ?_) (by decide) hT fun s2 g1 g2 g3 g4 => ?_
    · simp only [last3, List.mem_cons, List.not_mem_nil, or_false] at he
      rcases he with rfl | rfl | rfl
      · decide +kernel
      · decide +kernel
      · rfl
    · refine ⟨sm (by simp), sm (by simp), true, c_eq ((eq_refD g1 hr.ok hr.ok (Nat.le_trans hr.dp (by decide)) (Nat.le_trans hr.dp (by decide))).trans ?_), rfl⟩
      exact congrArg some (eqv_self hr)
def WF : Nat := 0
theorem law_val (ns : List Int) : ∃ st, callF P WF 12 "law" [.scr ns] [] = .ok (.bl true) st := by
  obtain ⟨d, st, e, rfl⟩ := law_all (wf := WF) (n := 4) ns
  exact ⟨st, e⟩
end K05
open PySem PySem.Calls PySem.W PyProof.Rows
theorem PySem.Challenge.cw_conflate_k05_logs_of_runs_holds : PySem.Challenge.rw_conflate_k05_logs_of_runs.Holds := by
  w_on; o_law
  refine HandSHeadRun.head_any (r := K05.R) (q := view K05.R.prog [28]) (H := K05.hk) (ob := K05.ob) (M := 20000) (loose := K05.names) (d := HandSHeadRun.topDef K05.R.prog 28) (kwd := []) K05.ob_eq
    (by kernel_rfl) (fun s => by kernel_rfl) K05.run (by kernel_rfl) (by kernel_rfl) (by kernel_rfl) (by rfl) (by first | assumption | decide +kernel) (by decide +kernel) ⟨rfl, rfl, rfl, rfl, rfl, by decide +kernel⟩ ?hw ?hc
  case hw => w_witness2
  case hc =>
    exact Ev.walk_ev (l := PySem.Challenge.rw_conflate_k05_logs_of_runs) (m := 63) (n := 12) (wf := K05.WF) rfl (by decide) (by kernel_rfl) (by kernel_rfl) ⟨rfl, by decide, by decide⟩ K05.mod_ok fun ns _ _ => K05.law_val ns
