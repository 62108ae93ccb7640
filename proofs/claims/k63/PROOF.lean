import PyProof.Rows.All
import Wide.All
import OpenK.AllK
import Wide.FinOn
import HandS.ForMost
import HandS.Walk
import KE.GoesEnum
import HandS.ForExc
import HandS.IsInst
import PySem.Challenge.RW_captionhouse_k63_whole_cuts_shown
import HandS.Strs
import HandS.SetBool
import HandS.TupSets
import HandS.SetIn
import HandS.ExcInit
import HandS.ExcSuper
import KE.KExcSuper
import HandS.WordsExc
import HandS.Dict
import HandS.TupAny
import HandS.Conv
import HandS.Exc
import HandS.ExcIs
import HandS.Lambda
import PyProof.ReprLen
import PyProof.ReprRoads
import HandS.SetFor
import HandS.Style
import KE.KRevSl
import HandS.EndTab
import HandS.ForSpec
set_option Elab.async false
set_option linter.all false
set_option maxRecDepth 100000
set_option maxHeartbeats 4000000
/-! for i, x in enumerate(t), t a tuple -/
namespace Cap
open PySem PySem.Spec PyProof.Rows L2
theorem tc_enum1 (a : Value) : checkTypeCall "enumerate" ⟨[a], []⟩ = pure () := by kernel_rfl
theorem nc_enum1 (a : Value) : checkBuiltinCall "enumerate.__new__" ⟨[.type "enumerate", a], []⟩ = pure () := by kernel_rfl
theorem enum_made {v : Value} {o : Obj} {G : Heap → Prop} (B : Begins v o G) :
    Meets (Builtin.«enumerate.__new__» ⟨[.type "enumerate", v], []⟩) (fun _ R s => G s.heap ∧
      R (.ok (.ret (.ref (s.heap.push o).objs.size))) { s with heap := (s.heap.push o).push { cls := .type "enumerate", data := .fields #[.none, .bool false, .ref s.heap.objs.size, rawInt 0, .none, .none] } }) :=
  .of_wp fun prog w A R s hs => by
    obtain ⟨hp, g, d, tk, os⟩ := s
    obtain ⟨g1, hR⟩ := hs
    have hsub := sub_enumerate
    have it0 : ∀ {A' : Around} {E : Value → Shared → Prop} {Q : Value → Shared → Prop}, Q (.ref hp.objs.size) ⟨hp.push o, g, d, tk, os⟩ → wpAny (model prog w) A' (pyIter v) Q E ⟨hp, g, d, tk, os⟩ :=
      fun z => B.iter prog w _ _ ⟨hp, g, d, tk, os⟩ _ g1 z
    wp_walk using it0
    refine wpAny_stack_any fun _ => wpAny_pure ?_
    split
    · rename_i c _ _ _ _ _
      cases (c == Value.type "enumerate") <;> (wp_walk using it0; exact ⟨_, rfl, hR⟩)
    · wp_walk using it0
      exact ⟨_, rfl, hR⟩
section
variable {prog : Program} {w : World} {A : Around} {E : Value → Shared → Prop} {s : Shared}
theorem enum_start {v : Value} {o : Obj} {G : Heap → Prop} {Q : Value → Shared → Prop} (B : Begins v o G) (g1 : G s.heap)
    (h : ∀ h', IsEnum h' (s.heap.objs.size + 1) s.heap.objs.size 0 .none → h'.get? s.heap.objs.size = some o → (∀ b u, s.heap.get? b = some u → h'.get? b = some u) → Q (.ref (s.heap.objs.size + 1)) { s with heap := h' }) :
    wpAny (model prog w) A (call (.type "enumerate") [v]) Q E s := by
  refine callType_new F.called_enumerate (by decide) (tc_enum1 _) (nc_enum1 _) (fun obj => F.args_object_init_2 obj _) F.entry_enumerate_new (enum_made B) ⟨g1, ?_⟩
  have hz : (s.heap.push o).objs.size = s.heap.objs.size + 1 := Heap.size_push ..
  show _ ∧ _
  rw [hz]
  have he : IsEnum ((s.heap.push o).push { cls := .type "enumerate", data := .fields #[.none, .bool false, .ref s.heap.objs.size, rawInt 0, .none, .none] }) (s.heap.objs.size + 1) s.heap.objs.size 0 .none := by
    have q := Heap.get?_push_size (s.heap.push o) (o := { cls := .type "enumerate", data := .fields #[.none, .bool false, .ref s.heap.objs.size, rawInt 0, .none, .none] }) rfl
    rw [hz] at q
    exact q
  exact ⟨⟨_, he, rfl⟩, h _ he (Heap.get?_push_of_some _ (Heap.get?_push_size _ B.free)) fun b u z => Heap.get?_push_of_some _ (Heap.get?_push_of_some _ z)⟩
end
/-- the tuple at a, each item in a new pair with its place -/
def IteT (K : PySem.W.Frag) (a : Addr) : It :=
  ⟨fun i H => ∃ (xs : List V) (x : V), SqT K H a xs ∧ xs[i]? = some x,
   fun i H v H' => ∃ T x, v = .ref T ∧ H T = none ∧ H' = upd H T (.tup [.int (i : Nat), x]) ∧ ∀ xs, SqT K H a xs → xs[i]? = some x,
   fun i H => ∃ xs : List V, SqT K H a xs ∧ xs.length = i⟩
theorem turn_enumT {P : Program} {w : World} {K : PySem.W.Frag} {elts : List Expr} {kk : Nat} {tpos : Pos} (a e it : Addr) :
    Turn P w K (.Tuple elts kk tpos) (IteT K a) [e, it] e (fun i h => (∃ old, IsEnum h e it ((i : Nat) : Int) old) ∧ h.IsTupleIter it a i ∧ e ≠ it) where
  mem := List.mem_cons_self
  obj := fun i h st b hb => by
    obtain ⟨⟨old, he⟩, ⟨o, ho, hc, hd⟩, _⟩ := st
    have hb2 : b = e ∨ b = it := by simpa using hb
    rcases hb2 with rfl | rfl
    · exact ⟨_, he, fun v q => nomatch q⟩
    · exact ⟨o, ho, fun v q => by rw [hd] at q; cases q⟩
  keep := fun i h h' st k => by
    obtain ⟨⟨old, he⟩, hi, hne⟩ := st
    exact ⟨⟨old, k e (by simp) _ he⟩, hi.at fun o q => k it (by simp) o q, hne⟩
  item := by
    intro X hP hw hK hc i pins s σ H E I hf st hg
    subst hP hw hK
    obtain ⟨⟨old, he⟩, hit, hne⟩ := st
    obtain ⟨xs, x, hq, hx⟩ := hg
    obtain ⟨its, rv, p, hz⟩ := I.tuple hq
    have pt : s.heap.IsTuple a its.toArray := p
    have hd0 := I.ok.hd hc
    have ae : e ≠ a := fun z => by
      obtain ⟨o, ho, hcl, _⟩ := p
      rw [← z] at ho
      have z2 : some _ = some _ := he.symm.trans ho
      rw [← Option.some.inj z2] at hcl
      have hcl2 : Value.type "enumerate" = Value.type "tuple" := hcl
      exact absurd hcl2 (by decide)
    have ai : a ≠ it := fun z => by
      obtain ⟨o, ho, hcl, _⟩ := p
      obtain ⟨o2, ho2, hcl2, _⟩ := hit
      rw [z, ho2] at ho
      rw [Option.some.inj ho, hcl] at hcl2
      exact absurd hcl2 (by decide)
    have hel : e < s.heap.objs.size := Heap.lt_size he
    have hil : it < s.heap.objs.size := by obtain ⟨_, q, _⟩ := hit; exact Heap.lt_size q
    have hl := rv.length
    have hlt : i < its.toArray.size := by
      have := (List.getElem?_eq_some_iff.mp hx).1
      simp
      omega
    refine wpAny_pyNext_enum_itemD (Draws.tuple (A := X.A.in1) hd0 it a ai its.toArray) he ⟨hit, pt⟩ hlt hne (by simp [hne, ae]) fun u h' tk hu ho hs' hT hsz hk => ?_
    have ru : RelV x u := by
      obtain ⟨u2, hu2, r2⟩ := rv.get hx
      have z : its[i]? = some u := by simpa using hu
      rw [hu2] at z
      cases z
      exact r2
    refine ⟨_, rfl, wpAny_letOwnedTupleGo_enum (s := { s with heap := h', toks := tk + 1 }) ho fun h'' he' sb => ?_⟩
    have hT2 : h''.get? s.heap.objs.size = some { cls := .type "tuple", data := .seq #[.int i tk, u] } := (sb.2 _ (Nat.ne_of_gt hel)).trans hT
    have new : ObjOk X.prog X.w (upd H s.heap.objs.size (.tup [.int (i : Nat), x])) h'' s.heap.objs.size (.tup [.int (i : Nat), x]) :=
      ⟨by show 2 ≤ sizeLine; decide, [.int i tk, u], .cons ⟨_, rfl⟩ (.cons ru .nil), ⟨_, hT2, rfl, _, rfl⟩⟩
    have I1 : Inv X pins σ (upd H s.heap.objs.size (.tup [.int (i : Nat), x])) { s with heap := h'', toks := tk + 1 } :=
      I.turnedNew (ch := [e, it]) (fun b ob hb q => (sb.2 b (fun z => hb (by simp [z]))).trans (hk b ob (fun z => hb (by simp [z])) (fun z => hb (by simp [z])) q)) hf (Nat.le_refl _) new
    refine ⟨.ref s.heap.objs.size, _, I1, rfl, ⟨_, x, rfl, I.hok.fresh (Nat.le_refl _), rfl, fun ys hy => by rw [I.tuple_inj hy hq]; exact hx⟩, ⟨⟨u, ?_⟩, hs'.1.at fun o q => (sb.2 it (Ne.symm hne)).trans q, hne⟩, fun b hb => ?_⟩
    · have e1 : ((i + 1 : Nat) : Int) = (i : Int) + 1 := by omega
      rw [e1]
      exact he'
    · have hb2 : b = e ∨ b = it := by simpa using hb
      have hb' : b < s.heap.objs.size := by
        rcases hb2 with z | z
        · rw [z]; exact hel
        · rw [z]; exact hil
      rw [upd_ne (Nat.ne_of_lt hb')]
      exact (hf b hb).1
  done := by
    intro X hP hw hK hc i pins s σ H E I hf st hg
    subst hP hw hK
    obtain ⟨⟨old, he⟩, hit, hne⟩ := st
    obtain ⟨xs, hq, hx⟩ := hg
    obtain ⟨its, rv, p, hz⟩ := I.tuple hq
    have pt : s.heap.IsTuple a its.toArray := p
    obtain ⟨f0, f1, f2, f3, f4, f5⟩ := hf it (by simp)
    have hd0 := I.ok.hd hc
    have ai : a ≠ it := fun z => by
      obtain ⟨o, ho, hcl, _⟩ := p
      obtain ⟨o2, ho2, hcl2, _⟩ := hit
      rw [z, ho2] at ho
      rw [Option.some.inj ho, hcl] at hcl2
      exact absurd hcl2 (by decide)
    have hl := rv.length
    have hin : i = its.toArray.size := by
      simp
      omega
    subst hin
    exact wpAny_pyNext_enum_endD (Draws.tuple (A := X.A.in1) hd0 it a ai its.toArray) he ⟨hit, pt⟩ fun h' eb => ⟨rfl, I.turned (t' := s.toks) (fun b o hb q => eb b o hb q) f0 f1 f3 f4 f5⟩
  self := fun A i s Q E st h => by
    obtain ⟨⟨_, he⟩, _⟩ := st
    exact wpAny_pyIter_enum he h
def iEnumT (K : PySem.W.Frag) (ta : TA) : TI := fun σ H R => ta σ H fun vs H1 => ∃ a xs, vs = [.ref a] ∧ SqT K H1 a xs ∧ R (IteT K a) H1
theorem pi_enumT {X : Cx} {e : Expr} {ta : TA} {p pos tpos : Pos} {elts : List Expr} {kk : Nat} (hg : Gl X "enumerate") (hm : X.mg "enumerate" = none) (ha : PA X [e] ta) (hs : starEach [e] X.env = [(false, eval e X.env)] := by rfl) :
    PI X (.Tuple elts kk tpos) (.Call (.Name "enumerate" p) [e] [] pos) (iEnumT X.K ta) := by
  refine ⟨fun pins s σ H R I h => ?_⟩
  refine Call_ (ld_blt I hg hm boot_enumerate (PyProof.Rows.callWith_type1 (thn (ha.run pos pins s σ H _ I h) fun us s1 ⟨vs, H1, I1, r1, q1⟩ => ?_) hs rfl))
  obtain ⟨a, xs, ex, hq, q⟩ := q1
  subst ex
  cases r1 with
  | cons r rr =>
    cases rr
    cases r
    obtain ⟨its, rv, p', hz⟩ := I1.tuple hq
    refine enum_start (begins_tuple a its.toArray) p' fun h' he hit hk => wpAny_pyIter_enum he ?_
    have I2 : Inv X pins σ H1 { s1 with heap := h' } := I1.kept (t' := s1.toks) hk
    refine ⟨s1.heap.objs.size + 1, [s1.heap.objs.size + 1, s1.heap.objs.size], _, _, H1, rfl, I2, turn_enumT a (s1.heap.objs.size + 1) s1.heap.objs.size, ⟨⟨.none, he⟩, ⟨_, hit, rfl, rfl⟩, Nat.succ_ne_self _⟩, fun b hb => ?_, q⟩
    have hb2 : b = s1.heap.objs.size + 1 ∨ b = s1.heap.objs.size := by simpa using hb
    have hle : s1.heap.objs.size ≤ b := by
      rcases hb2 with z | z
      · rw [z]
        exact Nat.le_add_right _ _
      · rw [z]
        exact Nat.le_refl _
    exact I1.fpOk hle (I1.hok.fresh hle)
theorem walk_enumT {K : PySem.W.Frag} {a : Addr} {xs : List V} : Walk (IteT K a) xs.length (fun H => SqT K H a xs) (YPair (fun i => some (.int (i : Nat))) (fun i => xs[i]?)) := by
  refine ⟨fun i _ hi q => ⟨xs, xs[i], q, by simp [hi]⟩, fun _ q => ⟨xs, q, rfl⟩, fun i H v H' _ q y => ?_⟩
  obtain ⟨T, x, h1, h2, h3, h4⟩ := y
  exact ⟨T, .int (i : Nat), x, h1, h2, h3, rfl, h4 xs q⟩
end Cap

set_option Elab.async false
set_option linter.all false
set_option maxHeartbeats 4000000
/-! the plain law: cuts, their sources, the stretches of frames -/
namespace Cap
abbrev Cut := Int × Int
def rng (a b : Int) : List Int := (List.range (b - a).toNat).map fun (i : Nat) => a + (i : Int)
def srcs (cs : List Cut) : List Int := cs.flatMap fun c => rng c.1 c.2
def total (cs : List Cut) : Int := (cs.map fun c => c.2 - c.1).sum
def touch (acc : List Cut) (c : Cut) : Bool := match acc.getLast? with
  | some l => decide (l.2 = c.1)
  | none => false
def plainStep (acc : List Cut) (c : Cut) : List Cut := match acc.getLast? with
  | some l => if l.2 = c.1 then acc.dropLast ++ [(l.1, c.2)] else acc ++ [c]
  | none => acc ++ [c]
def plainL (cs : List Cut) : List Cut := cs.foldl plainStep []
def stretL (fs : List Int) : List Cut := plainL (fs.map fun f => (f, f + 1))
/-! ### rng -/
theorem rng_len (a b : Int) : (rng a b).length = (b - a).toNat := by simp [rng]
theorem rng_get {a b : Int} {i : Nat} (h : i < (b - a).toNat) : (rng a b)[i]? = some (a + i) := by
  simp [rng, h]
theorem rng_nil {a b : Int} (h : b ≤ a) : rng a b = [] := by
  have e : (b - a).toNat = 0 := by omega
  simp [rng, e]
theorem rng_snoc {a b : Int} (h : a ≤ b) : rng a (b + 1) = rng a b ++ [b] := by
  have e : (b + 1 - a).toNat = (b - a).toNat + 1 := by omega
  unfold rng
  rw [e, List.range_succ, List.map_append]
  congr 1
  show [a + (((b - a).toNat : Nat) : Int)] = [b]
  congr 1
  omega
theorem rng_app {a b : Int} (h : a ≤ b) : ∀ {c : Int}, b ≤ c → rng a b ++ rng b c = rng a c := by
  intro c hc
  obtain ⟨n, rfl⟩ : ∃ n : Nat, c = b + n := ⟨(c - b).toNat, by omega⟩
  clear hc
  induction n with
  | zero =>
    rw [rng_nil (show b + ((0 : Nat) : Int) ≤ b by omega), List.append_nil]
    congr 1
    omega
  | succ n ih =>
    have e : b + ((n + 1 : Nat) : Int) = (b + (n : Int)) + 1 := by omega
    rw [e, rng_snoc (show b ≤ b + (n : Int) by omega), ← List.append_assoc, ih, rng_snoc (show a ≤ b + (n : Int) by omega)]
theorem mem_rng {a b f : Int} : f ∈ rng a b ↔ a ≤ f ∧ f < b := by
  unfold rng
  rw [List.mem_map]
  constructor
  · rintro ⟨i, hi, rfl⟩
    have := List.mem_range.mp hi
    omega
  · rintro ⟨h1, h2⟩
    exact ⟨(f - a).toNat, List.mem_range.mpr (by omega), by omega⟩
/-! ### one stretch more -/
theorem step_nil (c : Cut) : plainStep [] c = [c] := rfl
theorem step_snoc (acc : List Cut) (l c : Cut) : plainStep (acc ++ [l]) c = if l.2 = c.1 then acc ++ [(l.1, c.2)] else acc ++ [l] ++ [c] := by
  unfold plainStep
  simp
theorem list_cases (acc : List Cut) : acc = [] ∨ ∃ r l, acc = r ++ [l] := by
  rcases List.eq_nil_or_concat acc with h | ⟨r, l, h⟩
  · exact .inl h
  · exact .inr ⟨r, l, by rw [h, List.concat_eq_append]⟩
theorem step_step (acc : List Cut) (a b c : Int) : plainStep (plainStep acc (a, b)) (b, c) = plainStep acc (a, c) := by
  rcases list_cases acc with rfl | ⟨r, l, rfl⟩
  · rw [step_nil, step_nil]
    have h := step_snoc [] (a, b) (b, c)
    simp at h
    exact h
  · rw [step_snoc, step_snoc]
    by_cases h : l.2 = a
    · rw [if_pos h, if_pos h, step_snoc, if_pos rfl]
    · rw [if_neg h, if_neg h, step_snoc, if_pos rfl]
/-- a stretch frame by frame -/
theorem fold_rng (acc : List Cut) (a : Int) : ∀ n : Nat, ((rng a (a + (n + 1 : Nat))).map fun f => (f, f + 1)).foldl plainStep acc = plainStep acc (a, a + (n + 1 : Nat)) := by
  intro n
  induction n with
  | zero =>
    have e : a + ((0 + 1 : Nat) : Int) = a + 1 := by omega
    have e2 : rng a (a + 1) = [a] := by
      rw [rng_snoc (Int.le_refl a), rng_nil (Int.le_refl a)]
      rfl
    rw [e, e2]
    rfl
  | succ n ih =>
    have e : a + ((n + 1 + 1 : Nat) : Int) = (a + ((n + 1 : Nat) : Int)) + 1 := by omega
    rw [e, rng_snoc (show a ≤ a + ((n + 1 : Nat) : Int) by omega), List.map_append, List.foldl_append, ih]
    exact step_step acc a _ _
theorem fold_one {a b : Int} (h : a < b) (acc : List Cut) : ((rng a b).map fun f => (f, f + 1)).foldl plainStep acc = plainStep acc (a, b) := by
  have e : b = a + (((b - a).toNat - 1 + 1 : Nat) : Int) := by omega
  have q := fold_rng acc a ((b - a).toNat - 1)
  rw [← e] at q
  exact q
theorem fold_srcs : ∀ (cs : List Cut) (acc : List Cut), (∀ c ∈ cs, c.1 < c.2) → ((srcs cs).map fun f => (f, f + 1)).foldl plainStep acc = cs.foldl plainStep acc
  | [], _, _ => rfl
  | c :: r, acc, h => by
    have e : srcs (c :: r) = rng c.1 c.2 ++ srcs r := rfl
    rw [e, List.map_append, List.foldl_append, fold_one (h c List.mem_cons_self) acc, fold_srcs r _ fun d hd => h d (List.mem_cons_of_mem _ hd)]
    rfl
/-- T1 -/
theorem plain_stret {cs : List Cut} (h : ∀ c ∈ cs, c.1 < c.2) : plainL cs = stretL (srcs cs) := (fold_srcs cs [] h).symm
/-! ### the sources of the plain ones -/
theorem srcs_app (a b : List Cut) : srcs (a ++ b) = srcs a ++ srcs b := by unfold srcs; rw [List.flatMap_append]
theorem srcs_one (c : Cut) : srcs [c] = rng c.1 c.2 := by unfold srcs; simp
theorem srcs_step {acc : List Cut} {c : Cut} (h : ∀ d ∈ acc, d.1 ≤ d.2) (hc : c.1 ≤ c.2) : srcs (plainStep acc c) = srcs acc ++ rng c.1 c.2 ∧ ∀ d ∈ plainStep acc c, d.1 ≤ d.2 := by
  rcases list_cases acc with rfl | ⟨r, l, rfl⟩
  · rw [step_nil]
    refine ⟨by rw [srcs_one]; rfl, fun d hd => ?_⟩
    rw [List.mem_singleton.mp hd]
    exact hc
  · rw [step_snoc]
    have hl : l.1 ≤ l.2 := h l (by simp)
    by_cases e : l.2 = c.1
    · rw [if_pos e]
      refine ⟨?_, fun d hd => ?_⟩
      · rw [srcs_app, srcs_app, srcs_one, srcs_one, List.append_assoc]
        congr 1
        rw [← e]
        exact (rng_app hl (by rw [e]; exact hc)).symm
      · rcases List.mem_append.mp hd with q | q
        · exact h d (List.mem_append_left _ q)
        · rw [List.mem_singleton.mp q]
          show l.1 ≤ c.2
          omega
    · rw [if_neg e]
      refine ⟨by rw [srcs_app, srcs_one], fun d hd => ?_⟩
      rcases List.mem_append.mp hd with q | q
      · exact h d q
      · rw [List.mem_singleton.mp q]
        exact hc
theorem srcs_fold : ∀ (cs acc : List Cut), (∀ d ∈ acc, d.1 ≤ d.2) → (∀ c ∈ cs, c.1 ≤ c.2) → srcs (cs.foldl plainStep acc) = srcs acc ++ srcs cs
  | [], acc, _, _ => by simp [srcs]
  | c :: r, acc, h, hc => by
    obtain ⟨e1, e2⟩ := srcs_step h (hc c List.mem_cons_self)
    show srcs (r.foldl plainStep (plainStep acc c)) = _
    rw [srcs_fold r _ e2 fun d hd => hc d (List.mem_cons_of_mem _ hd), e1, List.append_assoc]
    rfl
theorem srcs_plain {cs : List Cut} (h : ∀ c ∈ cs, c.1 ≤ c.2) : srcs (plainL cs) = srcs cs := by
  have q := srcs_fold cs [] (fun _ z => nomatch z) h
  exact q
/-- alike: the same sources -/
theorem alike_iff {a b : List Cut} (ha : ∀ c ∈ a, c.1 < c.2) (hb : ∀ c ∈ b, c.1 < c.2) : plainL a = plainL b ↔ srcs a = srcs b := by
  constructor
  · intro e
    rw [← srcs_plain fun c hc => Int.le_of_lt (ha c hc), ← srcs_plain fun c hc => Int.le_of_lt (hb c hc), e]
  · intro e
    rw [plain_stret ha, plain_stret hb, e]
/-! ### length, source -/
theorem total_cons (c : Cut) (r : List Cut) : total (c :: r) = (c.2 - c.1) + total r := by unfold total; rw [List.map_cons, List.sum_cons]
theorem total_len : ∀ {cs : List Cut}, (∀ c ∈ cs, c.1 ≤ c.2) → total cs = ((srcs cs).length : Nat)
  | [], _ => rfl
  | c :: r, h => by
    have e : srcs (c :: r) = rng c.1 c.2 ++ srcs r := rfl
    have h1 := h c List.mem_cons_self
    rw [total_cons, e, List.length_append, rng_len, total_len fun d hd => h d (List.mem_cons_of_mem _ hd)]
    omega
def placesG (h : Int) : List Cut → List (Int × Int × Int)
  | [] => []
  | c :: r => (h, c.1, c.2) :: placesG (h + (c.2 - c.1)) r
theorem total_snoc (cs : List Cut) (c : Cut) : total (cs ++ [c]) = total cs + (c.2 - c.1) := by
  induction cs with
  | nil => simp [total]
  | cons d r ih =>
    rw [List.cons_append, total_cons, ih, total_cons]
    omega
theorem placesG_snoc : ∀ (cs : List Cut) (h : Int) (c : Cut), placesG h (cs ++ [c]) = placesG h cs ++ [(h + total cs, c.1, c.2)]
  | [], h, c => by
    show [(h, c.1, c.2)] = [(h + 0, c.1, c.2)]
    rw [Int.add_zero]
  | d :: r, h, c => by
    show (h, d.1, d.2) :: placesG (h + (d.2 - d.1)) (r ++ [c]) = _
    rw [placesG_snoc r _ c, total_cons]
    show _ = (h, d.1, d.2) :: (placesG (h + (d.2 - d.1)) r ++ [(h + ((d.2 - d.1) + total r), c.1, c.2)])
    rw [show h + (d.2 - d.1) + total r = h + ((d.2 - d.1) + total r) by omega]
theorem take_snoc {α : Type} {l : List α} {i : Nat} {x : α} (h : l[i]? = some x) : l.take (i + 1) = l.take i ++ [x] := by
  rw [List.take_add_one, h]
  rfl
theorem places_len : ∀ (cs : List Cut) (h : Int), (placesG h cs).length = cs.length
  | [], _ => rfl
  | d :: r, h => by
    show (placesG _ r).length + 1 = r.length + 1
    rw [places_len r]
theorem places_get : ∀ (cs : List Cut) (h : Int) (i : Nat) (c : Cut), cs[i]? = some c → (placesG h cs)[i]? = some (h + total (cs.take i), c.1, c.2)
  | [], _, _, _, e => by simp at e
  | d :: r, h, 0, c, e => by
    have e2 : d = c := Option.some.inj e
    subst e2
    show some (h, d.1, d.2) = some (h + 0, d.1, d.2)
    rw [Int.add_zero]
  | d :: r, h, i + 1, c, e => by
    have q := places_get r (h + (d.2 - d.1)) i c e
    show (placesG (h + (d.2 - d.1)) r)[i]? = some (h + total (d :: r.take i), c.1, c.2)
    rw [q, total_cons]
    rw [show h + (d.2 - d.1) + total (r.take i) = h + ((d.2 - d.1) + total (r.take i)) by omega]
theorem src_at : ∀ {cs : List Cut} {i : Nat} {c : Cut} {k : Int}, (∀ d ∈ cs, d.1 ≤ d.2) → cs[i]? = some c → total (cs.take i) ≤ k → k < total (cs.take i) + (c.2 - c.1) → (srcs cs)[k.toNat]? = some (c.1 + k - total (cs.take i))
  | [], _, _, _, _, e, _, _ => by simp at e
  | d :: r, 0, c, k, h, e, h1, h2 => by
    have e2 : d = c := Option.some.inj e
    subst e2
    have e3 : srcs (d :: r) = rng d.1 d.2 ++ srcs r := rfl
    have h1 : 0 ≤ k := h1
    have h2 : k < 0 + (d.2 - d.1) := h2
    have hk : k.toNat < (d.2 - d.1).toNat := by omega
    rw [e3, List.getElem?_append_left (by rw [rng_len]; exact hk), rng_get hk]
    show some (d.1 + ((k.toNat : Nat) : Int)) = some (d.1 + k - 0)
    congr 1
    omega
  | d :: r, i + 1, c, k, h, e, h1, h2 => by
    have e3 : srcs (d :: r) = rng d.1 d.2 ++ srcs r := rfl
    have hd := h d List.mem_cons_self
    have et : total ((d :: r).take (i + 1)) = (d.2 - d.1) + total (r.take i) := total_cons d (r.take i)
    rw [et] at h1 h2 ⊢
    have hr : ∀ x ∈ r, x.1 ≤ x.2 := fun x hx => h x (List.mem_cons_of_mem _ hx)
    have ht : 0 ≤ total (r.take i) := by
      rw [total_len fun x hx => hr x (List.mem_of_mem_take hx)]
      exact Int.natCast_nonneg _
    have q := src_at (cs := r) (i := i) (c := c) (k := k - (d.2 - d.1)) hr e (by omega) (by omega)
    have hlen : (d.2 - d.1).toNat ≤ k.toNat := by omega
    rw [e3, List.getElem?_append_right (by rw [rng_len]; exact hlen), rng_len]
    rw [show k.toNat - (d.2 - d.1).toNat = (k - (d.2 - d.1)).toNat by omega, q]
    congr 1
    omega
/-! ### how often -/
def cnt (cs : List Cut) (f : Int) : Nat := (cs.filter fun c => decide (c.1 ≤ f) && decide (f < c.2)).length
theorem count_range (a f : Int) : ∀ n : Nat, ((List.range n).map fun (i : Nat) => a + (i : Int)).count f = if a ≤ f ∧ f < a + n then 1 else 0 := by
  intro n
  induction n with
  | zero =>
    rw [if_neg (by omega)]
    rfl
  | succ n ih =>
    rw [List.range_succ, List.map_append, List.count_append, ih]
    show _ + List.count f [a + (n : Int)] = _
    by_cases h : a + (n : Int) = f
    · rw [if_neg (by omega), if_pos (by omega), h]
      simp
    · have e : List.count f [a + (n : Int)] = 0 := by
        simp [List.count_cons, h]
      rw [e]
      by_cases h2 : a ≤ f ∧ f < a + (n : Int)
      · rw [if_pos h2, if_pos (by omega)]
      · rw [if_neg h2, if_neg (by omega)]
theorem count_rng (a b f : Int) : (rng a b).count f = if a ≤ f ∧ f < b then 1 else 0 := by
  unfold rng
  rw [count_range]
  by_cases h : a ≤ f ∧ f < b
  · rw [if_pos h, if_pos (by omega)]
  · rw [if_neg h, if_neg (by omega)]
theorem cnt_count : ∀ (cs : List Cut) (f : Int), (srcs cs).count f = cnt cs f
  | [], _ => rfl
  | c :: r, f => by
    have e3 : srcs (c :: r) = rng c.1 c.2 ++ srcs r := rfl
    rw [e3, List.count_append, count_rng, cnt_count r f]
    unfold cnt
    rw [List.filter_cons]
    by_cases h : c.1 ≤ f ∧ f < c.2
    · rw [if_pos h, if_pos (by simp [h.1, h.2]), List.length_cons]
      omega
    · have h2 : ¬ ((decide (c.1 ≤ f) && decide (f < c.2)) = true) := by
        rw [Bool.and_eq_true, decide_eq_true_eq, decide_eq_true_eq]
        exact h
      rw [if_neg h, if_neg h2]
      omega
/-! ### edges -/
def segs (es : List Int) : List Cut := es.zip es.tail
/-- what stands among the edges of cuts below n -/
structure Edges (cs : List Cut) (n : Int) (es : List Int) : Prop where
  up : es.Pairwise (· < ·)
  mem : ∀ k, k ∈ es ↔ (k = 0 ∨ k = n ∨ (k < n ∧ ∃ c ∈ cs, k = c.1 ∨ k = c.2))
theorem segs_srcs : ∀ (e : Int) (r : List Int), (e :: r).Pairwise (· < ·) → srcs (segs (e :: r)) = rng e ((e :: r).getLast (List.cons_ne_nil _ _))
  | e, [], _ => by
    show srcs ([] : List Cut) = rng e e
    rw [rng_nil (Int.le_refl e)]
    rfl
  | e, x :: r, h => by
    have h2 := List.pairwise_cons.mp h
    have ih := segs_srcs x r h2.2
    have e1 : segs (e :: x :: r) = (e, x) :: segs (x :: r) := rfl
    have e2 : srcs ((e, x) :: segs (x :: r)) = rng e x ++ srcs (segs (x :: r)) := rfl
    rw [e1, e2, ih]
    have hx : e < x := h2.1 x List.mem_cons_self
    have hl : x ≤ (x :: r).getLast (List.cons_ne_nil _ _) := by
      rcases List.mem_cons.mp (List.getLast_mem (List.cons_ne_nil x r)) with q | q
      · rw [q]
        exact Int.le_refl _
      · exact Int.le_of_lt ((List.pairwise_cons.mp h2.2).1 _ q)
    rw [rng_app (Int.le_of_lt hx) hl]
    rfl
/-- two edges in a row: nothing between -/
theorem seg_between : ∀ {es : List Int}, es.Pairwise (· < ·) → ∀ s ∈ segs es, s.1 < s.2 ∧ s.1 ∈ es ∧ s.2 ∈ es ∧ ∀ k ∈ es, k ≤ s.1 ∨ s.2 ≤ k
  | [], _, s, hs => nomatch hs
  | [e], _, s, hs => nomatch hs
  | e :: x :: r, h, s, hs => by
    have h2 := List.pairwise_cons.mp h
    have h3 := List.pairwise_cons.mp h2.2
    have hs' : s ∈ (e, x) :: segs (x :: r) := hs
    rcases List.mem_cons.mp hs' with q | q
    · rw [q]
      refine ⟨h2.1 x List.mem_cons_self, List.mem_cons_self, List.mem_cons_of_mem _ List.mem_cons_self, fun k hk => ?_⟩
      rcases List.mem_cons.mp hk with z | z
      · exact .inl (by rw [z]; exact Int.le_refl _)
      · rcases List.mem_cons.mp z with z | z
        · exact .inr (by rw [z]; exact Int.le_refl _)
        · exact .inr (Int.le_of_lt (h3.1 k z))
    · obtain ⟨a1, a2, a3, a4⟩ := seg_between h2.2 s q
      refine ⟨a1, List.mem_cons_of_mem _ a2, List.mem_cons_of_mem _ a3, fun k hk => ?_⟩
      rcases List.mem_cons.mp hk with z | z
      · refine .inl ?_
        rw [z]
        exact Int.le_of_lt (h2.1 _ a2)
      · exact a4 k z
theorem Edges.whole {cs : List Cut} {n : Int} {es : List Int} (h : Edges cs n es) (hn : 0 ≤ n) (hc : ∀ c ∈ cs, 0 ≤ c.1 ∧ c.1 < c.2) : srcs (segs es) = rng 0 n := by
  have m0 : (0 : Int) ∈ es := (h.mem 0).mpr (.inl rfl)
  have mn : n ∈ es := (h.mem n).mpr (.inr (.inl rfl))
  cases es with
  | nil => exact absurd m0 (by simp)
  | cons e r =>
    rw [segs_srcs e r h.up]
    have h2 := List.pairwise_cons.mp h.up
    have e0 : e = 0 := by
      have he := (h.mem e).mp List.mem_cons_self
      have ge : 0 ≤ e := by
        rcases he with z | z | ⟨_, c, hcm, z | z⟩
        · omega
        · omega
        · have := hc c hcm
          omega
        · have := hc c hcm
          omega
      rcases List.mem_cons.mp m0 with z | z
      · exact z.symm
      · have := h2.1 0 z
        omega
    have el : (e :: r).getLast (List.cons_ne_nil _ _) = n := by
      have hl := List.getLast_mem (List.cons_ne_nil e r)
      have le : (e :: r).getLast (List.cons_ne_nil _ _) ≤ n := by
        rcases (h.mem _).mp hl with z | z | ⟨z, _⟩
        · rw [z]
          exact hn
        · rw [z]
          exact Int.le_refl _
        · exact Int.le_of_lt z
      have ge : ∀ (e : Int) (r : List Int), (e :: r).Pairwise (· < ·) → n ∈ e :: r → n ≤ (e :: r).getLast (List.cons_ne_nil _ _) := by
        intro e r
        induction r generalizing e with
        | nil =>
          intro _ hm
          rw [List.mem_singleton.mp hm]
          exact Int.le_refl _
        | cons x r ih =>
          intro hp hm
          have hp2 := List.pairwise_cons.mp hp
          show n ≤ (x :: r).getLast (List.cons_ne_nil _ _)
          rcases List.mem_cons.mp hm with z | z
          · have := hp2.1 _ (List.getLast_mem (List.cons_ne_nil x r))
            rw [z]
            exact Int.le_of_lt this
          · exact ih x hp2.2 z
      have := ge e r h.up mn
      omega
    rw [el, e0]
/-- in a segment the count is one -/
theorem Edges.same {cs : List Cut} {n : Int} {es : List Int} (h : Edges cs n es) (hn : 0 ≤ n) (hc : ∀ c ∈ cs, 0 ≤ c.1 ∧ c.1 < c.2) {s : Cut} (hs : s ∈ segs es) {f : Int} (h1 : s.1 ≤ f) (h2 : f < s.2) : cnt cs f = cnt cs s.1 := by
  obtain ⟨a1, a2, a3, a4⟩ := seg_between h.up s hs
  have hn2 : s.2 ≤ n := by
    rcases (h.mem _).mp a3 with z | z | ⟨z, _⟩ <;> omega
  have each : ∀ c ∈ cs, (decide (c.1 ≤ f) && decide (f < c.2)) = (decide (c.1 ≤ s.1) && decide (s.1 < c.2)) := fun c hcm => by
    have p1 : c.1 < n → (c.1 ≤ s.1 ∨ s.2 ≤ c.1) := fun z => a4 _ ((h.mem _).mpr (.inr (.inr ⟨z, c, hcm, .inl rfl⟩)))
    have p2 : c.2 < n → (c.2 ≤ s.1 ∨ s.2 ≤ c.2) := fun z => a4 _ ((h.mem _).mpr (.inr (.inr ⟨z, c, hcm, .inr rfl⟩)))
    have e1 : decide (c.1 ≤ f) = decide (c.1 ≤ s.1) := by
      by_cases z : c.1 ≤ s.1
      · rw [decide_eq_true z, decide_eq_true (show c.1 ≤ f by omega)]
      · rw [decide_eq_false z, decide_eq_false]
        intro z2
        rcases p1 (by omega) with q | q <;> omega
    have e2 : decide (f < c.2) = decide (s.1 < c.2) := by
      by_cases z : f < c.2
      · rw [decide_eq_true z, decide_eq_true (show s.1 < c.2 by omega)]
      · rw [decide_eq_false z, decide_eq_false]
        intro z2
        rcases p2 (by omega) with q | q <;> omega
    rw [e1, e2]
  unfold cnt
  congr 1
  exact List.filter_congr each
theorem flatMap_filter (p : Int → Bool) : ∀ ss : List Cut, (∀ s ∈ ss, ∀ f, s.1 ≤ f → f < s.2 → p f = p s.1) → srcs (ss.filter fun s => p s.1) = (srcs ss).filter p
  | [], _ => rfl
  | s :: r, h => by
    have ih := flatMap_filter p r fun t ht => h t (List.mem_cons_of_mem _ ht)
    have e : srcs (s :: r) = rng s.1 s.2 ++ srcs r := rfl
    rw [e, List.filter_append, ← ih, List.filter_cons]
    cases hp : p s.1 with
    | true =>
      rw [if_pos rfl]
      have e2 : srcs (s :: r.filter fun s => p s.1) = rng s.1 s.2 ++ srcs (r.filter fun s => p s.1) := rfl
      rw [e2]
      congr 1
      refine (List.filter_eq_self.mpr fun f hf => ?_).symm
      obtain ⟨h1, h2⟩ := mem_rng.mp hf
      rw [h s List.mem_cons_self f h1 h2, hp]
    | false =>
      rw [if_neg Bool.false_ne_true]
      have e2 : (rng s.1 s.2).filter p = [] := by
        refine List.filter_eq_nil_iff.mpr fun f hf => ?_
        obtain ⟨h1, h2⟩ := mem_rng.mp hf
        rw [h s List.mem_cons_self f h1 h2, hp]
        exact Bool.false_ne_true
      rw [e2]
      rfl
/-- THE LAW of lost and twice: the chosen segments, made plain, are the stretches of the chosen frames -/
theorem Edges.chosen {cs : List Cut} {n : Int} {es : List Int} (h : Edges cs n es) (hn : 0 ≤ n) (hc : ∀ c ∈ cs, 0 ≤ c.1 ∧ c.1 < c.2) (q : Nat → Bool) :
    plainL ((segs es).filter fun s => q (cnt cs s.1)) = stretL ((rng 0 n).filter fun f => q (cnt cs f)) := by
  have hs : ∀ c ∈ (segs es).filter fun s => q (cnt cs s.1), c.1 < c.2 := fun c hcm => (seg_between h.up c (List.mem_filter.mp hcm).1).1
  rw [plain_stret hs]
  congr 1
  rw [flatMap_filter (fun f => q (cnt cs f)) (segs es) fun s hsm f h1 h2 => by rw [h.same hn hc hsm h1 h2], h.whole hn hc]
theorem cnt_zero {cs : List Cut} {f : Int} (h : ∀ c ∈ cs, c.2 ≤ f) : cnt cs f = 0 := by
  unfold cnt
  rw [List.length_eq_zero_iff, List.filter_eq_nil_iff]
  intro c hc z
  rw [Bool.and_eq_true, decide_eq_true_eq, decide_eq_true_eq] at z
  have := h c hc
  omega
/-- beyond the last end nothing is shown -/
theorem twice_far {cs : List Cut} {n m : Int} (h0 : 0 ≤ n) (h1 : n ≤ m) (h : ∀ c ∈ cs, c.2 ≤ n) : (rng 0 m).filter (fun f => decide (1 < cnt cs f)) = (rng 0 n).filter fun f => decide (1 < cnt cs f) := by
  rw [← rng_app h0 h1, List.filter_append]
  have e : (rng n m).filter (fun f => decide (1 < cnt cs f)) = [] := by
    refine List.filter_eq_nil_iff.mpr fun f hf => ?_
    obtain ⟨q1, q2⟩ := mem_rng.mp hf
    rw [cnt_zero fun c hc => Int.le_trans (h c hc) q1]
    decide
  rw [e, List.append_nil]
end Cap

set_option Elab.async false
set_option linter.all false
set_option maxRecDepth 100000
set_option maxHeartbeats 4000000
/-! the text by places, the data on the heap -/
namespace Cap
open PySem PySem.Spec PyProof.Rows L2
def topS (i : Nat) : Stmt := PySem.Challenge.pw_captionhouse_k63_whole_cuts_shown.main.body.getD i (.Pass ⟨0, 0, 0, 0⟩)
/-- the built-in names that the text asks for stand as they came -/
structure Blt (mg : Str → Option Value) : Prop where
  isinst : mg "isinstance" = none
  int : mg "int" = none
  bool : mg "bool" = none
  tuple : mg "tuple" = none
  list : mg "list" = none
  len : mg "len" = none
  sum : mg "sum" = none
  max : mg "max" = none
  min : mg "min" = none
  sorted : mg "sorted" = none
  zip : mg "zip" = none
  range : mg "range" = none
  repr : mg "repr" = none
  enumerate : mg "enumerate" = none
/-- a def of the text at f -/
structure Df (K : PySem.W.Frag) (mg : Str → Option Value) (x : Str) (st : Stmt) (ps : List Str) (f : Addr) (fd : FuncData) : Prop where
  fn : Fun K x x st f fd
  bd : Binds K fd ps []
  gl : mg x = some (.ref f)
section
variable {X : Cx} {CX : CXT} {k : Nat} {f : Addr} {fd : FuncData} {ps : List Str} {sp : Sp} {E : XK} {x : Str} {st : Stmt} {p pos : Pos} {e : Expr} {es : List Expr} {t : TA}
/-- a call of it -/
theorem pe_df (D : Df X.K X.mg x st ps f fd) (G : FnOk X.prog X.w X.K X.mg X.base CX k f fd ps sp) (hr : Room k X.A) (hx : Passes CX X E) (ha : PA X (e :: es) t) (hg : Gl X x := by rfl) (hdb : (x == ("__debug__" : Str)) = false := by decide)
    (he : starEach (e :: es) X.env = (false, eval e X.env) :: starEach es X.env := by rfl) (hpl : (backTo pos (starEach es X.env)).any (·.1) = false := by rfl) :
    PE X (.Call (.Name x p) (e :: es) [] pos) (tCall sp [] E t) := pe_call G hr hg D.gl D.fn.kp D.bd .nil hx ha hdb he hpl
end
/-! ### small words -/
theorem bt {Q : VK} {H : Hp} {a b : Bool} (e : a = b) (q : Q (.bl b) H) : Q (.bl a) H := by rw [e]; exact q
theorem ite1 {c : Bool} {A B : Prop} (e : c = true) (h : A) : if c = true then A else B := by rw [if_pos e]; exact h
theorem ite0 {c : Bool} {A B : Prop} (e : c = false) (h : B) : if c = true then A else B := by rw [e]; exact iteF h
/-- a comprehension's item that no test asks for -/
theorem yes {σ : L2.St} {H : Hp} {A B : Hp → Prop} (h : A H) : tYes σ H (fun b H3 => if b = true then A H3 else B H3) := by
  show if true = true then A H else B H
  exact iteT h
theorem same_put {H H2 : Hp} {D : Addr} {o : HO} (s : Same H H2) (n : H D = none) : Same H (upd H2 D o) := fun b x e => by
  rw [upd_ne (ne_of_none e n)]
  exact s b x e
theorem same_new {H : Hp} {D : Addr} {o : HO} (n : H D = none) : Same H (upd H D o) := same_put (Same.refl H) n
theorem upd_at {H : Hp} {a b : Addr} {o u : HO} (h : H a = some u) (n : H b = none) : upd H b o a = some u := by rw [upd_ne (ne_of_none h n)]; exact h
/-- tuples stay -/
def TK (H H' : Hp) : Prop := ∀ b xs, H b = some (.tup xs) → H' b = some (.tup xs)
theorem TK.refl (H : Hp) : TK H H := fun _ _ h => h
theorem TK.trans {H H1 H2 : Hp} (a : TK H H1) (b : TK H1 H2) : TK H H2 := fun c o h => b c o (a c o h)
theorem TK.of {H H' : Hp} (s : Same H H') : TK H H' := fun b xs h => s b _ h
theorem TK.new {H : Hp} {D : Addr} {o : HO} (n : H D = none) : TK H (upd H D o) := TK.of (same_new n)
/-- a list is written -/
theorem TK.lst {H : Hp} {D : Addr} {o : HO} {xs : List V} (n : H D = some (.lst xs)) : TK H (upd H D o) := fun b ys h => by
  rw [upd_ne (fun z => by rw [z, n] at h; cases h)]
  exact h
/-! ### pairs, triples -/
theorem Pd.get {α β : Type} {F : α → β → Prop} : ∀ {xs : List α} {ys : List β} {i : Nat} {y : β}, Paired F xs ys → ys[i]? = some y → ∃ x, xs[i]? = some x ∧ F x y
  | _, _, _, _, .nil, e => by simp at e
  | _, _, 0, _, .cons r _, e => by
    have e2 := Option.some.inj e
    subst e2
    exact ⟨_, rfl, r⟩
  | _, _, i + 1, y, .cons _ t, e => by
    obtain ⟨x, h1, h2⟩ := Pd.get (i := i) t (by simpa using e)
    exact ⟨x, by simpa using h1, h2⟩
theorem Pd.getL {α β : Type} {F : α → β → Prop} : ∀ {xs : List α} {ys : List β} {i : Nat} {x : α}, Paired F xs ys → xs[i]? = some x → ∃ y, ys[i]? = some y ∧ F x y
  | _, _, _, _, .nil, e => by simp at e
  | _, _, 0, _, .cons r _, e => by
    have e2 := Option.some.inj e
    subst e2
    exact ⟨_, rfl, r⟩
  | _, _, i + 1, y, .cons _ t, e => by
    obtain ⟨x, h1, h2⟩ := Pd.getL (i := i) t (by simpa using e)
    exact ⟨x, by simpa using h1, h2⟩
theorem Pd.app {α β : Type} {F : α → β → Prop} : ∀ {xs xs2 : List α} {ys ys2 : List β}, Paired F xs ys → Paired F xs2 ys2 → Paired F (xs ++ xs2) (ys ++ ys2)
  | _, _, _, _, .nil, s => s
  | _, _, _, _, .cons r t, s => .cons r (Pd.app t s)
theorem Pd.snoc {α β : Type} {F : α → β → Prop} {xs : List α} {ys : List β} {x : α} {y : β} (h : Paired F xs ys) (r : F x y) : Paired F (xs ++ [x]) (ys ++ [y]) := Pd.app h (.cons r .nil)
theorem Pd.take {α β : Type} {F : α → β → Prop} : ∀ {xs : List α} {ys : List β} (n : Nat), Paired F xs ys → Paired F (xs.take n) (ys.take n)
  | _, _, 0, _ => .nil
  | _, _, _ + 1, .nil => .nil
  | _, _, n + 1, .cons r t => .cons r (Pd.take n t)
theorem Pd.drop {α β : Type} {F : α → β → Prop} : ∀ {xs : List α} {ys : List β} (n : Nat), Paired F xs ys → Paired F (xs.drop n) (ys.drop n)
  | _, _, 0, r => r
  | _, _, _ + 1, .nil => .nil
  | _, _, n + 1, .cons _ t => Pd.drop n t
theorem Pd.rev {α β : Type} {F : α → β → Prop} : ∀ {xs : List α} {ys : List β}, Paired F xs ys → Paired F xs.reverse ys.reverse
  | _, _, .nil => .nil
  | _, _, .cons r t => by
    rw [List.reverse_cons, List.reverse_cons]
    exact Pd.snoc (Pd.rev t) r
theorem Pd.dropLast {α β : Type} {F : α → β → Prop} {xs : List α} {ys : List β} (h : Paired F xs ys) : Paired F xs.dropLast ys.dropLast := by
  have e : ys.length = xs.length := (Paired.length h).symm
  rw [List.dropLast_eq_take, List.dropLast_eq_take, e]
  exact Pd.take _ h
theorem Pd.imp {α β : Type} {F G : α → β → Prop} {xs : List α} {ys : List β} (h : Paired F xs ys) (f : ∀ a b, F a b → G a b) : Paired G xs ys := Paired.mapP h f
def PrAt (H : Hp) (v : V) (c : Cut) : Prop := ∃ p, v = .ref p ∧ H p = some (.tup [.int c.1, .int c.2])
abbrev Prs (H : Hp) : List V → List Cut → Prop := Paired (PrAt H)
theorem PrAt.keep {H H' : Hp} (k : TK H H') {v : V} {c : Cut} (h : PrAt H v c) : PrAt H' v c := by
  obtain ⟨p, e, q⟩ := h
  exact ⟨p, e, k _ _ q⟩
theorem Prs.keep {H H' : Hp} (k : TK H H') {vs : List V} {cs : List Cut} (h : Prs H vs cs) : Prs H' vs cs := Pd.imp h fun _ _ x => x.keep k
def CutsT (H : Hp) (a : Addr) (cs : List Cut) : Prop := ∃ ps, H a = some (.tup ps) ∧ Prs H ps cs
theorem CutsT.keep {H H' : Hp} (k : TK H H') {a : Addr} {cs : List Cut} (h : CutsT H a cs) : CutsT H' a cs := by
  obtain ⟨ps, e, q⟩ := h
  exact ⟨ps, k _ _ e, q.keep k⟩
abbrev Tri := Int × Int × Int
def TrAt (H : Hp) (v : V) (t : Tri) : Prop := ∃ p, v = .ref p ∧ H p = some (.tup [.int t.1, .int t.2.1, .int t.2.2])
abbrev Trs (H : Hp) : List V → List Tri → Prop := Paired (TrAt H)
theorem TrAt.keep {H H' : Hp} (k : TK H H') {v : V} {t : Tri} (h : TrAt H v t) : TrAt H' v t := by
  obtain ⟨p, e, q⟩ := h
  exact ⟨p, e, k _ _ q⟩
theorem Trs.keep {H H' : Hp} (k : TK H H') {vs : List V} {ts : List Tri} (h : Trs H vs ts) : Trs H' vs ts := Pd.imp h fun _ _ x => x.keep k
/-! ### as data -/
def dP (c : Cut) : PyData := .tuple [.int c.1, .int c.2]
section
variable {K : PySem.W.Frag} {H : Hp}
theorem dp_pair {v : V} {c : Cut} (h : PrAt H v c) : Dp K H v (dP c) := by
  obtain ⟨p, rfl, q⟩ := h
  exact .tup (.inl (.inl q)) (.cons (.int _) (.cons (.int _) .nil))
theorem dp_prs : ∀ {vs : List V} {cs : List Cut}, Prs H vs cs → DpAll K H vs (cs.map dP)
  | _, _, .nil => .nil
  | _, _, .cons r t => .cons (dp_pair r) (dp_prs t)
theorem dp_ints : ∀ ns : List Int, DpAll K H (ns.map V.int) (ns.map PyData.int)
  | [] => .nil
  | n :: r => .cons (.int n) (dp_ints r)
end
theorem eqv_dP (c d : Cut) : PyData.eqv (dP c) (dP d) = decide (c = d) := by
  obtain ⟨a, b⟩ := c
  obtain ⟨x, y⟩ := d
  simp [dP, PyData.eqv, PyData.eqvAll]
  by_cases h1 : a = x <;> by_cases h2 : b = y <;> simp [h1, h2]
theorem eqv_pairs : ∀ cs ds : List Cut, PyData.eqvAll (cs.map dP) (ds.map dP) = decide (cs = ds)
  | [], [] => by simp [PyData.eqvAll]
  | c :: cs, [] => by simp [PyData.eqvAll]
  | [], d :: ds => by simp [PyData.eqvAll]
  | c :: cs, d :: ds => by
    rw [List.map_cons, List.map_cons]
    show (PyData.eqv (dP c) (dP d) && PyData.eqvAll (cs.map dP) (ds.map dP)) = _
    rw [eqv_dP, eqv_pairs cs ds]
    by_cases h1 : c = d <;> by_cases h2 : cs = ds <;> simp [h1, h2]
theorem can_pairs : ∀ cs : List Cut, PyData.canLayAll0 (cs.map dP) = true
  | [] => by simp [PyData.canLayAll0]
  | c :: cs => by simp [PyData.canLayAll0, PyData.canLay0, dP, can_pairs cs]
theorem dep_pairs : ∀ cs : List Cut, PyData.depthAll (cs.map dP) ≤ 1
  | [] => by simp [PyData.depthAll]
  | c :: cs => by
    have := dep_pairs cs
    simp [PyData.depthAll, PyData.depth, dP]
    omega
theorem sh_list (cs : List Cut) : SeqAt.shaped (.list (cs.map dP)) = true := by
  have := dep_pairs cs
  simp [SeqAt.shaped, PyData.canLay0, PyData.depth, can_pairs]
  omega
theorem sh_tup (cs : List Cut) : SeqAt.shaped (.tuple (cs.map dP)) = true := by
  have := dep_pairs cs
  simp [SeqAt.shaped, PyData.canLay0, PyData.depth, can_pairs]
  omega
theorem sh_nilL : SeqAt.shaped (.list []) = true := sh_list []
theorem sh_nilT : SeqAt.shaped (.tuple []) = true := sh_tup []
theorem can_ints : ∀ ns : List Int, PyData.canLayAll0 (ns.map PyData.int) = true
  | [] => by simp [PyData.canLayAll0]
  | n :: ns => by simp [PyData.canLayAll0, PyData.canLay0, can_ints ns]
theorem dep_ints : ∀ ns : List Int, PyData.depthAll (ns.map PyData.int) = 0
  | [] => by simp [PyData.depthAll]
  | n :: ns => by simp [PyData.depthAll, PyData.depth, dep_ints ns]
theorem sh_ints (ns : List Int) : SeqAt.shaped (.list (ns.map PyData.int)) = true := by
  simp [SeqAt.shaped, PyData.canLay0, PyData.depth, can_ints, dep_ints]
theorem eqv_ints : ∀ ns ms : List Int, PyData.eqvAll (ns.map PyData.int) (ms.map PyData.int) = decide (ns = ms)
  | [], [] => by simp [PyData.eqvAll]
  | c :: cs, [] => by simp [PyData.eqvAll]
  | [], d :: ds => by simp [PyData.eqvAll]
  | c :: cs, d :: ds => by
    rw [List.map_cons, List.map_cons]
    show (PyData.eqv (.int c) (.int d) && PyData.eqvAll (cs.map PyData.int) (ds.map PyData.int)) = _
    rw [eqv_ints cs ds]
    have e : PyData.eqv (.int c) (.int d) = decide (c = d) := by
      simp [PyData.eqv]
      by_cases h : c = d <;> simp [h]
    rw [e]
    by_cases h1 : c = d <;> by_cases h2 : cs = ds <;> simp [h1, h2]
theorem neNil_pairs (cs : List Cut) : (!PyData.eqv (.list (cs.map dP)) (.list [])) = decide (cs ≠ []) := by
  have e : PyData.eqv (.list (cs.map dP)) (.list []) = decide (cs = []) := eqv_pairs cs []
  rw [e]
  by_cases h : cs = [] <;> simp [h]
/-- cuts of the law's size -/
structure Good (cs : List Cut) : Prop where
  few : cs.length ≤ 16
  ok : ∀ c ∈ cs, 0 ≤ c.1 ∧ c.1 < c.2 ∧ c.2 ≤ 200
theorem Good.lt {cs : List Cut} (g : Good cs) : ∀ c ∈ cs, c.1 < c.2 := fun c h => (g.ok c h).2.1
theorem Good.le {cs : List Cut} (g : Good cs) : ∀ c ∈ cs, c.1 ≤ c.2 := fun c h => Int.le_of_lt (g.lt c h)
theorem Good.ge {cs : List Cut} (g : Good cs) : ∀ c ∈ cs, 0 ≤ c.1 ∧ c.1 < c.2 := fun c h => ⟨(g.ok c h).1, (g.ok c h).2.1⟩
theorem total_le : ∀ {cs : List Cut}, (∀ c ∈ cs, 0 ≤ c.1 ∧ c.1 < c.2 ∧ c.2 ≤ 200) → 0 ≤ total cs ∧ total cs ≤ 200 * cs.length
  | [], _ => ⟨Int.le_refl _, Int.le_refl _⟩
  | c :: r, h => by
    obtain ⟨h1, h2⟩ := total_le fun d hd => h d (List.mem_cons_of_mem _ hd)
    have := h c List.mem_cons_self
    rw [total_cons, List.length_cons]
    omega
theorem Good.tot {cs : List Cut} (g : Good cs) : 0 ≤ total cs ∧ total cs ≤ 3200 := by
  have := total_le g.ok
  have := g.few
  omega
theorem Good.takeT {cs : List Cut} (g : Good cs) (i : Nat) : 0 ≤ Cap.total (cs.take i) ∧ Cap.total (cs.take i) ≤ 3200 := by
  have h := total_le (cs := cs.take i) fun c hc => g.ok c (List.mem_of_mem_take hc)
  have := g.few
  have : (cs.take i).length ≤ cs.length := by rw [List.length_take]; exact Nat.min_le_right _ _
  omega
theorem small {n : Nat} (h : n ≤ 100000) : n ≤ sizeLine := by rw [sizeLine_eq]; omega
theorem smallLt {n : Nat} (h : n ≤ 100000) : n < sizeLine := by rw [sizeLine_eq]; omega
end Cap

set_option Elab.async false
set_option linter.all false
set_option maxRecDepth 100000
set_option maxHeartbeats 4000000
/-! is_whole, is_stretch, need_frame, is_cut, need_cuts -/
namespace Cap
open PySem PySem.Spec PyProof.Rows L2
abbrev sWhole : Stmt := topS 13
abbrev sStretch : Stmt := topS 16
abbrev sNeedFrame : Stmt := topS 17
abbrev sIsCut : Stmt := topS 20
abbrev sNeedCuts : Stmt := topS 21
theorem scWhole : FnScope ["thing", "least", "most"] ["thing", "least", "most"] (defScope sWhole) := ⟨rfl, rfl, rfl, by decide +kernel, rfl, by decide +kernel, by decide +kernel⟩
theorem scStretch : FnScope ["begin", "end"] ["begin", "end"] (defScope sStretch) := ⟨rfl, rfl, rfl, by decide +kernel, rfl, by decide +kernel, by decide +kernel⟩
theorem scNeedFrame : FnScope ["frame"] ["frame"] (defScope sNeedFrame) := ⟨rfl, rfl, rfl, by decide +kernel, rfl, by decide +kernel, by decide +kernel⟩
theorem scIsCut : FnScope ["thing"] ["thing"] (defScope sIsCut) := ⟨rfl, rfl, rfl, by decide +kernel, rfl, by decide +kernel, by decide +kernel⟩
theorem scNeedCuts : FnScope ["thing", "whole", "number", "cut"] ["thing"] (defScope sNeedCuts) := ⟨rfl, rfl, rfl, by decide +kernel, rfl, by decide +kernel, by decide +kernel⟩
section
variable {P : Program} {w : World} {K : PySem.W.Frag} {mg : Str → Option Value} {base : Heap}
def spWhole : Sp := fun vs H Q _ => ∃ t l m : Int, vs = [.int t, .int l, .int m] ∧ l ≤ t ∧ t ≤ m ∧ Q (.bl true) H
theorem tyInt {H : Hp} (i : Int) : TyX K H (.int i) (.type "int") := .base (.int i)
theorem tyTup {H : Hp} {a : Addr} {xs : List V} (e : H a = some (.tup xs)) : TyX K H (.ref a) (.type "tuple") := .base (.tup e)
theorem ok_whole {f : Addr} {fd : FuncData} (F : Fun K "is_whole" "is_whole" sWhole f fd) (B : Blt mg) : FnOk P w K mg base CX0 1 f fd ["thing", "least", "most"] spWhole := by
  refine F.ok scWhole (fun vs H Q E h => ?_) (fun cdv A outer s H vs Q E hr h => ?_)
  · obtain ⟨t, l, m, rfl, _⟩ := h
    rfl
  · obtain ⟨t, l, m, rfl, h1, h2, q⟩ := h
    refine ⟨_, pss_cons (ps_if (PW.pt (pw_or (pt_not (pt_val (pe_callB call_isi (by rfl) B.isinst (by decide +kernel) (pa_cons (pv 0) (pa_cons (pe_bltn (v := .ty "int") (u := .type "int") (by rfl) B.int (by decide +kernel) rfl) pa_nil)))))
        (pw_or (pt_val (pe_callB call_isi (by rfl) B.isinst (by decide +kernel) (pa_cons (pv 0) (pa_cons (pe_bltn (v := .ty "bool") (u := .type "bool") (by rfl) B.bool (by decide +kernel) rfl) pa_nil))))
          (pw_or1 (pt_cmpR op_lt (pv 0) (pv 1) (nomark _)))))) (pss_one (ps_ret pe_bl)) pss_nil)
      (pss_one (ps_ret (pe_or (pe_cmp (pc_isN (pv 2)) rfl) (pe_one (pe_cmp (pc_le (pv 0) (pv 2)) rfl))))), ?_⟩
    refine ⟨_, rfl, _, _, _, _, true, rfl, .ty _, tyInt t, kit_ty (by decide +kernel), _, rfl, iteF ?_⟩
    refine ⟨_, rfl, _, _, _, _, false, rfl, .ty _, tyInt t, kit_ty (by decide +kernel), _, rfl, iteF ?_⟩
    refine ⟨_, rfl, _, rfl, _, _, rfl, rfl, _, rfl, ?_⟩
    rw [decide_eq_false (show ¬ t < l by omega)]
    refine iteF ⟨_, rfl, _, rfl, iteF ?_⟩
    exact ⟨_, rfl, _, rfl, _, _, rfl, rfl, bt (decide_eq_true h2) q⟩
def spStretch : Sp := fun vs H Q _ => ∃ b e : Int, vs = [.int b, .int e] ∧ 0 ≤ b ∧ b < e ∧ e ≤ 1000000000000 ∧ Q (.bl true) H
theorem ok_stretch {f fW : Addr} {fd fdW : FuncData} {tL : Tok} (F : Fun K "is_stretch" "is_stretch" sStretch f fd) (DW : Df K mg "is_whole" sWhole ["thing", "least", "most"] fW fdW) (B : Blt mg) (gL : mg "LAST_FRAME" = some (.int 1000000000000 tL)) :
    FnOk P w K mg base CX0 2 f fd ["begin", "end"] spStretch := by
  have GW : FnOk P w K mg base CX0 1 fW fdW ["thing", "least", "most"] spWhole := ok_whole DW.fn B
  refine F.ok scStretch (fun vs H Q E h => ?_) (fun cdv A outer s H vs Q E hr h => ?_)
  · obtain ⟨b, e, rfl, _⟩ := h
    rfl
  · obtain ⟨b, e, rfl, h1, h2, h3, q⟩ := h
    refine ⟨_, pss_one (ps_ret (pe_and (pe_df DW GW hr pass0 (pa_cons (pv 0) (pa_cons pe_int (pa_cons (pe_glob (v := .int 1000000000000) (by rfl) gL ⟨_, rfl⟩) pa_nil))))
      (pe_one (pe_df DW GW hr pass0 (pa_cons (pv 1) (pa_cons (pe_op op_add (pv 0) pe_int) (pa_cons (pe_glob (v := .int 1000000000000) (by rfl) gL ⟨_, rfl⟩) pa_nil))))))), ?_⟩
    refine ⟨_, rfl, _, _, _, rfl, h1, by omega, _, rfl, iteT ?_⟩
    exact ⟨_, rfl, _, rfl, _, _, rfl, rfl, _, _, _, rfl, by omega, h3, q⟩
def spNeedFrame : Sp := fun vs H Q _ => ∃ b : Int, vs = [.int b] ∧ 0 ≤ b ∧ b ≤ 1000000000000 ∧ Q .non H
theorem ok_needFrame {f fW : Addr} {fd fdW : FuncData} {tL : Tok} (F : Fun K "need_frame" "need_frame" sNeedFrame f fd) (DW : Df K mg "is_whole" sWhole ["thing", "least", "most"] fW fdW) (B : Blt mg) (gL : mg "LAST_FRAME" = some (.int 1000000000000 tL)) :
    FnOk P w K mg base CX0 2 f fd ["frame"] spNeedFrame := by
  have GW : FnOk P w K mg base CX0 1 fW fdW ["thing", "least", "most"] spWhole := ok_whole DW.fn B
  refine F.ok scNeedFrame (fun vs H Q E h => ?_) (fun cdv A outer s H vs Q E hr h => ?_)
  · obtain ⟨b, rfl, _⟩ := h
    rfl
  · obtain ⟨b, rfl, h1, h2, q⟩ := h
    refine ⟨_, pss_one (ps_if (pt_not (pt_val (pe_df DW GW hr pass0 (pa_cons (pv 0) (pa_cons pe_int (pa_cons (pe_glob (v := .int 1000000000000) (by rfl) gL ⟨_, rfl⟩) pa_nil)))))) pss_never pss_nil), ?_⟩
    exact ⟨_, rfl, _, _, _, rfl, h1, h2, _, rfl, iteF q⟩
def spIsCut : Sp := fun vs H Q _ => ∃ (p : Addr) (c : Cut), vs = [.ref p] ∧ H p = some (.tup [.int c.1, .int c.2]) ∧ 0 ≤ c.1 ∧ c.1 < c.2 ∧ c.2 ≤ 1000000000000 ∧ Q (.bl true) H
theorem ok_isCut {f fW fS : Addr} {fd fdW fdS : FuncData} {tL : Tok} (F : Fun K "is_cut" "is_cut" sIsCut f fd) (DS : Df K mg "is_stretch" sStretch ["begin", "end"] fS fdS) (DW : Df K mg "is_whole" sWhole ["thing", "least", "most"] fW fdW) (B : Blt mg) (gL : mg "LAST_FRAME" = some (.int 1000000000000 tL)) :
    FnOk P w K mg base CX0 3 f fd ["thing"] spIsCut := by
  have GS : FnOk P w K mg base CX0 2 fS fdS ["begin", "end"] spStretch := ok_stretch DS.fn DW B gL
  refine F.ok scIsCut (fun vs H Q E h => ?_) (fun cdv A outer s H vs Q E hr h => ?_)
  · obtain ⟨p, c, rfl, _⟩ := h
    rfl
  · obtain ⟨p, c, rfl, hp, h1, h2, h3, q⟩ := h
    refine ⟨_, pss_one (ps_ret (pe_and (pe_callB call_isi (by rfl) B.isinst (by decide +kernel) (pa_cons (pv 0) (pa_cons (pe_bltn (v := .ty "tuple") (u := .type "tuple") (by rfl) B.tuple (by decide +kernel) rfl) pa_nil)))
      (pe_and (pe_cmpR op_eq (pe_callB call_len_seq (by rfl) B.len PySem.boot_len (pa_cons (pv 0) pa_nil)) pe_int (nomark _))
        (pe_one (pe_df DS GS hr pass0 (pa_cons (pe_ix ix_tup (pv 0) pe_int (fun _ _ => rfl)) (pa_cons (pe_ix ix_tup (pv 0) pe_int (fun _ _ => rfl)) pa_nil))))))), ?_⟩
    have hT : SqT K H p [.int c.1, .int c.2] := .inl (.inl hp)
    refine ⟨_, rfl, _, _, _, _, true, rfl, .ty _, tyTup hp, kit_ty (by decide +kernel), _, rfl, iteT ?_⟩
    refine ⟨_, rfl, p, _, rfl, .inr hT, rfl, _, rfl, iteT ?_⟩
    exact ⟨.ref p, rfl, p, _, 0, .int c.1, rfl, rfl, hT, rfl, .ref p, rfl, p, _, 1, .int c.2, rfl, rfl, hT, rfl, _, _, rfl, h1, h2, h3, q⟩
def spNeedCuts : Sp := fun vs H Q _ => ∃ (a : Addr) (cs : List Cut), vs = [.ref a] ∧ CutsT H a cs ∧ Good cs ∧ ∀ H', Same H H' → Q (.ref a) H'
theorem ok_needCuts {f fW fS fC : Addr} {fd fdW fdS fdC : FuncData} {tL tM : Tok} (F : Fun K "need_cuts" "need_cuts" sNeedCuts f fd) (DC : Df K mg "is_cut" sIsCut ["thing"] fC fdC) (DS : Df K mg "is_stretch" sStretch ["begin", "end"] fS fdS) (DW : Df K mg "is_whole" sWhole ["thing", "least", "most"] fW fdW)
    (B : Blt mg) (gL : mg "LAST_FRAME" = some (.int 1000000000000 tL)) (gM : mg "MOST_CUTS" = some (.int 60 tM)) :
    FnOk P w K mg base CX0 4 f fd ["thing"] spNeedCuts := by
  have GC : FnOk P w K mg base CX0 3 fC fdC ["thing"] spIsCut := ok_isCut DC.fn DS DW B gL
  refine F.ok scNeedCuts (fun vs H Q E h => ?_) (fun cdv A outer s H vs Q E hr h => ?_)
  · obtain ⟨a, cs, rfl, _⟩ := h
    rfl
  · obtain ⟨a, cs, rfl, ⟨ps, ha, hp⟩, g, q⟩ := h
    have hlen : ps.length = cs.length := Paired.length hp
    have few := g.few
    have hT : SqT K H a ps := .inl (.inl ha)
    refine ⟨_, pss_cons (ps_if (PW.pt (pw_or (pt_not (pt_val (pe_callB call_isi (by rfl) B.isinst (by decide +kernel) (pa_cons (pv 0) (pa_cons (pe_bltn (v := .ty "tuple") (u := .type "tuple") (by rfl) B.tuple (by decide +kernel) rfl) pa_nil)))))
        (pw_or1 (pt_cmpR op_gt (pe_callB call_len_seq (by rfl) B.len PySem.boot_len (pa_cons (pv 0) pa_nil)) (pe_glob (v := .int 60) (by rfl) gM ⟨_, rfl⟩) (nomark _))))) pss_never pss_nil)
      (pss_cons (ps_set (i := 1) scNeedCuts.nd rfl (.inl rfl) pe_int)
      (pss_cons (ps_for PassesOwn.never rfl (pi_enumT (by rfl) B.enumerate (pa_cons (pv 0) pa_nil))
          (pg_tup rfl (pgs_cons (pg_name (i := 2) scNeedCuts.nd rfl (.inl rfl)) (pgs_cons (pg_name (i := 3) scNeedCuts.nd rfl (.inl rfl)) pgs_nil)))
        (pss_cons (ps_if (PW.pt (pw_or (pt_not (pt_val (pe_df DC GC hr pass0 (pa_cons (pv 3) pa_nil))))
            (pw_or1 (pt_cmpR op_gt (pe_op op_sub (pe_op op_add (pv 1) (pe_ix ix_tup (pv 3) pe_int (fun _ _ => rfl))) (pe_ix ix_tup (pv 3) pe_int (fun _ _ => rfl))) (pe_glob (v := .int 1000000000000) (by rfl) gL ⟨_, rfl⟩) (nomark _))))) pss_never pss_nil)
          (pss_one (ps_aug (i := 1) scNeedCuts.nd rfl (.inl rfl) (pe_op op_sub (pe_ix ix_tup (pv 3) pe_int (fun _ _ => rfl)) (pe_ix ix_tup (pv 3) pe_int (fun _ _ => rfl))) ip_add))))
      (pss_one (ps_ret (pv 0))))), ?_⟩
    refine ⟨_, rfl, _, _, _, _, true, rfl, .ty _, tyTup ha, kit_ty (by decide +kernel), _, rfl, iteF ?_⟩
    refine ⟨_, rfl, a, _, rfl, .inr hT, _, _, rfl, rfl, _, rfl, ?_⟩
    rw [decide_eq_false (show ¬ (60 : Int) < ((ps.length : Nat) : Int) by omega)]
    refine iteF ?_
    refine ⟨_, rfl, a, ps, rfl, hT, for_it (walk_enumT (xs := ps)) (fun i σ H' => ∃ y2 y3, σ = [some (.ref a), some (.int (total (cs.take i))), y2, y3] ∧ Same H H') ⟨none, none, rfl, Same.refl H⟩ (fun i σ H' _ ⟨_, _, _, sm⟩ => .inl (.inl (sm _ _ ha))) ?_ ?_⟩
    · rintro i x σ H1 H2 hi ⟨y2, y3, rfl, sm⟩ ⟨T, x1, x2, rfl, nT, rfl, e1, e2⟩
      obtain ⟨c, hc, p, rfl, hpp⟩ := Pd.getL hp e2
      cases e1
      have gc := g.ok c (List.mem_of_getElem? hc)
      have gt := g.takeT i
      have sm2 : Same H (upd H1 T (.tup [.int (i : Nat), .ref p])) := fun b o e => upd_at (sm b o e) nT
      have hpp2 := sm2 _ _ hpp
      have hP : SqT K (upd H1 T (.tup [.int (i : Nat), .ref p])) p [.int c.1, .int c.2] := .inl (.inl hpp2)
      refine ⟨T, [_, _], rfl, .inl (.inl upd_same), rfl, _, _, rfl, _, _, rfl, rfl, ?_⟩
      refine ⟨_, rfl, p, c, rfl, hpp2, gc.1, gc.2.1, by omega, _, rfl, iteF ?_⟩
      refine ⟨_, rfl, .ref p, rfl, p, _, 1, .int c.2, rfl, rfl, hP, rfl, _, _, rfl, rfl, .ref p, rfl, p, _, 0, .int c.1, rfl, rfl, hP, rfl, _, _, rfl, rfl, _, _, rfl, rfl, _, rfl, ?_⟩
      rw [decide_eq_false (show ¬ (1000000000000 : Int) < total (cs.take i) + c.2 - c.1 by omega)]
      refine iteF ?_
      refine ⟨_, rfl, .ref p, rfl, p, _, 1, .int c.2, rfl, rfl, hP, rfl, .ref p, rfl, p, _, 0, .int c.1, rfl, rfl, hP, rfl, _, _, rfl, rfl, _, _, rfl, rfl, ?_⟩
      refine ⟨some (.int (i : Nat)), some (.ref p), ?_, sm2⟩
      rw [take_snoc hc, total_snoc]
      rfl
    · rintro σ H' ⟨y2, y3, rfl, sm⟩
      exact ⟨_, rfl, q H' sm⟩
end
end Cap

set_option Elab.async false
set_option linter.all false
set_option maxRecDepth 100000
set_option maxHeartbeats 4000000
/-! length_in, length, places_of -/
namespace Cap
open PySem PySem.Spec PyProof.Rows L2
abbrev sLenIn : Stmt := topS 22
abbrev sLength : Stmt := topS 23
abbrev sPlaces : Stmt := topS 24
theorem scLenIn : FnScope ["cuts", "begin", "end"] ["cuts"] (defScope sLenIn) := ⟨rfl, rfl, rfl, by decide +kernel, rfl, by decide +kernel, by decide +kernel⟩
theorem scLength : FnScope ["cuts"] ["cuts"] (defScope sLength) := ⟨rfl, rfl, rfl, by decide +kernel, rfl, by decide +kernel, by decide +kernel⟩
theorem scPlaces : FnScope ["cuts", "found", "here", "begin", "end"] ["cuts"] (defScope sPlaces) := ⟨rfl, rfl, rfl, by decide +kernel, rfl, by decide +kernel, by decide +kernel⟩
/-- what need_cuts leans on -/
structure TxC (K : PySem.W.Frag) (mg : Str → Option Value) (fW fS fC fN fF : Addr) (fdW fdS fdC fdN fdF : FuncData) : Prop where
  B : Blt mg
  W : Df K mg "is_whole" sWhole ["thing", "least", "most"] fW fdW
  S : Df K mg "is_stretch" sStretch ["begin", "end"] fS fdS
  C : Df K mg "is_cut" sIsCut ["thing"] fC fdC
  N : Df K mg "need_cuts" sNeedCuts ["thing"] fN fdN
  F : Df K mg "need_frame" sNeedFrame ["frame"] fF fdF
  L : ∃ t, mg "LAST_FRAME" = some (.int 1000000000000 t)
  M : ∃ t, mg "MOST_CUTS" = some (.int 60 t)
section
variable {P : Program} {w : World} {K : PySem.W.Frag} {mg : Str → Option Value} {base : Heap} {fW fS fC fN fF : Addr} {fdW fdS fdC fdN fdF : FuncData}
theorem TxC.needCuts (T : TxC K mg fW fS fC fN fF fdW fdS fdC fdN fdF) : FnOk P w K mg base CX0 4 fN fdN ["thing"] spNeedCuts := by
  obtain ⟨t, hL⟩ := T.L
  obtain ⟨u, hM⟩ := T.M
  exact ok_needCuts T.N.fn T.C T.S T.W T.B hL hM
theorem TxC.needFrame (T : TxC K mg fW fS fC fN fF fdW fdS fdC fdN fdF) : FnOk P w K mg base CX0 2 fF fdF ["frame"] spNeedFrame := by
  obtain ⟨t, hL⟩ := T.L
  exact ok_needFrame T.F.fn T.W T.B hL
def spLenIn : Sp := fun vs H Q _ => ∃ (a : Addr) (cs : List Cut), vs = [.ref a] ∧ CutsT H a cs ∧ Good cs ∧ ∀ H', Same H H' → Q (.int (total cs)) H'
theorem ok_lenIn {f : Addr} {fd : FuncData} (F : Fun K "length_in" "length_in" sLenIn f fd) (B : Blt mg) : FnOk P w K mg base CX0 1 f fd ["cuts"] spLenIn := by
  refine F.ok scLenIn (fun vs H Q E h => ?_) (fun cdv A outer s H vs Q E hr h => ?_)
  · obtain ⟨a, cs, rfl, _⟩ := h
    rfl
  · obtain ⟨a, cs, rfl, ⟨ps, ha, hp⟩, g, q⟩ := h
    have hlen : ps.length = cs.length := Paired.length hp
    have few := g.few
    refine ⟨_, pss_one (ps_ret (pe_callB (cr_sum rfl) (by rfl) B.sum (by decide +kernel) (pa_cons (pe_lc (own := [("begin", 1), ("end", 2)]) (g := gTup K 2 (gCons (gName 1) (gCons (gName 2) gNil))) (tt := tYes) rfl scLenIn.nd (pi_tup (pv 0))
      (blkOk_by (own := [("begin", 1), ("end", 2)]) (N := ["cuts", "begin", "end"]) (sc := defScope sLenIn) (by decide +kernel))
      (fun _ _ _ _ _ => pg_tup rfl (pgs_cons (pg_name (i := 1) scLenIn.nd rfl (Or.inl rfl)) (pgs_cons (pg_name (i := 2) scLenIn.nd rfl (Or.inl rfl)) pgs_nil)))
      (fun _ _ _ _ _ => pts_nil) (fun _ _ _ _ _ => pe_op op_sub (pv 2) (pv 1))) pa_nil))), ?_⟩
    refine ⟨_, rfl, a, rfl, ⟨ps, .inl (.inl ha)⟩, fun D nD => lc_tup (xs := ps) (fun i H' => Same H H' ∧ H' D = some (.lst (((cs.take i).map fun c => c.2 - c.1).map V.int))) ⟨same_new nD, upd_same⟩ (fun i H' _ ⟨sm, _⟩ => .inl (.inl (sm _ _ ha))) ?_ ?_⟩
    · rintro i x H1 hx ⟨sm, hD⟩
      obtain ⟨c, hc, p, rfl, hpp⟩ := Pd.getL hp hx
      refine ⟨p, _, rfl, .inl (.inl (sm _ _ hpp)), rfl, _, _, rfl, _, _, rfl, rfl, rfl, yes ?_⟩
      refine ⟨_, rfl, _, rfl, _, _, rfl, rfl, _, hD, ?_, same_put sm nD, ?_⟩
      · rw [List.length_map, List.length_map, List.length_take]
        exact smallLt (by omega)
      · rw [upd_same, take_snoc hc, List.map_append, List.map_append]
        rfl
    · rintro H' ⟨sm, hD⟩
      rw [hlen, List.take_length] at hD
      exact ⟨D, _, rfl, .inl (.inl hD), q H' sm⟩
def spLength : Sp := fun vs H Q _ => ∃ (a : Addr) (cs : List Cut), vs = [.ref a] ∧ CutsT H a cs ∧ Good cs ∧ ∀ H', Same H H' → Q (.int (total cs)) H'
theorem ok_length {f fI : Addr} {fd fdI : FuncData} (F : Fun K "length" "length" sLength f fd) (T : TxC K mg fW fS fC fN fF fdW fdS fdC fdN fdF) (DI : Df K mg "length_in" sLenIn ["cuts"] fI fdI) : FnOk P w K mg base CX0 5 f fd ["cuts"] spLength := by
  have GN : FnOk P w K mg base CX0 4 fN fdN ["thing"] spNeedCuts := T.needCuts
  have GI : FnOk P w K mg base CX0 1 fI fdI ["cuts"] spLenIn := ok_lenIn DI.fn T.B
  refine F.ok scLength (fun vs H Q E h => ?_) (fun cdv A outer s H vs Q E hr h => ?_)
  · obtain ⟨a, cs, rfl, _⟩ := h
    rfl
  · obtain ⟨a, cs, rfl, hc, g, q⟩ := h
    refine ⟨_, pss_one (ps_ret (pe_df DI GI (hr.mono (by decide)) pass0 (pa_cons (pe_df T.N GN hr pass0 (pa_cons (pv 0) pa_nil)) pa_nil))), ?_⟩
    exact ⟨_, rfl, a, cs, rfl, hc, g, fun H1 sm1 => ⟨a, cs, rfl, hc.keep (TK.of sm1), g, fun H2 sm2 => q H2 (sm1.trans sm2)⟩⟩
def spPlaces : Sp := fun vs H Q _ => ∃ (a : Addr) (cs : List Cut), vs = [.ref a] ∧ CutsT H a cs ∧ Good cs ∧ ∀ H' l us, Same H H' → H l = none → H' l = some (.lst us) → Trs H' us (placesG 0 cs) → Q (.ref l) H'
theorem ok_places {f : Addr} {fd : FuncData} (F : Fun K "places_of" "places_of" sPlaces f fd) : FnOk P w K mg base CX0 1 f fd ["cuts"] spPlaces := by
  refine F.ok scPlaces (fun vs H Q E h => ?_) (fun cdv A outer s H vs Q E hr h => ?_)
  · obtain ⟨a, cs, rfl, _⟩ := h
    rfl
  · obtain ⟨a, cs, rfl, ⟨ps, ha, hp⟩, g, q⟩ := h
    have hlen : ps.length = cs.length := Paired.length hp
    have few := g.few
    refine ⟨_, pss_cons (ps_par (i := 1) (j := 2) rfl scPlaces.nd rfl rfl (by decide) rfl rfl (pa_cons (pe_lst pa_nil) (pa_cons pe_int pa_nil)) (by rfl))
      (pss_cons (ps_for PassesOwn.never rfl (pi_tup (pv 0)) (pg_tup rfl (pgs_cons (pg_name (i := 3) scPlaces.nd rfl (.inl rfl)) (pgs_cons (pg_name (i := 4) scPlaces.nd rfl (.inl rfl)) pgs_nil)))
        (pss_cons (ps_expr (pe_bm PySem.F.plainAttrs_list PySem.F.slot_list_append PySem.F.type_list_append mt_append (pv 1) (pa_cons (pe_tup (pa_cons (pv 2) (pa_cons (pv 3) (pa_cons (pv 4) pa_nil)))) pa_nil)))
          (pss_one (ps_aug (i := 2) scPlaces.nd rfl (.inl rfl) (pe_op op_sub (pv 4) (pv 3)) ip_add))))
      (pss_one (ps_ret (pv 1)))), ?_⟩
    refine ⟨Nat.zero_le _, fun l nl => ⟨_, _, rfl, ?_⟩⟩
    have nal : a ≠ l := ne_of_none ha nl
    refine ⟨_, rfl, a, rfl, ⟨ps, .inl (.inl (upd_at ha nl))⟩, for_tup (xs := ps) (fun i σ H' => ∃ y3 y4 us, σ = [some (.ref a), some (.ref l), some (.int (total (cs.take i))), y3, y4] ∧ Same H H' ∧ H' l = some (.lst us) ∧ Trs H' us (placesG 0 (cs.take i)))
      ⟨none, none, [], rfl, same_new nl, upd_same, .nil⟩ (fun i σ H' _ ⟨_, _, _, _, sm, _⟩ => .inl (.inl (sm _ _ ha))) ?_ ?_⟩
    · rintro i x σ H1 hx ⟨y3, y4, us, rfl, sm, hl, hu⟩
      obtain ⟨c, hc, p, rfl, hpp⟩ := Pd.getL hp hx
      have hul : us.length = (placesG 0 (cs.take i)).length := Paired.length hu
      rw [places_len, List.length_take] at hul
      refine ⟨p, _, rfl, .inl (.inl (sm _ _ hpp)), rfl, _, _, rfl, _, _, rfl, rfl, ?_⟩
      refine ⟨_, rfl, .inl ⟨rfl, _, .inl (.inl hl)⟩, _, rfl, _, rfl, _, rfl, by show 3 ≤ sizeLine; decide, fun t nt => ?_⟩
      refine ⟨l, us, .ref t, rfl, rfl, upd_at hl nt, smallLt (by omega), ?_⟩
      refine ⟨_, rfl, _, rfl, _, rfl, _, _, rfl, rfl, _, _, rfl, rfl, ?_⟩
      have k1 : TK H1 (upd H1 t (.tup [.int (total (cs.take i)), .int c.1, .int c.2])) := TK.new nt
      have k2 : TK (upd H1 t (.tup [.int (total (cs.take i)), .int c.1, .int c.2])) (upd (upd H1 t (.tup [.int (total (cs.take i)), .int c.1, .int c.2])) l (.lst (us ++ [.ref t]))) := TK.lst (upd_at hl nt)
      refine ⟨some (.int c.1), some (.int c.2), us ++ [.ref t], ?_, same_put (fun b o e => upd_at (sm b o e) nt) nl, upd_same, ?_⟩
      · rw [take_snoc hc, total_snoc]
        rfl
      · rw [take_snoc hc, placesG_snoc]
        refine Pd.snoc (Trs.keep (k1.trans k2) hu) ⟨t, rfl, k2 _ _ ?_⟩
        rw [upd_same, Int.zero_add]
    · rintro σ H' ⟨y3, y4, us, rfl, sm, hl, hu⟩
      rw [hlen, List.take_length] at hu
      exact ⟨_, rfl, q H' l us sm nl hl hu⟩
end
end Cap

set_option Elab.async false
set_option linter.all false
set_option maxRecDepth 100000
set_option maxHeartbeats 4000000
/-! plain_in over a tuple and over a list, plain, alike_cuts -/
namespace Cap
open PySem PySem.Spec PyProof.Rows L2
abbrev sPlainIn : Stmt := topS 26
abbrev sPlain : Stmt := topS 27
abbrev sAlike : Stmt := topS 28
theorem scPlainIn : FnScope ["cuts", "found", "begin", "end"] ["cuts"] (defScope sPlainIn) := ⟨rfl, rfl, rfl, by decide +kernel, rfl, by decide +kernel, by decide +kernel⟩
theorem scPlain : FnScope ["cuts"] ["cuts"] (defScope sPlain) := ⟨rfl, rfl, rfl, by decide +kernel, rfl, by decide +kernel, by decide +kernel⟩
theorem scAlike : FnScope ["one", "other"] ["one", "other"] (defScope sAlike) := ⟨rfl, rfl, rfl, by decide +kernel, rfl, by decide +kernel, by decide +kernel⟩
theorem Pd.last {α β : Type} {F : α → β → Prop} : ∀ {ys : List β} {xs : List α} {y : β}, Paired F xs (ys ++ [y]) → ∃ xs' x, xs = xs' ++ [x] ∧ Paired F xs' ys ∧ F x y
  | [], _, y, h => by
    cases h with
    | cons r t =>
      cases t
      exact ⟨[], _, rfl, .nil, r⟩
  | z :: ys, _, y, h => by
    cases h with
    | cons r t =>
      obtain ⟨xs', x, rfl, h1, h2⟩ := Pd.last t
      exact ⟨_ :: xs', x, rfl, .cons r h1, h2⟩
theorem plainL_snoc (cs : List Cut) (c : Cut) : plainL (cs ++ [c]) = plainStep (plainL cs) c := by
  unfold plainL
  rw [List.foldl_append]
  rfl
theorem step_len (acc : List Cut) (c : Cut) : (plainStep acc c).length ≤ acc.length + 1 := by
  rcases list_cases acc with rfl | ⟨r, l, rfl⟩
  · rw [step_nil]
    exact Nat.le_refl _
  · rw [step_snoc]
    split <;> simp
theorem fold_len : ∀ (cs acc : List Cut), (cs.foldl plainStep acc).length ≤ acc.length + cs.length
  | [], _ => Nat.le_refl _
  | c :: r, acc => by
    have h1 := fold_len r (plainStep acc c)
    have h2 := step_len acc c
    show (r.foldl plainStep (plainStep acc c)).length ≤ acc.length + (r.length + 1)
    omega
theorem plainL_len (cs : List Cut) : (plainL cs).length ≤ cs.length := by
  have h : (cs.foldl plainStep []).length ≤ 0 + cs.length := fold_len cs []
  rw [Nat.zero_add] at h
  exact h
theorem ix_neg1 (n : Nat) : ixN (n + 1) (-1) = some n := by
  unfold ixN
  rw [if_neg (by decide), if_pos (by omega)]
  congr 1
  omega
theorem set_last {α : Type} (xs : List α) (x y : α) : (xs ++ [x]).set xs.length y = xs ++ [y] := by
  induction xs with
  | nil => rfl
  | cons a r ih =>
    show a :: (r ++ [x]).set r.length y = _
    rw [ih]
    rfl
section
variable {P : Program} {w : World} {K : PySem.W.Frag} {mg : Str → Option Value} {base : Heap} {fW fS fC fN fF : Addr} {fdW fdS fdC fdN fdF : FuncData}
def spPlainT : Sp := fun vs H Q _ => ∃ (a : Addr) (ps : List V) (cs : List Cut), vs = [.ref a] ∧ H a = some (.tup ps) ∧ Prs H ps cs ∧ cs.length ≤ 5000 ∧ ∀ H' p, Same H H' → H p = none → CutsT H' p (plainL cs) → Q (.ref p) H'
theorem ok_plainInT {f : Addr} {fd : FuncData} (F : Fun K "plain_in" "plain_in" sPlainIn f fd) (B : Blt mg) : FnOk P w K mg base CX0 1 f fd ["cuts"] spPlainT := by
  refine F.ok scPlainIn (fun vs H Q E h => ?_) (fun cdv A outer s H vs Q E hr h => ?_)
  · obtain ⟨a, ps, cs, rfl, _⟩ := h
    rfl
  · obtain ⟨a, ps, cs, rfl, ha, hp, few, q⟩ := h
    have hlen : ps.length = cs.length := Paired.length hp
    refine ⟨_, pss_cons (ps_set (i := 1) scPlainIn.nd rfl (.inl rfl) (pe_lst pa_nil))
      (pss_cons (ps_for PassesOwn.never rfl (pi_tup (pv 0)) (pg_tup rfl (pgs_cons (pg_name (i := 2) scPlainIn.nd rfl (.inl rfl)) (pgs_cons (pg_name (i := 3) scPlainIn.nd rfl (.inl rfl)) pgs_nil)))
        (pss_one (ps_if (PW.pt (pw_and (pt_cmpR (op_neD hr.units) (pv 1) (pe_lst pa_nil) (nomark _))
            (pw_and1 (pt_cmpR op_eq (pe_ix ix_tup (pe_ix ix_list (pv 1) (pe_un un_neg pe_int) (fun _ _ => rfl)) pe_int (fun _ _ => rfl)) (pv 2) (nomark _)))))
          (pss_one (ps_asg (pe_tup (pa_cons (pe_ix ix_tup (pe_ix ix_list (pv 1) (pe_un un_neg pe_int) (fun _ _ => rfl)) pe_int (fun _ _ => rfl)) (pa_cons (pv 3) pa_nil))) (pg_sub (pv 1) (pe_un un_neg pe_int) set_list)))
          (pss_one (ps_expr (pe_bm PySem.F.plainAttrs_list PySem.F.slot_list_append PySem.F.type_list_append mt_append (pv 1) (pa_cons (pe_tup (pa_cons (pv 2) (pa_cons (pv 3) pa_nil))) pa_nil)))))))
      (pss_one (ps_ret (pe_callTy call_tuple_of (by rfl) B.tuple (by decide +kernel) (pa_cons (pv 1) pa_nil))))), ?_⟩
    refine ⟨Nat.zero_le _, fun l nl => ?_⟩
    refine ⟨_, rfl, a, rfl, ⟨ps, .inl (.inl (upd_at ha nl))⟩, for_tup (xs := ps) (fun i σ H' => ∃ y2 y3 us, σ = [some (.ref a), some (.ref l), y2, y3] ∧ Same H H' ∧ H' l = some (.lst us) ∧ Prs H' us (plainL (cs.take i)))
      ⟨none, none, [], rfl, same_new nl, upd_same, .nil⟩ (fun i σ H' _ ⟨_, _, _, _, sm, _⟩ => .inl (.inl (sm _ _ ha))) ?_ ?_⟩
    · rintro i x σ H1 hx ⟨y2, y3, us, rfl, sm, hl, hu⟩
      obtain ⟨c, hc, p, rfl, hpp⟩ := Pd.getL hp hx
      have hul : us.length = (plainL (cs.take i)).length := Paired.length hu
      have hpl := plainL_len (cs.take i)
      rw [List.length_take] at hpl
      have goal1 : plainL (cs.take (i + 1)) = plainStep (plainL (cs.take i)) c := by rw [take_snoc hc, plainL_snoc]
      rw [goal1]
      generalize plainL (cs.take i) = acc at hu hul hpl ⊢
      refine ⟨p, _, rfl, .inl (.inl (sm _ _ hpp)), rfl, _, _, rfl, _, _, rfl, rfl, ?_⟩
      refine ⟨_, rfl, Nat.zero_le _, fun o no => ?_⟩
      have sm2 : Same H (upd H1 o (.lst [])) := fun b z e => upd_at (sm b z e) no
      have hl2 : (upd H1 o (.lst [])) l = some (.lst us) := upd_at hl no
      have hu2 : Prs (upd H1 o (.lst [])) us acc := hu.keep (TK.new no)
      refine ⟨.list (acc.map dP), .list [], .lst (.inl (.inl hl2)) (dp_prs hu2), .lst (.inl (.inl upd_same)) .nil, sh_list _, sh_nilL, _, rfl, ?_⟩
      rw [neNil_pairs]
      generalize upd H1 o (.lst []) = H2 at sm2 hl2 hu2 ⊢
      rcases list_cases acc with rfl | ⟨r, z, rfl⟩
      · refine ite0 (decide_eq_false (fun e => e rfl)) (iteF ?_)
        refine ⟨_, rfl, .inl ⟨rfl, _, .inl (.inl hl2)⟩, _, rfl, _, rfl, by show 2 ≤ sizeLine; decide, fun t nt => ?_⟩
        have k1 : TK H2 (upd H2 t (.tup [.int c.1, .int c.2])) := TK.new nt
        have hl3 : (upd H2 t (.tup [.int c.1, .int c.2])) l = some (.lst (us)) := upd_at hl2 nt
        have k2 : TK (upd H2 t (.tup [.int c.1, .int c.2])) (upd (upd H2 t (.tup [.int c.1, .int c.2])) l (.lst (us ++ [.ref t]))) := TK.lst hl3
        refine ⟨l, us, .ref t, rfl, rfl, hl3, smallLt (by omega), ?_⟩
        refine ⟨some (.int c.1), some (.int c.2), us ++ [.ref t], rfl, same_put (fun b o e => upd_at (sm2 b o e) nt) nl, upd_same, ?_⟩
        exact Pd.snoc (hu2.keep (k1.trans k2)) ⟨t, rfl, k2 _ _ upd_same⟩
      · obtain ⟨us', v, rfl, hu', zp, rfl, hz⟩ := Pd.last hu2
        refine ite1 (decide_eq_true (fun e => by cases r <;> cases e)) ?_
        refine ⟨_, rfl, 1, rfl, l, _, -1, .ref zp, rfl, rfl, .inl (.inl hl2), atI_last us' (.ref zp), zp, _, 1, .int z.2, rfl, rfl, .inl (.inl hz), rfl, _, rfl, rfl, _, rfl, ite2 (fun e => ?_) (fun e => ?_)⟩
        · have e1 : z.2 = c.1 := V.int.inj (of_decide_eq_true e)
          rw [step_snoc, if_pos e1]
          refine ⟨_, rfl, 1, rfl, l, _, -1, .ref zp, rfl, rfl, .inl (.inl hl2), atI_last us' (.ref zp), zp, _, 0, .int z.1, rfl, rfl, .inl (.inl hz), rfl, _, rfl, by show 2 ≤ sizeLine; decide, fun t nt => ?_⟩
          have k1 : TK H2 (upd H2 t (.tup [.int z.1, .int c.2])) := TK.new nt
          have hl3 : (upd H2 t (.tup [.int z.1, .int c.2])) l = some (.lst (us' ++ [.ref zp])) := upd_at hl2 nt
          have k2 : TK (upd H2 t (.tup [.int z.1, .int c.2])) (upd (upd H2 t (.tup [.int z.1, .int c.2])) l (.lst (us' ++ [.ref t]))) := TK.lst hl3
          have ixl : ixN (us' ++ [V.ref zp]).length (-1) = some us'.length := by
            rw [List.length_append]
            exact ix_neg1 us'.length
          refine ⟨_, rfl, 1, rfl, l, _, -1, us'.length, rfl, rfl, hl3, ixl, ?_⟩
          rw [set_last]
          refine ⟨some (.int c.1), some (.int c.2), us' ++ [.ref t], rfl, same_put (fun b o e => upd_at (sm2 b o e) nt) nl, upd_same, ?_⟩
          exact Pd.snoc (Prs.keep (k1.trans k2) hu') ⟨t, rfl, k2 _ _ upd_same⟩
        · have e1 : ¬ z.2 = c.1 := fun h => e (decide_eq_true (congrArg V.int h))
          rw [step_snoc, if_neg e1]
          refine ⟨_, rfl, .inl ⟨rfl, _, .inl (.inl hl2)⟩, _, rfl, _, rfl, by show 2 ≤ sizeLine; decide, fun t nt => ?_⟩
          have k1 : TK H2 (upd H2 t (.tup [.int c.1, .int c.2])) := TK.new nt
          have hl3 : (upd H2 t (.tup [.int c.1, .int c.2])) l = some (.lst (us' ++ [.ref zp])) := upd_at hl2 nt
          have k2 : TK (upd H2 t (.tup [.int c.1, .int c.2])) (upd (upd H2 t (.tup [.int c.1, .int c.2])) l (.lst (us' ++ [.ref zp] ++ [.ref t]))) := TK.lst hl3
          refine ⟨l, us' ++ [.ref zp], .ref t, rfl, rfl, hl3, smallLt (by omega), ?_⟩
          refine ⟨some (.int c.1), some (.int c.2), us' ++ [.ref zp] ++ [.ref t], rfl, same_put (fun b o e => upd_at (sm2 b o e) nt) nl, upd_same, ?_⟩
          exact Pd.snoc (hu2.keep (k1.trans k2)) ⟨t, rfl, k2 _ _ upd_same⟩
    · rintro σ H' ⟨y2, y3, us, rfl, sm, hl, hu⟩
      rw [hlen, List.take_length] at hu
      refine ⟨_, rfl, l, us, rfl, .inl ⟨.inl (.inl hl), fun t nt => ?_⟩⟩
      exact q _ t (fun b o e => upd_at (sm b o e) nt) (Same.free sm nt) ⟨us, upd_same, hu.keep (TK.new nt)⟩
def spPlainL : Sp := fun vs H Q _ => ∃ (a : Addr) (ps : List V) (cs : List Cut), vs = [.ref a] ∧ H a = some (.lst ps) ∧ Prs H ps cs ∧ cs.length ≤ 5000 ∧ ∀ H' p, Same H H' → H p = none → CutsT H' p (plainL cs) → Q (.ref p) H'
theorem ok_plainInL {f : Addr} {fd : FuncData} (F : Fun K "plain_in" "plain_in" sPlainIn f fd) (B : Blt mg) : FnOk P w K mg base CX0 1 f fd ["cuts"] spPlainL := by
  refine F.ok scPlainIn (fun vs H Q E h => ?_) (fun cdv A outer s H vs Q E hr h => ?_)
  · obtain ⟨a, ps, cs, rfl, _⟩ := h
    rfl
  · obtain ⟨a, ps, cs, rfl, ha, hp, few, q⟩ := h
    have hlen : ps.length = cs.length := Paired.length hp
    refine ⟨_, pss_cons (ps_set (i := 1) scPlainIn.nd rfl (.inl rfl) (pe_lst pa_nil))
      (pss_cons (ps_for PassesOwn.never rfl (pi_list (pv 0)) (pg_tup rfl (pgs_cons (pg_name (i := 2) scPlainIn.nd rfl (.inl rfl)) (pgs_cons (pg_name (i := 3) scPlainIn.nd rfl (.inl rfl)) pgs_nil)))
        (pss_one (ps_if (PW.pt (pw_and (pt_cmpR (op_neD hr.units) (pv 1) (pe_lst pa_nil) (nomark _))
            (pw_and1 (pt_cmpR op_eq (pe_ix ix_tup (pe_ix ix_list (pv 1) (pe_un un_neg pe_int) (fun _ _ => rfl)) pe_int (fun _ _ => rfl)) (pv 2) (nomark _)))))
          (pss_one (ps_asg (pe_tup (pa_cons (pe_ix ix_tup (pe_ix ix_list (pv 1) (pe_un un_neg pe_int) (fun _ _ => rfl)) pe_int (fun _ _ => rfl)) (pa_cons (pv 3) pa_nil))) (pg_sub (pv 1) (pe_un un_neg pe_int) set_list)))
          (pss_one (ps_expr (pe_bm PySem.F.plainAttrs_list PySem.F.slot_list_append PySem.F.type_list_append mt_append (pv 1) (pa_cons (pe_tup (pa_cons (pv 2) (pa_cons (pv 3) pa_nil))) pa_nil)))))))
      (pss_one (ps_ret (pe_callTy call_tuple_of (by rfl) B.tuple (by decide +kernel) (pa_cons (pv 1) pa_nil))))), ?_⟩
    refine ⟨Nat.zero_le _, fun l nl => ?_⟩
    refine ⟨_, rfl, a, rfl, ⟨ps, .inl (.inl (upd_at ha nl))⟩, for_list (xs := ps) (fun i σ H' => ∃ y2 y3 us, σ = [some (.ref a), some (.ref l), y2, y3] ∧ Same H H' ∧ H' l = some (.lst us) ∧ Prs H' us (plainL (cs.take i)))
      ⟨none, none, [], rfl, same_new nl, upd_same, .nil⟩ (fun i σ H' _ ⟨_, _, _, _, sm, _⟩ => .inl (.inl (sm _ _ ha))) ?_ ?_⟩
    · rintro i x σ H1 hx ⟨y2, y3, us, rfl, sm, hl, hu⟩
      obtain ⟨c, hc, p, rfl, hpp⟩ := Pd.getL hp hx
      have hul : us.length = (plainL (cs.take i)).length := Paired.length hu
      have hpl := plainL_len (cs.take i)
      rw [List.length_take] at hpl
      have goal1 : plainL (cs.take (i + 1)) = plainStep (plainL (cs.take i)) c := by rw [take_snoc hc, plainL_snoc]
      rw [goal1]
      generalize plainL (cs.take i) = acc at hu hul hpl ⊢
      refine ⟨p, _, rfl, .inl (.inl (sm _ _ hpp)), rfl, _, _, rfl, _, _, rfl, rfl, ?_⟩
      refine ⟨_, rfl, Nat.zero_le _, fun o no => ?_⟩
      have sm2 : Same H (upd H1 o (.lst [])) := fun b z e => upd_at (sm b z e) no
      have hl2 : (upd H1 o (.lst [])) l = some (.lst us) := upd_at hl no
      have hu2 : Prs (upd H1 o (.lst [])) us acc := hu.keep (TK.new no)
      refine ⟨.list (acc.map dP), .list [], .lst (.inl (.inl hl2)) (dp_prs hu2), .lst (.inl (.inl upd_same)) .nil, sh_list _, sh_nilL, _, rfl, ?_⟩
      rw [neNil_pairs]
      generalize upd H1 o (.lst []) = H2 at sm2 hl2 hu2 ⊢
      rcases list_cases acc with rfl | ⟨r, z, rfl⟩
      · refine ite0 (decide_eq_false (fun e => e rfl)) (iteF ?_)
        refine ⟨_, rfl, .inl ⟨rfl, _, .inl (.inl hl2)⟩, _, rfl, _, rfl, by show 2 ≤ sizeLine; decide, fun t nt => ?_⟩
        have k1 : TK H2 (upd H2 t (.tup [.int c.1, .int c.2])) := TK.new nt
        have hl3 : (upd H2 t (.tup [.int c.1, .int c.2])) l = some (.lst (us)) := upd_at hl2 nt
        have k2 : TK (upd H2 t (.tup [.int c.1, .int c.2])) (upd (upd H2 t (.tup [.int c.1, .int c.2])) l (.lst (us ++ [.ref t]))) := TK.lst hl3
        refine ⟨l, us, .ref t, rfl, rfl, hl3, smallLt (by omega), ?_⟩
        refine ⟨some (.int c.1), some (.int c.2), us ++ [.ref t], rfl, same_put (fun b o e => upd_at (sm2 b o e) nt) nl, upd_same, ?_⟩
        exact Pd.snoc (hu2.keep (k1.trans k2)) ⟨t, rfl, k2 _ _ upd_same⟩
      · obtain ⟨us', v, rfl, hu', zp, rfl, hz⟩ := Pd.last hu2
        refine ite1 (decide_eq_true (fun e => by cases r <;> cases e)) ?_
        refine ⟨_, rfl, 1, rfl, l, _, -1, .ref zp, rfl, rfl, .inl (.inl hl2), atI_last us' (.ref zp), zp, _, 1, .int z.2, rfl, rfl, .inl (.inl hz), rfl, _, rfl, rfl, _, rfl, ite2 (fun e => ?_) (fun e => ?_)⟩
        · have e1 : z.2 = c.1 := V.int.inj (of_decide_eq_true e)
          rw [step_snoc, if_pos e1]
          refine ⟨_, rfl, 1, rfl, l, _, -1, .ref zp, rfl, rfl, .inl (.inl hl2), atI_last us' (.ref zp), zp, _, 0, .int z.1, rfl, rfl, .inl (.inl hz), rfl, _, rfl, by show 2 ≤ sizeLine; decide, fun t nt => ?_⟩
          have k1 : TK H2 (upd H2 t (.tup [.int z.1, .int c.2])) := TK.new nt
          have hl3 : (upd H2 t (.tup [.int z.1, .int c.2])) l = some (.lst (us' ++ [.ref zp])) := upd_at hl2 nt
          have k2 : TK (upd H2 t (.tup [.int z.1, .int c.2])) (upd (upd H2 t (.tup [.int z.1, .int c.2])) l (.lst (us' ++ [.ref t]))) := TK.lst hl3
          have ixl : ixN (us' ++ [V.ref zp]).length (-1) = some us'.length := by
            rw [List.length_append]
            exact ix_neg1 us'.length
          refine ⟨_, rfl, 1, rfl, l, _, -1, us'.length, rfl, rfl, hl3, ixl, ?_⟩
          rw [set_last]
          refine ⟨some (.int c.1), some (.int c.2), us' ++ [.ref t], rfl, same_put (fun b o e => upd_at (sm2 b o e) nt) nl, upd_same, ?_⟩
          exact Pd.snoc (Prs.keep (k1.trans k2) hu') ⟨t, rfl, k2 _ _ upd_same⟩
        · have e1 : ¬ z.2 = c.1 := fun h => e (decide_eq_true (congrArg V.int h))
          rw [step_snoc, if_neg e1]
          refine ⟨_, rfl, .inl ⟨rfl, _, .inl (.inl hl2)⟩, _, rfl, _, rfl, by show 2 ≤ sizeLine; decide, fun t nt => ?_⟩
          have k1 : TK H2 (upd H2 t (.tup [.int c.1, .int c.2])) := TK.new nt
          have hl3 : (upd H2 t (.tup [.int c.1, .int c.2])) l = some (.lst (us' ++ [.ref zp])) := upd_at hl2 nt
          have k2 : TK (upd H2 t (.tup [.int c.1, .int c.2])) (upd (upd H2 t (.tup [.int c.1, .int c.2])) l (.lst (us' ++ [.ref zp] ++ [.ref t]))) := TK.lst hl3
          refine ⟨l, us' ++ [.ref zp], .ref t, rfl, rfl, hl3, smallLt (by omega), ?_⟩
          refine ⟨some (.int c.1), some (.int c.2), us' ++ [.ref zp] ++ [.ref t], rfl, same_put (fun b o e => upd_at (sm2 b o e) nt) nl, upd_same, ?_⟩
          exact Pd.snoc (hu2.keep (k1.trans k2)) ⟨t, rfl, k2 _ _ upd_same⟩
    · rintro σ H' ⟨y2, y3, us, rfl, sm, hl, hu⟩
      rw [hlen, List.take_length] at hu
      refine ⟨_, rfl, l, us, rfl, .inl ⟨.inl (.inl hl), fun t nt => ?_⟩⟩
      exact q _ t (fun b o e => upd_at (sm b o e) nt) (Same.free sm nt) ⟨us, upd_same, hu.keep (TK.new nt)⟩
def spPlainOf : Sp := fun vs H Q _ => ∃ (a : Addr) (cs : List Cut), vs = [.ref a] ∧ CutsT H a cs ∧ Good cs ∧ ∀ H' p, Same H H' → H p = none → CutsT H' p (plainL cs) → Q (.ref p) H'
theorem ok_plain {f fI : Addr} {fd fdI : FuncData} (F : Fun K "plain" "plain" sPlain f fd) (T : TxC K mg fW fS fC fN fF fdW fdS fdC fdN fdF) (DI : Df K mg "plain_in" sPlainIn ["cuts"] fI fdI) : FnOk P w K mg base CX0 5 f fd ["cuts"] spPlainOf := by
  have GN : FnOk P w K mg base CX0 4 fN fdN ["thing"] spNeedCuts := T.needCuts
  have GI : FnOk P w K mg base CX0 1 fI fdI ["cuts"] spPlainT := ok_plainInT DI.fn T.B
  refine F.ok scPlain (fun vs H Q E h => ?_) (fun cdv A outer s H vs Q E hr h => ?_)
  · obtain ⟨a, cs, rfl, _⟩ := h
    rfl
  · obtain ⟨a, cs, rfl, hc, g, q⟩ := h
    refine ⟨_, pss_one (ps_ret (pe_df DI GI (hr.mono (by decide)) pass0 (pa_cons (pe_df T.N GN hr pass0 (pa_cons (pv 0) pa_nil)) pa_nil))), ?_⟩
    refine ⟨_, rfl, a, cs, rfl, hc, g, fun H1 sm1 => ?_⟩
    obtain ⟨ps, ha, hp⟩ := hc.keep (TK.of sm1)
    have few := g.few
    exact ⟨a, ps, cs, rfl, ha, hp, by omega, fun H2 p sm2 np h2 => q H2 p (sm1.trans sm2) (Same.free sm1 np) h2⟩
def spAlike : Sp := fun vs H Q _ => ∃ (a b : Addr) (cs ds : List Cut), vs = [.ref a, .ref b] ∧ CutsT H a cs ∧ Good cs ∧ CutsT H b ds ∧ Good ds ∧ ∀ H', Same H H' → Q (.bl (decide (plainL cs = plainL ds))) H'
theorem ok_alike {f fI : Addr} {fd fdI : FuncData} (F : Fun K "alike_cuts" "alike_cuts" sAlike f fd) (T : TxC K mg fW fS fC fN fF fdW fdS fdC fdN fdF) (DI : Df K mg "plain_in" sPlainIn ["cuts"] fI fdI) : FnOk P w K mg base CX0 5 f fd ["one", "other"] spAlike := by
  have GN : FnOk P w K mg base CX0 4 fN fdN ["thing"] spNeedCuts := T.needCuts
  have GI : FnOk P w K mg base CX0 1 fI fdI ["cuts"] spPlainT := ok_plainInT DI.fn T.B
  refine F.ok scAlike (fun vs H Q E h => ?_) (fun cdv A outer s H vs Q E hr h => ?_)
  · obtain ⟨a, b, cs, ds, rfl, _⟩ := h
    rfl
  · obtain ⟨a, b, cs, ds, rfl, hc, g, hd, gd, q⟩ := h
    refine ⟨_, pss_cons (ps_expr (pe_df T.N GN hr pass0 (pa_cons (pv 0) pa_nil)))
      (pss_cons (ps_expr (pe_df T.N GN hr pass0 (pa_cons (pv 1) pa_nil)))
      (pss_one (ps_ret (pe_cmpR (op_eqD hr.units) (pe_df DI GI (hr.mono (by decide)) pass0 (pa_cons (pv 0) pa_nil)) (pe_df DI GI (hr.mono (by decide)) pass0 (pa_cons (pv 1) pa_nil)) (nomark _))))), ?_⟩
    refine ⟨_, rfl, a, cs, rfl, hc, g, fun H1 sm1 => ?_⟩
    refine ⟨_, rfl, b, ds, rfl, hd.keep (TK.of sm1), gd, fun H2 sm2 => ?_⟩
    have s02 := sm1.trans sm2
    obtain ⟨ps, ha, hp⟩ := hc.keep (TK.of s02)
    have few := g.few
    have fewd := gd.few
    refine ⟨_, rfl, a, ps, cs, rfl, ha, hp, by omega, fun H3 p sm3 np h3 => ?_⟩
    have s03 := s02.trans sm3
    obtain ⟨qs, hb, hq⟩ := hd.keep (TK.of s03)
    refine ⟨_, rfl, b, qs, ds, rfl, hb, hq, by omega, fun H4 p2 sm4 np2 h4 => ?_⟩
    obtain ⟨us, hu1, hu2⟩ := h3.keep (TK.of sm4)
    obtain ⟨ws, hw1, hw2⟩ := h4
    refine ⟨.tuple ((plainL cs).map dP), .tuple ((plainL ds).map dP), .tup (.inl (.inl hu1)) (dp_prs hu2), .tup (.inl (.inl hw1)) (dp_prs hw2), sh_tup _, sh_tup _, ?_⟩
    exact bt (eqv_pairs _ _) (q H4 (s03.trans sm4))
end
end Cap

set_option Elab.async false
set_option linter.all false
set_option maxRecDepth 100000
set_option maxHeartbeats 4000000
/-! sets of ints: merging one into another -/
namespace CapS
open PySem PySem.Spec PyProof.Rows L2
/-! ### tables of the sizes that merging makes -/
def MaskG (m : Nat) : Prop := m = 7 ∨ m = 15 ∨ m = 31 ∨ m = 63 ∨ m = 127
def met (m : Nat) : Bool := ((List.range (m + 1)).all fun j => (List.range (m + 1)).any fun b => lcgN m b == j) && lcgN m (m + 1) == 0
theorem met15 : met 15 = true := by decide +kernel
theorem met63 : met 63 = true := by decide +kernel
theorem cover_of {m : Nat} (h : met m = true) {i j : Nat} (hi : i ≤ m) (hj : j ≤ m) : ∃ k, k ≤ m ∧ lcgI m i k = j := by
  obtain ⟨h1, h2⟩ := Bool.and_eq_true_iff.mp h
  have z : lcgN m (m + 1) = 0 := beq_iff_eq.mp h2
  have one : ∀ x, x ≤ m → ∃ b, b ≤ m ∧ lcgN m b = x := fun x hx => by
    obtain ⟨b, hb, e⟩ := List.any_eq_true.mp (List.all_eq_true.mp h1 x (List.mem_range.mpr (Nat.lt_succ_of_le hx)))
    exact ⟨b, Nat.le_of_lt_succ (List.mem_range.mp hb), beq_iff_eq.mp e⟩
  have round : ∀ k, lcgN m (m + 1 + k) = lcgN m k := by
    intro k
    induction k with
    | zero => exact z
    | succ k ih =>
      show (lcgN m (m + 1 + k) * 5 + 1) % (m + 1) = (lcgN m k * 5 + 1) % (m + 1)
      rw [ih]
  obtain ⟨a, ha, rfl⟩ := one i hi
  obtain ⟨b, hb, rfl⟩ := one j hj
  by_cases c : a ≤ b
  · refine ⟨b - a, by omega, ?_⟩
    rw [lcgN_add, show a + (b - a) = b by omega]
  · refine ⟨m + 1 + b - a, by omega, ?_⟩
    rw [lcgN_add, show a + (m + 1 + b - a) = m + 1 + b by omega, round]
theorem cover {m : Nat} (hm : MaskG m) {i j : Nat} (hi : i ≤ m) (hj : j ≤ m) : ∃ k, k ≤ m ∧ lcgI m i k = j := by
  rcases hm with rfl | rfl | rfl | rfl | rfl
  · exact lcgI_all (.inl rfl) hi hj
  · exact cover_of met15 hi hj
  · exact lcgI_all (.inr (.inl rfl)) hi hj
  · exact cover_of met63 hi hj
  · exact lcgI_all (.inr (.inr rfl)) hi hj
/-- a free slot is found -/
theorem finds {m : Nat} (hm : MaskG m) (owner : Array (Option Nat)) (h : Int) {j : Nat} (hj : j ≤ m) (hf : oAt owner j = none) :
    ∃ j', SetTable.layClean.free m owner (SetTable.turns m) (SetTable.bits h % (m + 1)) (SetTable.bits h) = some j' ∧ oAt owner j' = none := by
  obtain ⟨n, hn, e⟩ : ∃ n, n ≤ m + 12 ∧ runI m (SetTable.bits h) n = j := by
    obtain ⟨k, hk, e⟩ := cover hm (runI_le m (SetTable.bits h) 12) hj
    refine ⟨12 + k, by omega, ?_⟩
    rw [runI_tail (bits_lt h)]
    exact e
  have hw : way m h (off m (SetTable.bits h % (m + 1)) (SetTable.bits h) n) = j := by
    show (nth m (runAt m (SetTable.bits h % (m + 1)) (SetTable.bits h)) (off m (SetTable.bits h % (m + 1)) (SetTable.bits h) n)).j = j
    rw [nth_off, itL_run]
    exact e
  obtain ⟨K, k1, k2, k3⟩ := st_least (p := fun k => oAt owner (way m h k) = none) (off m (SetTable.bits h % (m + 1)) (SetTable.bits h) n) (by
    show oAt owner (way m h (off m (SetTable.bits h % (m + 1)) (SetTable.bits h) n)) = none
    rw [hw]
    exact hf)
  refine ⟨way m h K, free_spec m owner (SetTable.turns m) n _ _ K (by unfold SetTable.turns; omega) k1 (fun k hk => ?_) ?_, k2⟩
  · have q := k3 k hk
    cases z : oAt owner (nth m (runAt m (SetTable.bits h % (m + 1)) (SetTable.bits h)) k).j with
    | none => exact absurd z q
    | some _ => rfl
  · have q : oAt owner (nth m (runAt m (SetTable.bits h % (m + 1)) (SetTable.bits h)) K).j = none := k2
    rw [q]
    rfl
/-- n owners sit, each once at least -/
structure Sat (m n : Nat) (owner : Array (Option Nat)) : Prop where
  sz : owner.size = m + 1
  all : ∀ k, k < n → ∃ j, j ≤ m ∧ oAt owner j = some k
  few : ∃ ps : List Nat, ps.length = n ∧ ∀ j, j ≤ m → oAt owner j ≠ none → j ∈ ps
theorem Sat.init (m : Nat) : Sat m 0 (Array.replicate (m + 1) none) :=
  ⟨by simp, fun k hk => absurd hk (Nat.not_lt_zero _), [], rfl, fun j hj e => absurd (oAt_init hj) e⟩
theorem Sat.step {m n : Nat} (hm : MaskG m) {owner : Array (Option Nat)} (W : Sat m n owner) (hl : n ≤ m) (h : Int) :
    ∃ j, SetTable.layClean.free m owner (SetTable.turns m) (SetTable.bits h % (m + 1)) (SetTable.bits h) = some j ∧ Sat m (n + 1) (owner.setIfInBounds j (some n)) := by
  obtain ⟨ps, hps, hin⟩ := W.few
  obtain ⟨j0, h0, hn0⟩ := st_missing ps (m + 1) (by omega)
  have hj0 : oAt owner j0 = none := by
    cases z : oAt owner j0 with
    | none => rfl
    | some k => exact absurd (hin j0 (Nat.le_of_lt_succ h0) (by rw [z]; exact fun e => nomatch e)) hn0
  obtain ⟨j, e1, e2⟩ := finds hm owner h (Nat.le_of_lt_succ h0) hj0
  have hjs : j < owner.size := by
    rcases Nat.lt_or_ge j owner.size with c | c
    · exact c
    · have z : owner.getD j (some 0) = none := e2
      rw [Array.getD_eq_getD_getElem?, Array.getElem?_eq_none c] at z
      cases z
  have hjm : j ≤ m := by
    rw [W.sz] at hjs
    exact Nat.le_of_lt_succ hjs
  have self := oAt_set_self (some n) hjs
  refine ⟨j, e1, by rw [Array.size_setIfInBounds]; exact W.sz, fun k hk => ?_, j :: ps, by rw [List.length_cons, hps], fun x hx e => ?_⟩
  · by_cases c : k < n
    · obtain ⟨x, hx, ex⟩ := W.all k c
      refine ⟨x, hx, ?_⟩
      rw [oAt_set_ne _ (fun z => by rw [z, e2] at ex; cases ex)]
      exact ex
    · have ek : k = n := by omega
      rw [ek]
      exact ⟨j, hjm, self⟩
  · by_cases c : x = j
    · rw [c]
      exact List.mem_cons_self
    · rw [oAt_set_ne _ c] at e
      exact List.mem_cons_of_mem _ (hin x hx e)
theorem sat_fold {m : Nat} (hm : MaskG m) : ∀ (rest : List Int) (n : Nat) (owner : Array (Option Nat)), Sat m n owner → n + rest.length ≤ m →
    ∃ owner', rest.foldl (stepF m) (some (owner, n)) = some (owner', n + rest.length) ∧ Sat m (n + rest.length) owner'
  | [], n, owner, W, _ => ⟨owner, rfl, W⟩
  | h :: rest, n, owner, W, hl => by
    rw [List.length_cons] at hl
    obtain ⟨j, e, W'⟩ := W.step hm (by omega) h
    obtain ⟨owner', f, W2⟩ := sat_fold hm rest (n + 1) _ W' (by omega)
    have ea : n + 1 + rest.length = n + (h :: rest).length := by rw [List.length_cons]; omega
    rw [ea] at f W2
    refine ⟨owner', ?_, W2⟩
    rw [List.foldl_cons, stepF_some e]
    exact f
theorem sat_clean {m : Nat} (hm : MaskG m) {hs : Array Int} (hn : hs.size ≤ m) : ∃ owner, SetTable.layClean m hs = some owner ∧ Sat m hs.size owner := by
  have hz : hs.toList.length = hs.size := rfl
  obtain ⟨owner, f, W⟩ := sat_fold hm hs.toList 0 _ (Sat.init m) (by omega)
  rw [Nat.zero_add, hz] at f W
  refine ⟨owner, ?_, W⟩
  rw [layClean_eq, f]
  rfl
/-- a table laid anew -/
structure Laid (t : SetTable) (n m : Nat) (led plain : Bool) : Prop where
  ris : Ris t.place.toList
  sz : t.place.size = n
  mask : t.mask = m
  led : t.led = led
  plain : t.plain = plain
  dum : t.dummies = #[]
theorem Laid.fits {t : SetTable} {n m : Nat} {led plain : Bool} (L : Laid t n m led plain) (h : n ≤ m) : t.fits n = true := by
  unfold SetTable.fits SetTable.fill
  rw [L.sz, L.dum, L.mask]
  simp [h]
theorem laid_ok {m : Nat} (hm : MaskG m) (finger moves : Nat) (led plain : Bool) {hs : Array Int} (hn : hs.size ≤ m) :
    ∃ t order, SetTable.laid m finger moves led plain hs = some (t, order) ∧ order.toList.Perm (List.range hs.size) ∧ Laid t hs.size m led plain := by
  obtain ⟨owner, e, W⟩ := sat_clean hm hn
  have ris := ris_live (fun j => owner.getD j none) (List.range (m + 1)) (by
    unfold Ris
    first | exact List.pairwise_lt_range | exact List.pairwise_lt_range _)
  have r1 : Ris ((liveOf m owner).map (·.1)) := ris.1
  have nd : ((liveOf m owner).map (·.1)).Nodup := List.Pairwise.imp (fun h => Nat.ne_of_lt h) r1
  have hlen : (liveOf m owner).length = hs.size := by
    obtain ⟨ps, p1, p2⟩ := W.few
    have a := nat_nodup_len ((liveOf m owner).map (·.1)) ps nd fun x hx => by
      obtain ⟨⟨y, k⟩, hq, rfl⟩ := List.mem_map.mp hx
      obtain ⟨b1, b2⟩ := (mem_live W.sz).1 hq
      exact p2 y b1 (by rw [b2]; exact fun z => nomatch z)
    have b := nat_nodup_len (List.range hs.size) ((liveOf m owner).map (·.2)) List.nodup_range fun k hk => by
      obtain ⟨j, b1, b2⟩ := W.all k (List.mem_range.mp hk)
      exact List.mem_map.mpr ⟨(j, k), (mem_live W.sz).2 ⟨b1, b2⟩, rfl⟩
    rw [List.length_map, p1] at a
    rw [List.length_map, List.length_range] at b
    omega
  refine ⟨{ mask := m, place := ((liveOf m owner).map (·.1)).toArray, dummies := #[], finger, led, moves, plain }, ((liveOf m owner).map (·.2)).toArray, ?_, ?_, r1, ?_, rfl, rfl, rfl, rfl⟩
  · unfold SetTable.laid
    rw [e]
    rfl
  · refine perm_range hs.size _ ?_ fun k hk => ?_
    · show ((liveOf m owner).map (·.2)).length = hs.size
      rw [List.length_map, hlen]
    · obtain ⟨j, b1, b2⟩ := W.all k hk
      exact List.mem_map.mpr ⟨(j, k), (mem_live W.sz).2 ⟨b1, b2⟩, rfl⟩
  · show ((liveOf m owner).map (·.1)).toArray.size = hs.size
    rw [List.size_toArray, List.length_map, hlen]
/-- the entries by a new order -/
theorem ordered {es : Array (Int × Value)} {order : Array Nat} (h : order.toList.Perm (List.range es.size)) : (order.filterMap (es[·]?)).toList.Perm es.toList := by
  have h1 : ((List.range es.size).filterMap (es[·]?)) = es.toList := by
    apply List.ext_getElem?
    intro i
    have e : ∀ (l : List Nat), (∀ x ∈ l, x < es.size) → l.filterMap (es[·]?) = l.map (fun x => es.getD x default) := by
      intro l hl
      induction l with
      | nil => rfl
      | cons x r ih =>
        have hx := hl x List.mem_cons_self
        rw [List.filterMap_cons_some (b := es[x]) (by simp [hx]), ih fun y hy => hl y (List.mem_cons_of_mem _ hy), List.map_cons]
        congr 1
        simp [hx]
    rw [e _ fun x hx => List.mem_range.mp hx, List.getElem?_map]
    by_cases c : i < es.size
    · simp [c]
    · simp [c]
  have h2 := h.filterMap (es[·]?)
  rw [h1] at h2
  rw [Array.toList_filterMap]
  exact h2
/-- what a table's size becomes when room is made for twice so many -/
theorem roomMask : ∀ n, n < 40 → (SetTable.sizeAbove (n * 2) - 1 = 7 ∨ SetTable.sizeAbove (n * 2) - 1 = 15 ∨ SetTable.sizeAbove (n * 2) - 1 = 31 ∨ SetTable.sizeAbove (n * 2) - 1 = 63 ∨ SetTable.sizeAbove (n * 2) - 1 = 127) ∧ n ≤ SetTable.sizeAbove (n * 2) - 1 ∧ SetTable.sizeAbove (n * 2) ≤ 128 := by
  decide +kernel
end CapS

set_option Elab.async false
set_option linter.all false
set_option maxRecDepth 100000
set_option maxHeartbeats 4000000
namespace CapS
open PySem PySem.Spec PyProof.Rows L2 SetTable
section
variable {P : Program} {w : World} {A : Around} {E : Value → Shared → Prop} {s : Shared}
/-- setRelay lays all anew -/
theorem relay_ok {a : Addr} {o : Obj} {es : Array (Int × Value)} {ep : Nat} {t : SetTable} {wanted : Nat} {Q : Unit → Shared → Prop}
    (ho : s.heap.get? a = some o) (hd : o.data = .set es ep t) (hf : t.fits es.size = true) (hm : MaskG (sizeAbove wanted - 1)) (hw : sizeAbove wanted ≤ 128) (hn : es.size ≤ sizeAbove wanted - 1)
    (h : ∀ es' t', es'.toList.Perm es.toList → Laid t' es.size (sizeAbove wanted - 1) t.led t.plain → Q () { s with heap := s.heap.update a (Obj.putSet es' t') }) :
    wpAny (model P w) A (setRelay a wanted) Q E s := by
  rw [setRelay_eq]
  refine wpAny_bind (wpAny_setState_of ho hd hf ?_)
  dsimp only
  have hsz : ¬ (sizeAbove wanted > sizeLine) := by rw [sizeLine_eq]; omega
  rw [if_neg hsz]
  obtain ⟨t', order, e, pm, L⟩ := laid_ok hm t.finger (t.movedTo (sizeAbove wanted - 1)) t.led t.plain (hs := es.map (·.1)) (by rw [Array.size_map]; exact hn)
  rw [Array.size_map] at pm L
  have e' : t.relaid (es.map (·.1)) wanted = some (t', order) := e
  have pe := ordered (es := es) pm
  have hsz' : (order.filterMap (es[·]?)).size = es.size := by rw [← Array.length_toList, pe.length_eq, Array.length_toList]
  rw [e']
  refine wpAny_bind ?_
  dsimp only
  rw [if_neg (by rw [hsz']; simp)]
  refine wpAny_pure ?_
  refine wpAny_storeSet_of ho hd (h _ _ pe L) ?_
  rw [hsz', sizeLine_eq]
  omega
/-- setRoomFor -/
theorem room_ok {a : Addr} {o : Obj} {es : Array (Int × Value)} {ep more : Nat} {t : SetTable} {Q : Unit → Shared → Prop}
    (ho : s.heap.get? a = some o) (hx : o.ExactSet) (hd : o.data = .set es ep t) (hf : t.fits es.size = true) (hr : Ris t.place.toList) (hk : es.size + more < 40)
    (h : ∀ h' o' es' ep' t', Heap.SameBut a s.heap h' → h'.get? a = some o' → o'.ExactSet → o'.data = .set es' ep' t' → es'.toList.Perm es.toList → t'.fits es'.size = true → Ris t'.place.toList → t'.led = t.led →
      ((t' = t ∧ (t.fill + more) * 5 < t.mask * 3) ∨ (t'.mask = sizeAbove ((es.size + more) * 2) - 1 ∧ t'.dummies = #[])) → Q () { s with heap := h' }) :
    wpAny (model P w) A (setRoomFor a more) Q E s := by
  unfold setRoomFor
  refine wpAny_bind (wpAny_setState_of ho hd hf ?_)
  dsimp only
  have hp : t.place.size = es.size := by
    simp only [SetTable.fits, Bool.and_eq_true, beq_iff_eq, decide_eq_true_eq] at hf
    exact hf.1
  unfold SetTable.roomFor
  by_cases c : (t.fill + more) * 5 ≥ t.mask * 3
  · rw [if_pos c]
    dsimp only
    obtain ⟨g1, g2, g3⟩ := roomMask (es.size + more) hk
    rw [hp]
    refine relay_ok ho hd hf g1 g3 (by omega) fun es' t' pm L => ?_
    have hz : es'.size = es.size := by rw [← Array.length_toList, pm.length_eq, Array.length_toList]
    refine h _ _ es' _ t' (Heap.SameBut.update _ _ _) (store_at ho hd) hx rfl pm (by rw [hz]; exact L.fits (by omega)) L.ris L.led (.inr ⟨L.mask, L.dum⟩)
  · rw [if_neg c]
    exact wpAny_pure (h _ o es ep t (Heap.SameBut.refl _ _) ho hx hd (List.Perm.refl _) hf hr rfl (.inl ⟨rfl, by omega⟩))
/-- one set's elements into a new one -/
theorem merge_new {r o : Addr} {each : Sem Unit} {S : Int → Bool} {n : Nat} {Q : Unit → Shared → Prop} (hne : r ≠ o)
    (hr : s.heap.get? r = some { cls := .type "set", dict := none, data := .set #[] 0 (.fresh 0 0 (!w.params.followText "set-order")) }) (R : SetR w s.heap o S n) (hn : n < 40)
    (h : ∀ h', Heap.SameBut r s.heap h' → SetR w h' r S n → (n = 0 → h' = s.heap) → Q () { s with heap := h' }) :
    wpAny (model P w) A (setMerge r o each) Q E s := by
  obtain ⟨oo, eo, epo, to, hoo, hex, hdo, g, nd, hm, hb, hfo, hsz, hro, hlo⟩ := R
  have hff : (SetTable.fresh 0 0 (!w.params.followText "set-order")).fits (#[] : Array (Int × Value)).size = true := rfl
  have hled : w.params.followText "set-order" = true ∨ (!w.params.followText "set-order") = true := by
    cases w.params.followText "set-order"
    · exact .inr rfl
    · exact .inl rfl
  unfold setMerge
  rw [if_neg (by rw [beq_iff_eq]; exact hne)]
  simp only [pure_bind]
  refine wpAny_bind (wpAny_setState_of hoo hdo hfo ?_)
  dsimp only
  by_cases c0 : eo.isEmpty = true
  · rw [if_pos c0]
    refine wpAny_pure ?_
    have z : eo = #[] := by simpa using c0
    subst z
    refine h s.heap (Heap.SameBut.refl _ _) ⟨_, #[], 0, _, hr, ⟨rfl, rfl, rfl⟩, rfl, by simp, by simp, fun k => ?_, by decide, hff, ?_, List.Pairwise.nil, hled⟩ fun _ => rfl
    · rw [hm k]
    · exact hsz
  rw [if_neg c0]
  have hpos : eo.size ≠ 0 := fun z => c0 (by simpa [Array.isEmpty] using z)
  refine wpAny_bind (room_ok hr ⟨rfl, rfl, rfl⟩ rfl hff List.Pairwise.nil (by rw [hsz]; exact Nat.lt_of_le_of_lt (Nat.le_of_eq (Nat.zero_add n)) hn) fun h1 o1 e1 ep1 t1 sb ho1 hx1 hd1 pm hf1 hr1 hl1 alt => ?_)
  have z1 : e1.size = 0 := by rw [← Array.length_toList, pm.length_eq] <;> rfl
  have hfill : t1.fill = 0 ∧ MaskG t1.mask ∧ eo.size ≤ t1.mask := by
    rcases alt with ⟨rfl, lt⟩ | ⟨em, ed⟩
    · refine ⟨rfl, .inl rfl, ?_⟩
      have lt' : (0 + eo.size) * 5 < 7 * 3 := lt
      show eo.size ≤ 7
      omega
    · obtain ⟨g1, g2, g3⟩ := roomMask ((#[] : Array (Int × Value)).size + eo.size) (by rw [hsz]; exact Nat.lt_of_le_of_lt (Nat.le_of_eq (Nat.zero_add n)) hn)
      refine ⟨?_, by rw [em]; exact g1, by rw [em]; exact Nat.le_trans (Nat.le_of_eq (Nat.zero_add _).symm) g2⟩
      have hf1' := hf1
      simp only [SetTable.fits, Bool.and_eq_true, beq_iff_eq, decide_eq_true_eq] at hf1'
      unfold SetTable.fill
      rw [hf1'.1, z1, ed] <;> rfl
  obtain ⟨f0, fm, fle⟩ := hfill
  refine wpAny_bind (wpAny_setState_of ho1 hd1 hf1 ?_)
  dsimp only
  have hll : ∀ b : Bool, (w.params.followText "set-order" = true ∨ b = true) → (w.params.followText "set-order" = true ∨ (t1.led && b) = true) := fun b hb => by
    rw [hl1]
    rcases hb with q | q
    · exact .inl q
    · rcases hled with q2 | q2
      · exact .inl q2
      · exact .inr (by show (!w.params.followText "set-order" && b) = true; rw [q2, q] <;> rfl)
  unfold SetTable.road
  rw [if_neg (by rw [f0]; decide)]
  by_cases c1 : (t1.mask == to.mask && to.dummies.isEmpty) = true
  · rw [if_pos c1]
    dsimp only
    refine wpAny_storeSet_of (s := { s with heap := h1 }) ho1 hd1 (h _ (sb.trans (Heap.SameBut.update _ _ _)) ⟨_, eo, _, _, store_at ho1 hd1, hx1, rfl, g, nd, hm, hb, ?_, hsz, hro, hll _ hlo⟩ fun z => absurd (hsz.trans z) hpos) (fits_of_scanBound hb)
    exact hfo
  · rw [if_neg c1]
    dsimp only
    obtain ⟨t2, order, e2, pm2, L⟩ := laid_ok fm t1.finger t1.moves (t1.led && to.led) (t1.plain && to.plain) (hs := eo.map (·.1)) (by rw [Array.size_map]; exact fle)
    rw [Array.size_map] at pm2 L
    have pe := ordered (es := eo) pm2
    have hsz' : (order.filterMap (eo[·]?)).size = eo.size := by rw [← Array.length_toList, pe.length_eq, Array.length_toList]
    rw [e2]
    refine wpAny_bind ?_
    show wpAny _ _ (if (order.filterMap (eo[·]?)).size != eo.size then unsupported "internal:set-table-lost-an-element" else pure (order.filterMap (eo[·]?), t2)) _ _ _
    rw [if_neg (by rw [hsz']; simp)]
    refine wpAny_pure ?_
    dsimp only
    have hz3 : (order.filterMap (eo[·]?)).size < scanBound := by rw [hsz']; exact hb
    refine wpAny_storeSet_of (s := { s with heap := h1 }) ho1 hd1 (h _ (sb.trans (Heap.SameBut.update _ _ _)) ⟨_, _, _, _, store_at ho1 hd1, hx1, rfl, fun e he => g e (pe.mem_iff.mp he), (pe.map keyOf).nodup_iff.mpr nd, fun k => (hm k).trans (pe.map keyOf).mem_iff.symm, hz3, ?_, hsz'.trans hsz, L.ris, by rw [L.led]; exact hll _ hlo⟩ fun z => absurd (hsz.trans z) hpos) (fits_of_scanBound hz3)
    rw [hsz']; exact L.fits fle
end
end CapS

set_option Elab.async false
set_option linter.all false
set_option maxRecDepth 100000
set_option maxHeartbeats 4000000
namespace CapS
open PySem PySem.Spec PyProof.Rows L2 SetTable
section
variable {P : Program} {w : World} {A : Around} {E : Value → Shared → Prop} {s : Shared}
theorem quiet_loop : ∀ (l : List (Int × Value)) (b : Option Bool × Unit) (f : Int × Value → Option Bool × Unit → Sem (ForInStep (Option Bool × Unit))), (∀ e ∈ l, GoodE e) → b = (none, ()) → (∀ h k tk b, f (h, .int k tk) b = pure (.yield (none, ()))) → ∀ {Q : Option Bool × Unit → Shared → Prop}, Q (none, ()) s → wpAny (model P w) A (forIn l b f) Q E s
  | [], b, f, _, e, _, Q, h => by
    subst e
    rw [List.forIn_nil]
    exact wpAny_pure h
  | (x, v) :: l, b, f, g, e, hf, Q, h => by
    obtain ⟨k, tk, q, _⟩ := g (x, v) List.mem_cons_self
    have q' : v = .int k tk := q
    subst q'
    rw [List.forIn_cons, hf]
    refine wpAny_bind (wpAny_pure ?_)
    exact quiet_loop l _ f (fun e he => g e (List.mem_cons_of_mem _ he)) rfl hf h
theorem quiet_ok {o r : Addr} {S T : Int → Bool} {n m : Nat} {Q : Bool → Shared → Prop} (Ro : SetR w s.heap o S n) (Rr : SetR w s.heap r T m) (h : Q true s) : wpAny (model P w) A (setsQuiet [o, r]) Q E s := by
  obtain ⟨o1, e1, ep1, t1, a1, b1, c1, d1, _, _, _, f1, _⟩ := Ro
  obtain ⟨o2, e2, ep2, t2, a2, b2, c2, d2, _, _, _, f2, _⟩ := Rr
  unfold setsQuiet
  rw [List.forIn_cons]
  refine wpAny_bind (wpAny_bind (wpAny_bind (wpAny_setEntries_of a1 c1 f1 (wpAny_bind ?_))))
  rw [← Array.forIn_toList]
  refine quiet_loop _ _ _ d1 rfl (fun _ _ _ _ => rfl) (wpAny_pure ?_)
  show wpAny _ _ (forIn [r] _ _) _ _ _
  rw [List.forIn_cons]
  refine wpAny_bind (wpAny_bind (wpAny_setEntries_of a2 c2 f2 (wpAny_bind ?_)))
  rw [← Array.forIn_toList]
  refine quiet_loop _ _ _ d2 rfl (fun _ _ _ _ => rfl) (wpAny_pure ?_)
  show wpAny _ _ (forIn [] _ _) _ _ _
  rw [List.forIn_nil]
  exact wpAny_pure (wpAny_pure h)
/-- the walk of a set that's merged into another -/
theorem walk_ok {o r : Addr} {oo : Obj} {eo : Array (Int × Value)} {epo : Nat} {to : SetTable} {T : Int → Bool} {m : Nat} {Q : Array (Int × Value) → Shared → Prop} (hne : r ≠ o) (hoo : s.heap.get? o = some oo) (hex : oo.ExactSet) (hdo : oo.data = .set eo epo to)
    (g : ∀ e ∈ eo.toList, GoodE e) (hb : eo.size < scanBound) (hf : to.fits eo.size = true) (hl : w.params.followText "set-order" = true ∨ to.led = true) (hq : ∃ S n, SetR w s.heap o S n) (Rr : SetR w s.heap r T m)
    (h : ∀ es h', es.toList.Perm eo.toList → Heap.SameBut r s.heap h' → SetR w h' r T m → Q es { s with heap := h' }) : wpAny (model P w) A (setWalkUnseen o [r] (some r)) Q E s := by
  unfold setWalkUnseen setWalk
  refine wpAny_bind (wpAny_setState_of hoo hdo hf ?_)
  dsimp only
  refine wpAny_bind (wpAny_byText ?_)
  by_cases c : (w.params.followText "set-order" || to.led && to.plain || decide (eo.size ≤ 1)) = true
  · rw [if_pos c]
    refine wpAny_bind (wpAny_setState_of hoo hdo hf ?_)
    dsimp only
    refine wpAny_bind (wpAny_byText ?_)
    by_cases c1 : w.params.followText "set-order" = true
    · rw [if_pos c1]
      refine wpAny_bind (wpAny_askSetting (wpAny_pure ?_))
      exact h _ _ (pick_perm _ _) (Heap.SameBut.refl _ _) Rr
    · rw [if_neg c1]
      have c1' : w.params.followText "set-order" = false := by simpa using c1
      have hled : to.led = true := hl.resolve_left c1
      rw [c1', hled] at c
      have c2 : (to.plain || decide (eo.size ≤ 1)) = true := c
      have nd : (!to.plain && decide (eo.size > 1)) = false := by
        cases hp : to.plain with
        | true => rfl
        | false =>
          rw [hp] at c2
          have z : eo.size ≤ 1 := of_decide_eq_true c2
          show decide (eo.size > 1) = false
          exact decide_eq_false (by omega)
      refine wp_if_neg (show ¬ ((!to.plain && decide (eo.size > 1)) = true) by rw [nd]; exact Bool.false_ne_true) ?_
      refine wpAny_bind ?_
      show wpAny _ _ (if (!to.led && decide (eo.size > 1)) = true then unsupported "set:maker-not-led" else pure ()) _ _ _
      rw [if_neg (by rw [hled]; exact Bool.false_ne_true)]
      refine wpAny_pure (wpAny_pure ?_)
      exact h _ _ (List.Perm.refl _) (Heap.SameBut.refl _ _) Rr
  · rw [if_neg c]
    obtain ⟨S, n, Ro⟩ := hq
    refine wpAny_bind (quiet_ok Ro Rr ?_)
    rw [if_neg (by decide)]
    refine wpAny_bind (wpAny_rule ?_)
    obtain ⟨o2, e2, ep2, t2, a2, b2, c2, d2, nd2, m2, z2, f2, n2, r2, l2⟩ := id Rr
    refine wpAny_bind (wpAny_setState_of a2 c2 f2 ?_)
    dsimp only
    split
    · refine wpAny_bind (wpAny_storeSet_of a2 c2 (wpAny_pure ?_) (fits_of_scanBound z2))
      refine h _ _ (List.Perm.refl _) (Heap.SameBut.update _ _ _) ⟨_, e2, _, _, store_at a2 c2, b2, rfl, d2, nd2, m2, z2, f2, n2, r2, ?_⟩
      rcases hl with q | q
      · exact .inl q
      · rcases l2 with q2 | q2
        · exact .inl q2
        · exact .inr (by show (t2.led && to.led) = true; rw [q, q2] <;> rfl)
    · exact wpAny_pure (h _ _ (List.Perm.refl _) (Heap.SameBut.refl _ _) Rr)
/-- a set into one that has members -/
theorem merge_loop {o r : Addr} {oo : Obj} {eo : Array (Int × Value)} {epo : Nat} {to : SetTable} {id : String} {b0 : Unit} (f : Int × Value → Unit → Sem (ForInStep Unit))
    (hf : ∀ x v u, f (x, v) u = (do
      let _ ← holding [v] (setAddHashed r v x)
      Builtin.Frozenset.unchanged id o epo
      let z ← setState o
      if (z.2.1 != epo) = true then do
        unsupported "set.changed-during-merge"
        pure (ForInStep.yield ())
      else pure (ForInStep.yield ()))) (hne : o ≠ r) :
    ∀ (l : List (Int × Value)) (s : Shared) (T : Int → Bool) (m : Nat) (Q : Unit → Shared → Prop), (∀ e ∈ l, GoodE e) → s.heap.get? o = some oo → oo.data = .set eo epo to → to.fits eo.size = true → SetR w s.heap r T m → m + l.length < 4000 →
      (∀ h' m', Heap.SameBut r s.heap h' → m' ≤ m + l.length → SetR w h' r (fun j => T j || decide (j ∈ l.map keyOf)) m' → Q () { s with heap := h' }) → wpAny (model P w) A (forIn l b0 f) Q E s
  | [], s, T, m, Q, g, ho, hd, hfi, R, hm, h => by
    rw [List.forIn_nil]
    exact wpAny_pure (h s.heap m (Heap.SameBut.refl _ _) (Nat.le_refl _) (R.congr fun k => by simp))
  | (x, v) :: l, s, T, m, Q, g, ho, hd, hfi, R, hm, h => by
    obtain ⟨k, tk, q1, q2⟩ := g (x, v) List.mem_cons_self
    have q1' : v = .int k tk := q1
    have q2' : x = hashInt k := q2
    subst q1' q2'
    rw [List.length_cons] at hm h
    rw [List.forIn_cons, hf]
    simp only [bind_assoc]
    refine wpAny_bind (wpAny_holding (setR_add_hashed R (by unfold scanBound; omega) fun h' sb R' => ?_))
    have ho' : h'.get? o = some oo := (sb.2 o hne).trans ho
    unfold Builtin.Frozenset.unchanged
    refine wpAny_bind (wpAny_bind (wpAny_setEpoch_of (s := { s with heap := h' }) ho' hd hfi ?_))
    rw [if_neg (by simp)]
    refine wpAny_pure ?_
    refine wpAny_bind (wpAny_setState_of (s := { s with heap := h' }) ho' hd hfi ?_)
    dsimp only
    rw [if_neg (by simp)]
    refine wpAny_bind (wpAny_pure ?_)
    refine merge_loop f hf hne l { s with heap := h' } _ _ Q (fun e he => g e (List.mem_cons_of_mem _ he)) ho' hd hfi R' (by split <;> omega) fun h2 m2 sb2 le R2 => ?_
    refine h h2 m2 (sb.trans sb2) (by split at le <;> omega) (R2.congr fun j => ?_)
    show (T j || decide (j ∈ k :: l.map keyOf)) = (T j || decide (j = k) || decide (j ∈ l.map keyOf))
    rw [Bool.or_assoc]
    rw [show decide (j ∈ k :: l.map keyOf) = (decide (j = k) || decide (j ∈ l.map keyOf)) by rw [Bool.eq_iff_iff]; simp]
theorem merge_old {r o : Addr} {id : String} {S T : Int → Bool} {n m : Nat} {Q : Unit → Shared → Prop} (hne : r ≠ o) {oo : Obj} {eo : Array (Int × Value)} {epo : Nat} {to : SetTable} (hoo : s.heap.get? o = some oo) (hdo : oo.data = .set eo epo to)
    (Rr : SetR w s.heap r T m) (hm1 : 1 ≤ m) (Ro : SetR w s.heap o S n) (hk : m + n < 40)
    (h : ∀ h' m', Heap.SameBut r s.heap h' → m' ≤ m + n → SetR w h' r (fun j => T j || S j) m' → Q () { s with heap := h' }) :
    wpAny (model P w) A (setMerge r o (Builtin.Frozenset.unchanged id o epo)) Q E s := by
  have Ro' := Ro
  obtain ⟨oo', eo', epo', to', hoo', hex, hdo', g, nd, hm, hb, hfo, hsz, hro, hlo⟩ := Ro'
  obtain rfl : oo = oo' := Option.some.inj (hoo.symm.trans hoo')
  rw [hdo] at hdo'
  injection hdo' with q1 q2 q3
  subst q1 q2 q3
  unfold setMerge
  rw [if_neg (by rw [beq_iff_eq]; exact hne)]
  refine wpAny_bind (wpAny_setState_of hoo hdo hfo ?_)
  dsimp only
  by_cases c0 : eo.isEmpty = true
  · rw [if_pos c0]
    have z : eo = #[] := by simpa using c0
    subst z
    refine wpAny_pure (h s.heap m (Heap.SameBut.refl _ _) (Nat.le_add_right _ _) (Rr.congr fun k => ?_))
    have : S k = false := by
      cases q : S k with
      | false => rfl
      | true => exact absurd ((hm k).1 q) (by simp)
    rw [this, Bool.or_false]
  rw [if_neg c0]
  have Rr' := Rr
  obtain ⟨ro, re, rep, rt, hro', rx, rd, rg, rnd, rm, rb, rf, rn, rr, rl⟩ := Rr'
  refine wpAny_bind (room_ok hro' rx rd rf rr (by rw [hsz, rn]; exact hk) fun h1 o1 e1 ep1 t1 sb ho1 hx1 hd1 pm hf1 hr1 hl1 _ => ?_)
  have z1 : e1.size = m := by rw [← Array.length_toList, pm.length_eq, Array.length_toList]; exact rn
  have R1 : SetR w h1 r T m := ⟨o1, e1, ep1, t1, ho1, hx1, hd1, fun e he => rg e (pm.mem_iff.mp he), (pm.map keyOf).nodup_iff.mpr rnd, fun k => (rm k).trans (pm.map keyOf).mem_iff.symm, by rw [z1, ← rn]; exact rb, hf1, z1, hr1, by rw [hl1]; exact rl⟩
  have nfill : t1.fill ≠ 0 := by
    simp only [SetTable.fits, Bool.and_eq_true, beq_iff_eq, decide_eq_true_eq] at hf1
    unfold SetTable.fill
    omega
  have hoo1 : h1.get? o = some oo := (sb.2 o fun z => hne z.symm).trans hoo
  refine wpAny_bind (wpAny_setState_of (s := { s with heap := h1 }) ho1 hd1 hf1 ?_)
  dsimp only
  unfold SetTable.road
  rw [if_pos (by simpa using nfill)]
  dsimp only
  refine wpAny_bind (walk_ok (s := { s with heap := h1 }) hne hoo1 hex hdo g hb hfo hlo ⟨S, n, Ro.at fun u e => (sb.2 o fun z => hne z.symm).trans e⟩ R1 fun es h2 pe sb2 R2 => ?_)
  rw [← Array.forIn_toList]
  have hlen : es.toList.length = n := by rw [pe.length_eq, Array.length_toList]; exact hsz
  refine wpAny_bind (merge_loop (oo := oo) (eo := eo) (to := to) _ (fun x v u => rfl) (fun z => hne z.symm) es.toList { s with heap := h2 } T m _ (fun e he => g e (pe.mem_iff.mp he)) ((sb2.2 o fun z => hne z.symm).trans hoo1) hdo hfo R2 (by rw [hlen]; omega) fun h3 m3 sb3 le R3 => ?_)
  refine wpAny_pure (h h3 m3 ((sb.trans sb2).trans sb3) (by rw [hlen] at le; exact le) (R3.congr fun k => ?_))
  congr 1
  have e2 := (hm k).trans (pe.map keyOf).mem_iff.symm
  cases q : S k with
  | true => exact (decide_eq_true (e2.1 q)).symm
  | false => exact (decide_eq_false fun z => by rw [e2.2 z] at q; cases q).symm
end
end CapS

set_option Elab.async false
set_option linter.all false
set_option maxRecDepth 100000
set_option maxHeartbeats 4000000
namespace CapS
open PySem PySem.Spec PyProof.Rows L2 SetTable
theorem entry_set_or : entryFor table "set.__or__" = some Builtin.«frozenset.__or__» := entryFor_alias (id' := "frozenset.__or__") (by kernel_rfl) rfl (by decide +kernel) (by kernel_rfl)
section
variable {P : Program} {w : World} {A : Around} {E : Value → Shared → Prop} {s : Shared}
theorem any_set {v : Value} {Q : Bool → Shared → Prop} (hT : s.TypeIs v "set") (h : Q true s) : wpAny (model P w) A (Builtin.Frozenset.isAnySet v) Q E s := by
  unfold Builtin.Frozenset.isAnySet orM
  refine wpAny_bind (wpAny_isInstance hT sub_set_self ?_)
  exact wpAny_pure h
theorem SetR.typeIs {a : Addr} {S : Int → Bool} {n : Nat} (R : SetR w s.heap a S n) : s.TypeIs (.ref a) "set" := by
  obtain ⟨o, es, ep, t, ho, hx, _⟩ := R
  exact ⟨o, ho, hx.1⟩
theorem union_ok {a b : Addr} {S T : Int → Bool} {n m : Nat} {Q : Value → Shared → Prop} (Ra : SetR w s.heap a S n) (Rb : SetR w s.heap b T m) (hab : b ≠ a) (hk : n + m < 40)
    (h : ∀ h' k, (∀ c o, s.heap.get? c = some o → h'.get? c = some o) → k ≤ n + m → SetR w h' s.heap.objs.size (fun j => S j || T j) k → Q (.ref s.heap.objs.size) { s with heap := h' }) :
    wpAny (model P w) A (binaryOp .BitOr (.ref a) (.ref b)) Q E s := by
  refine wpAny_binaryOp_same (op := .BitOr) (T := "set") (SetR.typeIs Ra) (SetR.typeIs Rb) F.fills_set_or F.slot_set_or ?_
  refine wpAny_call_entry F.slot_set_or (SetR.typeIs Ra) entry_set_or ?_ (F.args_set_or_2 _ _)
  refine wpAny_bind (m := Builtin.Frozenset.slot1 "__or__" _) (wpAny_of_eq (a := (.ref a, .ref b)) (by rfl) ?_)
  dsimp only
  rw [if_neg (by decide)]
  dsimp only
  refine wpAny_bind ?_
  unfold andM
  refine wpAny_bind (any_set (SetR.typeIs Ra) ?_)
  refine any_set (SetR.typeIs Rb) ?_
  rw [if_neg (by decide)]
  unfold Builtin.Frozenset.addrOf
  refine wpAny_bind (wpAny_pure ?_)
  -- the union
  refine wpAny_bind ?_
  refine wpAny_bind (m := Builtin.Frozenset.copyOf a) ?_
  unfold Builtin.Frozenset.copyOf Builtin.Frozenset.baseOf
  refine wpAny_bind (wpAny_bind (wpAny_isInstance (SetR.typeIs Ra) sub_set_self ?_))
  rw [if_pos rfl]
  refine wpAny_pure ?_
  refine wpAny_bind (PpSet.newSet_ok ?_)
  unfold Builtin.Frozenset.addrOf
  refine wpAny_bind (wpAny_pure ?_)
  generalize hr : s.heap.objs.size = r at h ⊢
  have kp : ∀ c o, s.heap.get? c = some o → (s.heap.push { cls := .type "set", dict := none, data := .set #[] 0 (.fresh 0 0 (!w.params.followText "set-order")) }).get? c = some o := fun c o e => Heap.get?_push_of_some _ e
  have hnew : (s.heap.push { cls := .type "set", dict := none, data := .set #[] 0 (.fresh 0 0 (!w.params.followText "set-order")) }).get? r = some { cls := .type "set", dict := none, data := .set #[] 0 (.fresh 0 0 (!w.params.followText "set-order")) } := by
    rw [← hr]
    exact Heap.get?_push_size _ rfl
  have ha : a < r := by rw [← hr]; exact Ra.lt
  have hb : b < r := by rw [← hr]; exact Rb.lt
  generalize (s.heap.push { cls := .type "set", dict := none, data := .set #[] 0 (.fresh 0 0 (!w.params.followText "set-order")) }) = h1 at kp hnew ⊢
  have keep : ∀ {h2 : Heap}, Heap.SameBut r h1 h2 → ∀ c o, s.heap.get? c = some o → h2.get? c = some o := fun {h2} sb c o e => by
    have hc : c ≠ r := by rw [← hr]; exact Nat.ne_of_lt (Heap.lt_size e)
    exact (sb.2 c hc).trans (kp c o e)
  refine wpAny_bind (merge_new (s := { s with heap := h1 }) (Nat.ne_of_gt ha) hnew (Ra.at (kp a)) (by omega) fun h2 sb2 R2 z2 => ?_)
  refine wpAny_pure ?_
  rw [if_pos (by
    show (!(Value.ref b == Value.ref a)) = true
    have z : (Value.ref b == Value.ref a) = false := by
      first | exact beq_eq_false_iff_ne.mpr (fun e => hab (by injection e)) | (show (b == a) = false; exact beq_eq_false_iff_ne.mpr hab)
    rw [z] <;> rfl)]
  refine wpAny_bind (wpAny_pure ?_)
  refine wpAny_bind (wpAny_holding ?_)
  have Rb2 : SetR w h2 b T m := Rb.at (keep sb2 b)
  unfold Builtin.Frozenset.updateFrom
  refine wpAny_bind (any_set (s := { s with heap := h2 }) (SetR.typeIs (s := { s with heap := h2 }) Rb2) ?_)
  rw [if_pos rfl]
  unfold Builtin.Frozenset.addrOf
  refine wpAny_bind (wpAny_pure ?_)
  unfold Builtin.Frozenset.merge
  have Rb2' := Rb2
  obtain ⟨ob, eb, epb, tb, hob, _, hdb, _, _, _, _, hfb, _⟩ := Rb2'
  refine wpAny_bind (wpAny_setEpoch_of (s := { s with heap := h2 }) hob hdb hfb ?_)
  have fin : ∀ h3 k, Heap.SameBut r h2 h3 → k ≤ n + m → SetR w h3 r (fun j => S j || T j) k → wpAny (model P w) A.in1 (do pure (Value.ref r)) (fun v s' => wpAny (model P w) A.in1 (ret v) (fun f s'' => ∃ v, f = .done (.ret v) ∧ v ≠ .notImplemented ∧ Q v s'') E s') E { s with heap := h3 } := fun h3 k sb3 hk3 R3 => by
    refine wpAny_pure ?_
    refine wpAny_pure ⟨_, rfl, (by intro e; cases e), ?_⟩
    exact h h3 k (keep (sb2.trans sb3)) hk3 R3
  rcases Nat.eq_zero_or_pos n with n0 | n0
  · subst n0
    have e2 := z2 rfl
    subst e2
    have S0 : ∀ j, S j = false := fun j => by
      have Ra' := Ra
      obtain ⟨o, es, ep, t, ho, hx, hd, g, nd, hm, hb', hf, hn, _⟩ := Ra'
      have z : es = #[] := by simpa using hn
      cases q : S j with
      | false => rfl
      | true => exact absurd ((hm j).1 q) (by rw [z]; simp)
    refine merge_new (s := { s with heap := h2 }) (Nat.ne_of_gt hb) hnew Rb2 (by omega) fun h3 sb3 R3 _ => ?_
    exact fin h3 m sb3 (by omega) (R3.congr fun j => by rw [S0 j, Bool.false_or])
  · exact merge_old (s := { s with heap := h2 }) (Nat.ne_of_gt hb) hob hdb R2 n0 Rb2 hk fun h3 k sb3 hk3 R3 => fin h3 k sb3 hk3 R3
end
end CapS

set_option Elab.async false
set_option linter.all false
set_option maxRecDepth 100000
set_option maxHeartbeats 4000000
/-! a set comprehension of ints with two fors; the display of two ints; sorted unions -/
namespace CapS
open PySem PySem.Spec PyProof.Rows L2
section
variable {X : Cx}
/-- set.add of an int -/
theorem addI_ok {pins : List (Addr × Obj)} {σ : L2.St} {H : Hp} {s : Shared} {E : Value → Shared → Prop} {D : Addr} {S : Int → Bool} {n : Nat} {c : Int} {tk : Tok} {Q : Value → Shared → Prop} (I : Inv X pins σ H s) (hD : H D = some (SetO X.w D S n)) (room : n + 1 < scanBound)
    (h : ∀ s', Inv X pins σ (upd H D (SetO X.w D (fun j => S j || decide (j = c)) (if S c = true then n else n + 1))) s' → Q .none s') : wpAny (model X.prog X.w) X.A (call (.builtin "set.add") [.ref D, .int c tk]) Q E s := by
  have R := setO_get I hD
  refine setR_add R room fun h' sb new => ?_
  have he : ∃ u, h'.get? D = some u := by
    have ⟨o, _, _, _, ho, _⟩ := new
    exact ⟨o, ho⟩
  exact h _ (I.write (e := D) (t' := s.toks + 1) (by rw [hD]; trivial) (.inl rfl) (fun b u hb hu => (sb.2 b hb).trans hu) he (setO_new new))
theorem updS {H : Hp} {a : Addr} {o : HO} : upd H a o a = some o := by
  unfold upd
  simp
/-- setAdd of an int -/
theorem setI_ok {pins : List (Addr × Obj)} {σ : L2.St} {H : Hp} {s : Shared} {E : Value → Shared → Prop} {D : Addr} {S : Int → Bool} {n : Nat} {c : Int} {tk : Tok} {Q : Bool → Shared → Prop} (I : Inv X pins σ H s) (hD : H D = some (SetO X.w D S n)) (room : n + 1 < scanBound)
    (h : ∀ s', Inv X pins σ (upd H D (SetO X.w D (fun j => S j || decide (j = c)) (if S c = true then n else n + 1))) s' → Q (!S c) s') : wpAny (model X.prog X.w) X.A (setAdd D (.int c tk)) Q E s := by
  have R := setO_get I hD
  unfold setAdd
  refine wpAny_holding (wpAny_bind ((intKind X.prog X.w).pyHash (k := c) (intKind_is _ _ _ _) ?_))
  refine setR_add_hashed (s := { s with toks := s.toks + 1 }) R room fun h' sb new => ?_
  have he : ∃ u, h'.get? D = some u := by
    have ⟨o, _, _, _, ho, _⟩ := new
    exact ⟨o, ho⟩
  exact h _ (I.write (e := D) (t' := s.toks + 1) (by rw [hD]; trivial) (.inl rfl) (fun b u hb hu => (sb.2 b hb).trans hu) he (setO_new new))
end
theorem scTurn_out (elt t0 i0 t1 i1 : Expr) (ifs0 ifs1 : List Expr) (scope : Scope) (pos : Pos) (it acc : Value) (env : Env) :
    compTurn (.SetComp elt [⟨t0, i0, ifs0, 0⟩, ⟨t1, i1, ifs1, 0⟩] scope pos) 0 it acc env = (do
      standAt i0.pos
      match ← pyNext it with
      | none => pure (.done .next)
      | some v =>
        letOwnedTupleGo t0 it v
        assign t0 env v
        let mut ok := true
        for c in ifs0 do
          if ok then ok ← isTrue c env (eval c env)
        if ok then
          let x ← eval i1 env
          standAt i1.pos
          let x ← foldedSetIterable i1 env x
          let _ ← runOwn (.compStart (.SetComp elt [⟨t0, i0, ifs0, 0⟩, ⟨t1, i1, ifs1, 0⟩] scope pos) 1 (← holding [x] (pyIter x)) acc env) env
        again (.compLoop (.SetComp elt [⟨t0, i0, ifs0, 0⟩, ⟨t1, i1, ifs1, 0⟩] scope pos) 0 it acc env)) := by rfl
theorem scTurn_in (elt t0 i0 t1 i1 : Expr) (ifs0 ifs1 : List Expr) (scope : Scope) (pos : Pos) (it acc : Value) (env : Env) :
    compTurn (.SetComp elt [⟨t0, i0, ifs0, 0⟩, ⟨t1, i1, ifs1, 0⟩] scope pos) 1 it acc env = (do
      standAt i1.pos
      match ← pyNext it with
      | none => pure (.done .next)
      | some v =>
        letOwnedTupleGo t1 it v
        assign t1 env v
        let mut ok := true
        for c in ifs1 do
          if ok then ok ← isTrue c env (eval c env)
        if ok then
          (do let v ← eval elt env; standAt elt.pos; let _ ← call (.builtin "set.add") [acc, v])
        again (.compLoop (.SetComp elt [⟨t0, i0, ifs0, 0⟩, ⟨t1, i1, ifs1, 0⟩] scope pos) 1 it acc env)) := by rfl
section
variable {prog : Program} {w : World} {A : Around} {R : Result → Shared → Prop} {s : Shared} {elt t0 i0 t1 i1 : Expr} {ifs0 ifs1 : List Expr} {scope : Scope} {pos : Pos} {it acc : Value} {env : Env}
/-- the loop of the first clause -/
theorem scLoop_out (hs : ∀ x, foldedSetIterable i1 env x = pure x) (I : Nat → Shared → Prop)
    (turn : ∀ n s, I n s → wpAny (model prog w) A (pyNext it) (fun r s₁ => match r with
      | none => R (.ok .next) s₁
      | some v => wpAny (model prog w) A (letOwnedTupleGo t0 it v) (fun _ s₁' => wpAny (model prog w) A (assign t0 env v) (fun _ s₂ =>
          wpAny (model prog w) A (forIn ifs0 true fun c r => if r = true then do let ok ← isTrue c env (eval c env); pure (ForInStep.yield ok) else pure (ForInStep.yield r)) (fun ok s₃ =>
            if ok = true then wpAny (model prog w) A (eval i1 env) (fun x s₄ => wpAny (model prog w) A (pyIter x) (fun it1 s₅ =>
              codeAny (model prog w) A (.compStart (.SetComp elt [⟨t0, i0, ifs0, 0⟩, ⟨t1, i1, ifs1, 0⟩] scope pos) 1 it1 acc env) (fun r s' => match r with
                | .ok _ => ∃ m, m < n ∧ I m s'
                | .error _ => False) s₅) (notedBy (model prog w) A env fun e s' => R (.error e) s') s₄) (notedBy (model prog w) A env fun e s' => R (.error e) s') s₃
            else ∃ m, m < n ∧ I m s₃) (notedBy (model prog w) A env fun e s' => R (.error e) s') s₂) (notedBy (model prog w) A env fun e s' => R (.error e) s') s₁') (notedBy (model prog w) A env fun e s' => R (.error e) s') s₁) (notedBy (model prog w) A env fun e s' => R (.error e) s') s)
    (n : Nat) (h : I n s) :
    codeAny (model prog w) A (.compLoop (.SetComp elt [⟨t0, i0, ifs0, 0⟩, ⟨t1, i1, ifs1, 0⟩] scope pos) 0 it acc env) R s := by
  refine codeAny_loop rfl I (fun n s hI => ?_) n h
  show wpAny _ A ((compTurn (.SetComp elt [⟨t0, i0, ifs0, 0⟩, ⟨t1, i1, ifs1, 0⟩] scope pos) 0 it acc env).onRaise (fun x => do noteFrame x env; theTreesLotGoes x)) _ _ s
  refine wpAny_noted ?_
  rw [scTurn_out]
  refine wpAny_bind (wpAny_standAt (wpAny_bind (wpAny_mono (turn n s hI) (fun r s₁ h₁ => ?_) fun _ _ h' => h')))
  cases r with
  | none => exact wpAny_pure h₁
  | some v =>
    refine wpAny_bind (wpAny_mono h₁ (fun _ s₁' h₁' => ?_) fun _ _ h' => h')
    refine wpAny_bind (wpAny_mono h₁' (fun _ s₂ h₂ => wpAny_bind (wpAny_mono h₂ (fun ok s₃ h₃ => ?_) fun _ _ h' => h')) fun _ _ h' => h')
    cases ok with
    | false => exact wpAny_pure ⟨rfl, h₃⟩
    | true =>
      refine wpAny_bind (wpAny_mono h₃ (fun x s₄ h₄ => ?_) fun _ _ h' => h')
      refine wpAny_bind (wpAny_standAt (wpAny_bind (wpAny_of_eq (hs x) (wpAny_bind (wpAny_holding (wpAny_mono h₄ (fun it1 s₅ h₅ => ?_) fun _ _ h' => h'))))))
      refine wpAny_bind (wpAny_runOwn ?_)
      rw [Around.mark_none]
      refine codeAny_mono h₅ fun r s' hr => ?_
      cases r with
      | ok f =>
        first
          | exact wpAny_pure ⟨rfl, hr⟩
          | exact wpAny_bind (wpAny_pure (wpAny_pure ⟨rfl, hr⟩))
      | error e => exact hr.elim
/-- the loop of the second -/
theorem scLoop_in (I : Nat → Shared → Prop)
    (turn : ∀ n s, I n s → wpAny (model prog w) A (pyNext it) (fun r s₁ => match r with
      | none => R (.ok .next) s₁
      | some v => wpAny (model prog w) A (letOwnedTupleGo t1 it v) (fun _ s₁' => wpAny (model prog w) A (assign t1 env v) (fun _ s₂ =>
          wpAny (model prog w) A (forIn ifs1 true fun c r => if r = true then do let ok ← isTrue c env (eval c env); pure (ForInStep.yield ok) else pure (ForInStep.yield r)) (fun ok s₃ =>
            if ok = true then wpAny (model prog w) A (eval elt env) (fun x s₄ =>
              wpAny (model prog w) A (call (.builtin "set.add") [acc, x]) (fun _ s₅ => ∃ m, m < n ∧ I m s₅) (notedBy (model prog w) A env fun e s' => R (.error e) s') s₄) (notedBy (model prog w) A env fun e s' => R (.error e) s') s₃
            else ∃ m, m < n ∧ I m s₃) (notedBy (model prog w) A env fun e s' => R (.error e) s') s₂) (notedBy (model prog w) A env fun e s' => R (.error e) s') s₁') (notedBy (model prog w) A env fun e s' => R (.error e) s') s₁) (notedBy (model prog w) A env fun e s' => R (.error e) s') s)
    (n : Nat) (h : I n s) :
    codeAny (model prog w) A (.compLoop (.SetComp elt [⟨t0, i0, ifs0, 0⟩, ⟨t1, i1, ifs1, 0⟩] scope pos) 1 it acc env) R s := by
  refine codeAny_loop rfl I (fun n s hI => ?_) n h
  show wpAny _ A ((compTurn (.SetComp elt [⟨t0, i0, ifs0, 0⟩, ⟨t1, i1, ifs1, 0⟩] scope pos) 1 it acc env).onRaise (fun x => do noteFrame x env; theTreesLotGoes x)) _ _ s
  refine wpAny_noted ?_
  rw [scTurn_in]
  refine wpAny_bind (wpAny_standAt (wpAny_bind (wpAny_mono (turn n s hI) (fun r s₁ h₁ => ?_) fun _ _ h' => h')))
  cases r with
  | none => exact wpAny_pure h₁
  | some v =>
    refine wpAny_bind (wpAny_mono h₁ (fun _ s₁' h₁' => ?_) fun _ _ h' => h')
    refine wpAny_bind (wpAny_mono h₁' (fun _ s₂ h₂ => wpAny_bind (wpAny_mono h₂ (fun ok s₃ h₃ => ?_) fun _ _ h' => h')) fun _ _ h' => h')
    cases ok with
    | false => exact wpAny_pure ⟨rfl, h₃⟩
    | true =>
      exact wpAny_bind (wpAny_bind (wpAny_mono h₃ (fun x s₄ h₄ => wpAny_bind (wpAny_standAt (wpAny_bind (wpAny_mono h₄ (fun _ s₅ h₅ => wpAny_pure (wpAny_pure ⟨rfl, h₅⟩)) fun _ _ h' => h')))) fun _ _ h' => h'))
/-- the second clause's start -/
theorem scStart1 (h0 : codeAny (model prog w) A (.compLoop (.SetComp elt [⟨t0, i0, ifs0, 0⟩, ⟨t1, i1, ifs1, 0⟩] scope pos) 1 it acc env) R s)
    (h : wpAny (model prog w) A (pyIter it) (fun it' s' => codeAny (model prog w) A (.compLoop (.SetComp elt [⟨t0, i0, ifs0, 0⟩, ⟨t1, i1, ifs1, 0⟩] scope pos) 1 it' acc env) R s')
      (notedBy (model prog w) A env fun x s' => R (.error x) s') s) :
    codeAny (model prog w) A (.compStart (.SetComp elt [⟨t0, i0, ifs0, 0⟩, ⟨t1, i1, ifs1, 0⟩] scope pos) 1 it acc env) R s := by
  refine codeAny_of_tree ?_
  show wpAny _ _ ((compStart (.SetComp elt [⟨t0, i0, ifs0, 0⟩, ⟨t1, i1, ifs1, 0⟩] scope pos) 1 it acc env).onRaise (fun x => do noteFrame x env; standAt theWindowsPlace)) _ _ s
  refine wpAny_notedAt ?_
  unfold compStart
  show wpAny _ _ (ask >>= _) _ _ s
  refine wpAny_bind (wpAny_askSetting (wpAny_ite ?_))
  split
  · first
      | exact wpAny_bind (wpAny_pure (wpAny_pure (And.intro rfl h0)))
      | exact wpAny_pure (And.intro rfl h0)
  · first
      | exact wpAny_bind (wpAny_rule (wpAny_bind (wpAny_standAt (wpAny_bind (wpAny_mono h (fun it' s' h' => wpAny_pure (And.intro rfl h')) fun _ _ x => x)))))
      | (refine wpAny_bind (wpAny_rule ?_); show wpAny _ _ (standAt i1.pos >>= _) _ _ s; exact wpAny_bind (wpAny_standAt (wpAny_bind (wpAny_mono h (fun it' s' h' => wpAny_pure (And.intro rfl h')) fun _ _ x => x))))
end
section
variable {X : Cx}
def tSc2 (w : World) (wi : TI) (g : TG) (tt : TT) (wi1 : TI) (g1 : TG) (tt1 : TT) (te : TE) (vs vs1 : List Nat) : TE := fun σ H Q => wi σ H fun J H1 => ∀ D, H1 D = none → ∃ W : Nat → Nat → Hp → Prop, (∃ m, W 0 m (upd H1 D (SetO w D (fun _ => false) 0))) ∧ ∀ i m H, W i m H →
  (J.stop i H ∧ Q (.ref D) H) ∨ (J.go i H ∧ ∃ Nx : Hp → Prop, (∀ H', Nx H' → ∃ m', m' < m ∧ W (i + 1) m' H') ∧ ∀ x H', J.yld i H x H' → g x (wipe σ vs) H' fun σ2 H2 => wipe σ2 vs = wipe σ vs ∧ tt σ2 H2 fun b H3 =>
    if b = true then wi1 σ2 H3 fun J1 H4 => ∃ W1 : Nat → Nat → Hp → Prop, (∃ m, W1 0 m H4) ∧ ∀ j k H, W1 j k H →
      (J1.stop j H ∧ Nx H) ∨ (J1.go j H ∧ ∃ Nx1 : Hp → Prop, (∀ H', Nx1 H' → ∃ k', k' < k ∧ W1 (j + 1) k' H') ∧ ∀ x H', J1.yld j H x H' → g1 x (wipe σ2 vs1) H' fun σ3 H5 => wipe σ3 vs1 = wipe σ2 vs1 ∧ tt1 σ3 H5 fun b H6 =>
        if b = true then te σ3 H6 fun y H7 => ∃ (c : Int) (S : Int → Bool) (n : Nat), y = .int c ∧ H7 D = some (SetO w D S n) ∧ n + 1 < scanBound ∧ Nx1 (upd H7 D (SetO w D (fun j => S j || decide (j = c)) (if S c = true then n else n + 1))) else Nx1 H6)
    else Nx H3)
theorem sc2_core {pins : List (Addr × Obj)} {s : Shared} {σ : L2.St} {H : Hp} {Q : VK} {elt tg iter tg1 iter1 : Expr} {ifs ifs1 : List Expr} {scope : Scope} {own : List (Str × Nat)} {vs1 : List Nat} {pos pos' : Pos} {wi wi1 : TI} {g g1 : TG} {tt tt1 : TT} {te : TE} {use : Option (Value → Sem Unit)} {Qf : Value → Shared → Prop}
    (hc : X.calm = true) (hN : X.N.Nodup) (I : Inv X pins σ H s) (hi : PI X tg iter wi) (ok : BlkOk X.N X.env.scope scope own) (hv : ∀ i ∈ vs1, i ∈ own.map (·.2))
    (hg : ∀ (s : Shared) (H : Hp) (C : Addr) (cl : List (Str × Addr)) (fp : List Addr), PG (X.blk s H scope (compEnvC scope cl C X.env) fp) tg g) (ht : ∀ (s : Shared) (H : Hp) (C : Addr) (cl : List (Str × Addr)) (fp : List Addr), PTs (X.blk s H scope (compEnvC scope cl C X.env) fp) ifs tt)
    (he : ∀ (s : Shared) (H : Hp) (C : Addr) (cl : List (Str × Addr)) (fp : List Addr), PE (X.blk s H scope (compEnvC scope cl C X.env) fp) elt te) (hs : ∀ x, foldedSetIterable iter X.env x = pure x)
    (hi1 : ∀ (s : Shared) (H : Hp) (C : Addr) (cl : List (Str × Addr)) (fp : List Addr), PI (X.blk s H scope (compEnvC scope cl C X.env) fp) tg1 iter1 wi1)
    (hg1 : ∀ (s : Shared) (H : Hp) (C : Addr) (cl : List (Str × Addr)) (fp : List Addr), PG (X.blk s H scope (compEnvC scope cl C X.env) fp) tg1 g1)
    (ht1 : ∀ (s : Shared) (H : Hp) (C : Addr) (cl : List (Str × Addr)) (fp : List Addr), PTs (X.blk s H scope (compEnvC scope cl C X.env) fp) ifs1 tt1)
    (hs1 : ∀ env x, foldedSetIterable iter1 env x = pure x)
    (h : tSc2 X.w wi g tt wi1 g1 tt1 te (own.map (·.2)) vs1 σ H Q)
    (hRR : ∀ D C s' m H', Inv X pins σ H' s' → Q (.ref D) H' → s'.heap.Ns C m → FpOk X pins H' C → compPost (model X.prog X.w) X.A X.xe use Qf (.ref D) C (.ok .next) s') :
    wpAny (model X.prog X.w) X.A (comprehension (.SetComp elt [⟨tg, iter, ifs, 0⟩, ⟨tg1, iter1, ifs1, 0⟩] scope pos) scope X.env pos' (newSet (.type "set")) false (eval iter X.env) use) Qf X.xe s := by
  have hfree : ∀ y ∈ scope.names, y.2 = .free → ∃ c, X.env.cells.lookup y.1 = some c := fun y hy e => by
    rcases ok.free y hy e with k | k
    · exact I.ok.has _ (.inl k)
    · exact I.ok.has _ (.inr k)
  refine wpAny_comprehension_free (use := use) rfl hs (closure_ok hfree) ok.kind (fun y hy e => by rw [ok.uniq y hy, e])
    (thn (hi.run pins s σ H _ I h) fun xv s1 hx => thn hx fun itv s2 h2 => ?_)
  obtain ⟨it, fp, tn, J, H2, e, I2, T, st2, f2, q⟩ := h2
  subst e
  refine PpSet.newSet_ok (newEnv_comp ?_)
  generalize hD : s2.heap.objs.size = D
  have hDn : H2 D = none := I2.hok.fresh (Nat.le_of_eq hD)
  obtain ⟨W, ⟨m0, w0⟩, turn⟩ := q D hDn
  -- the new list
  generalize hs3 : ({ s2 with heap := s2.heap.push { cls := .type "set", dict := none, data := .set #[] 0 (.fresh 0 0 (!X.w.params.followText "set-order")) } } : Shared) = s3
  have I3 : Inv X pins σ (upd H2 D (SetO X.w D (fun _ => false) 0)) s3 := by
    rw [← hs3]
    refine I2.laid (t' := s2.toks) (fun b o e => Heap.get?_push_of_some _ e) (Nat.le_of_eq hD) ?_
    rw [← hD]
    exact setO_new (setR_fresh X.w)
  have h3 : s3.heap = s2.heap.push { cls := .type "set", dict := none, data := .set #[] 0 (.fresh 0 0 (!X.w.params.followText "set-order")) } := by rw [← hs3]
  have sz : ∀ b ∈ fp, b < s2.heap.objs.size := fun b hb => by
    obtain ⟨o, e, _⟩ := T.obj _ _ st2 b hb
    exact Heap.lt_size e
  have f3 : ∀ b ∈ fp, FpOk X pins (upd H2 D (SetO X.w D (fun _ => false) 0)) b ∧ b < s3.heap.objs.size := fun b hb => by
    have hlt := sz b hb
    refine ⟨⟨?_, (f2 b hb).2⟩, by rw [h3, Heap.size_push]; exact Nat.lt_succ_of_lt hlt⟩
    rw [upd_ne (by rw [← hD]; exact Nat.ne_of_lt hlt)]
    exact (f2 b hb).1
  have st3 : tn 0 s3.heap := T.keep _ _ _ st2 fun b _ o e => by rw [h3]; exact Heap.get?_push_of_some _ e
  have I4 := block_start I3 ok hN f3
  have pg := hg s3 (upd H2 D (SetO X.w D (fun _ => false) 0)) s3.heap.objs.size (cellsFrom (s3.heap.objs.size + 1) scope.names (cloFrom X.env.cells scope.names [])) fp
  have pt := ht s3 (upd H2 D (SetO X.w D (fun _ => false) 0)) s3.heap.objs.size (cellsFrom (s3.heap.objs.size + 1) scope.names (cloFrom X.env.cells scope.names [])) fp
  have pe := he s3 (upd H2 D (SetO X.w D (fun _ => false) 0)) s3.heap.objs.size (cellsFrom (s3.heap.objs.size + 1) scope.names (cloFrom X.env.cells scope.names [])) fp
  have pi1 := hi1 s3 (upd H2 D (SetO X.w D (fun _ => false) 0)) s3.heap.objs.size (cellsFrom (s3.heap.objs.size + 1) scope.names (cloFrom X.env.cells scope.names [])) fp
  have pg1 := hg1 s3 (upd H2 D (SetO X.w D (fun _ => false) 0)) s3.heap.objs.size (cellsFrom (s3.heap.objs.size + 1) scope.names (cloFrom X.env.cells scope.names [])) fp
  have pt1 := ht1 s3 (upd H2 D (SetO X.w D (fun _ => false) 0)) s3.heap.objs.size (cellsFrom (s3.heap.objs.size + 1) scope.names (cloFrom X.env.cells scope.names [])) fp
  show codeAny _ _ (.compStart (.SetComp elt [⟨tg, iter, ifs, 0⟩, ⟨tg1, iter1, ifs1, 0⟩] scope pos) 0 (.ref it) (.ref D) (compEnvC scope (cellsFrom (s3.heap.objs.size + 1) scope.names (cloFrom X.env.cells scope.names [])) s3.heap.objs.size X.env)) (compPost (model X.prog X.w) X.A X.xe use Qf (.ref D) s3.heap.objs.size) { s3 with heap := pushCells (s3.heap.push { cls := .type "dict", data := .dict #[] }) scope.names }
  have nfp : ∀ b ∈ fp, (upd H2 D (SetO X.w D (fun _ => false) 0)) b = none := fun b hb => (f3 b hb).1.1
  generalize hce : compEnvC scope (cellsFrom (s3.heap.objs.size + 1) scope.names (cloFrom X.env.cells scope.names [])) s3.heap.objs.size X.env = ce at I4 pg pt pe pi1 pg1 pt1 ⊢
  have cL : ce.locals = s3.heap.objs.size := by subst hce; rfl
  generalize hH3 : upd H2 D (SetO X.w D (fun _ => false) 0) = H3 at I3 I4 pg pt pe pi1 pg1 pt1 w0 nfp f3
  generalize hs4 : ({ s3 with heap := pushCells (s3.heap.push { cls := .type "dict", data := .dict #[] }) scope.names } : Shared) = s4 at I4 ⊢
  have st4 : tn 0 s4.heap := T.keep _ _ _ st3 fun b _ o e => by rw [← hs4]; exact pushCells_keeps _ _ _ _ (Heap.get?_push_of_some _ e)
  have stat : ∀ {σ' : L2.St} {H' : Hp} {s' : Shared}, Inv (X.blk s3 H3 scope ce fp) [] σ' H' s' → (∀ b ∈ fp, H' b = none) → ∀ b ∈ fp, FpOk (X.blk s3 H3 scope ce fp) [] H' b := fun {σ' H' s'} I' hn b hb =>
    ⟨hn b hb, (I'.ok.exf b hb).1, I'.ok.exfs b hb, .inl hb, fun x c e => (I'.ok.exf b hb).2 x c e, fun p hp => absurd (show p ∈ ([] : List (Addr × Obj)) ++ [] from hp) (by simp)⟩
  have loop : codeAny (model X.prog X.w) X.A (.compLoop (.SetComp elt [⟨tg, iter, ifs, 0⟩, ⟨tg1, iter1, ifs1, 0⟩] scope pos) 0 (.ref it) (.ref D) ce) (compPost (model X.prog X.w) X.A X.xe use Qf (.ref D) s3.heap.objs.size) s4 := by
    refine scLoop_out (hs1 ce) (fun n s' => ∃ i H', Inv (X.blk s3 H3 scope ce fp) [] (wipe σ (own.map (·.2))) H' s' ∧ tn i s'.heap ∧ (∀ b ∈ fp, H' b = none) ∧ W i n H') ?_ m0 ⟨0, H3, I4, st4, nfp, w0⟩
    rintro n s5 ⟨i, H5, I5, st5, n5, w5⟩
    rcases turn i n H5 w5 with ⟨stop, qq⟩ | ⟨go, Nx, hNx, step⟩
    · have td := T.done (X.blk s3 H3 scope ce fp) rfl rfl rfl hc i [] s5 _ H5 (fun _ _ => False) I5 (stat I5 n5) st5 stop
      refine thnF td fun r s6 ⟨hr, I6⟩ => ?_
      subst hr
      -- back in the def's context
      have I7 : Inv X pins σ H5 s6 := I3.call' (ch := fp) I6.os I6.base I6.hok I6.bare fun b hb => ⟨(f3 b hb).1.2.2.2.1, (f3 b hb).1.2.1, (f3 b hb).1.2.2.2.2.1, (f3 b hb).1.2.2.2.2.2⟩
      have nC : H5 s3.heap.objs.size = none := by
        have z : H5 ce.locals = none := I6.free
        rw [cL] at z
        exact z
      obtain ⟨m, hn, _⟩ := I6.loc
      have hn : s6.heap.Ns ce.locals m := hn
      rw [cL] at hn
      exact hRR D s3.heap.objs.size s6 m H5 I7 qq hn (I3.fpOk (Nat.le_refl _) nC)
    · have ti := T.item (X.blk s3 H3 scope ce fp) rfl rfl rfl hc i [] s5 _ H5 (fun _ _ => False) I5 (stat I5 n5) st5 go
      refine thnF ti fun r s6 ⟨u, hr, h6⟩ => ?_
      subst hr
      refine thnF h6 fun _ s7 ⟨x, H7, I7, r7, y7, st7, n7⟩ => ?_
      have I7' := I7.pinned (stat I7 n7) (T.obj _ _ st7)
      refine thnF (pg.run _ s7 _ H7 x u _ I7' r7 (step x H7 y7)) fun _ s8 ⟨σ8, H8, I8, hw8, q8⟩ => ?_
      refine thnF (pt.run _ s8 σ8 H8 _ I8 q8) fun b s9 ⟨H9, I9, q9⟩ => ?_
      -- the turn's end, from any slots that know what the block knew at its start
      have fin : ∀ {σ9 : L2.St} {s' : Shared} {H' : Hp}, Inv (X.blk s3 H3 scope ce fp) ([] ++ pinsAt fp s7.heap) σ9 H' s' → (wipe σ (own.map (·.2))).length = σ9.length → (∀ (j : Nat) v, (wipe σ (own.map (·.2)))[j]? = some (some v) → σ9[j]? = some (some v)) → Nx H' →
          ∃ m, m < n ∧ ∃ i H', Inv (X.blk s3 H3 scope ce fp) [] (wipe σ (own.map (·.2))) H' s' ∧ tn i s'.heap ∧ (∀ b ∈ fp, H' b = none) ∧ W i m H' := fun {σ9 s' H'} I' hl hk nx => by
        obtain ⟨m', hm, w'⟩ := hNx H' nx
        have pin' : ∀ b ∈ fp, ∀ o, s7.heap.get? b = some o → s'.heap.get? b = some o ∧ H' b = none := fun b hb o e =>
          let z := I'.pin (b, o) (List.mem_append_right _ (List.mem_append_right _ (mem_pinsAt hb e)))
          ⟨z.1, z.2.1⟩
        refine ⟨m', hm, i + 1, H', (I'.unpinned (pins := [])).weak hl hk, T.keep _ _ _ st7 fun b hb o e => (pin' b hb o e).1, fun b hb => ?_, w'⟩
        obtain ⟨o, e, _⟩ := T.obj _ _ st7 b hb
        exact (pin' b hb o e).2
      have hl8 : (wipe σ (own.map (·.2))).length = σ8.length := by rw [← hw8, wipe_length]
      have hk8 : ∀ (j : Nat) v, (wipe σ (own.map (·.2)))[j]? = some (some v) → σ8[j]? = some (some v) := fun j v e => by
        rw [← hw8] at e
        exact (wipe_some e).1
      have hk9 : ∀ (j : Nat) v, (wipe σ (own.map (·.2)))[j]? = some (some v) → (wipe σ8 vs1)[j]? = some (some v) := fun j v e => by
        rw [← hw8] at e
        obtain ⟨e1, e2⟩ := wipe_some e
        rw [wipe_out fun z => e2 (hv j z)]
        exact e1
      cases b with
      | false =>
        simp only [Bool.false_eq_true, if_false] at q9 ⊢
        exact fin I9 hl8 hk8 q9
      | true =>
        simp only [if_true] at q9 ⊢
        refine thnF (pi1.run _ s9 σ8 H9 _ I9 q9) fun xv s10 hx => thnF hx fun itv s11 h11 => ?_
        obtain ⟨it1, fp1, tn1, J1, H11, e1, I11, T1, st11, f11, W1, ⟨m1, w1⟩, turn1⟩ := h11
        subst e1
        -- the inner loop
        have stat1 : ∀ {H' : Hp}, (∀ b ∈ fp1, H' b = none) → ∀ b ∈ fp1, FpOk (X.blk s3 H3 scope ce fp) ([] ++ pinsAt fp s7.heap) H' b := fun hn b hb => ⟨hn b hb, (f11 b hb).2⟩
        have loop1 : codeAny (model X.prog X.w) X.A (.compLoop (.SetComp elt [⟨tg, iter, ifs, 0⟩, ⟨tg1, iter1, ifs1, 0⟩] scope pos) 1 (.ref it1) (.ref D) ce)
            (fun r s' => match r with
              | .ok _ => ∃ m, m < n ∧ ∃ i H', Inv (X.blk s3 H3 scope ce fp) [] (wipe σ (own.map (·.2))) H' s' ∧ tn i s'.heap ∧ (∀ b ∈ fp, H' b = none) ∧ W i m H'
              | .error _ => False) s11 := by
          refine scLoop_in (fun k s' => ∃ j H', Inv (X.blk s3 H3 scope ce fp) ([] ++ pinsAt fp s7.heap) (wipe σ8 vs1) H' s' ∧ tn1 j s'.heap ∧ (∀ b ∈ fp1, H' b = none) ∧ W1 j k H') ?_ m1 ⟨0, H11, I11.weak (wipe_length _ _) (fun j v e => (wipe_some e).1), st11, fun b hb => (f11 b hb).1, w1⟩
          rintro k s12 ⟨j, H12, I12, st12, n12, w12⟩
          rcases turn1 j k H12 w12 with ⟨stop1, nx1⟩ | ⟨go1, Nx1, hNx1, step1⟩
          · refine thnF (T1.done (X.blk s3 H3 scope ce fp) rfl rfl rfl hc j _ s12 (wipe σ8 vs1) H12 (fun _ _ => False) I12 (stat1 n12) st12 stop1) fun r s13 ⟨hr, I13⟩ => ?_
            subst hr
            exact fin I13 (hl8.trans (wipe_length σ8 vs1).symm) hk9 nx1
          · refine thnF (T1.item (X.blk s3 H3 scope ce fp) rfl rfl rfl hc j _ s12 (wipe σ8 vs1) H12 (fun _ _ => False) I12 (stat1 n12) st12 go1) fun r s13 ⟨u1, hr, h13⟩ => ?_
            subst hr
            refine thnF h13 fun _ s14 ⟨x1, H14, I14, r14, y14, st14, n14⟩ => ?_
            have I14' := I14.pinned (stat1 n14) (T1.obj _ _ st14)
            refine thnF (pg1.run _ s14 (wipe σ8 vs1) H14 x1 u1 _ I14' r14 (step1 x1 H14 y14)) fun _ s15 ⟨σ15, H15, I15, hw15, q15⟩ => ?_
            refine thnF (pt1.run _ s15 σ15 H15 _ I15 q15) fun b1 s16 ⟨H16, I16, q16⟩ => ?_
            have fin1 : ∀ {s' : Shared} {H' : Hp}, Inv (X.blk s3 H3 scope ce fp) (([] ++ pinsAt fp s7.heap) ++ pinsAt fp1 s14.heap) σ15 H' s' → Nx1 H' → ∃ m, m < k ∧ ∃ j H', Inv (X.blk s3 H3 scope ce fp) ([] ++ pinsAt fp s7.heap) (wipe σ8 vs1) H' s' ∧ tn1 j s'.heap ∧ (∀ b ∈ fp1, H' b = none) ∧ W1 j m H' := fun {s' H'} I' nx => by
              obtain ⟨m', hm, w'⟩ := hNx1 H' nx
              have pin' : ∀ b ∈ fp1, ∀ o, s14.heap.get? b = some o → s'.heap.get? b = some o ∧ H' b = none := fun b hb o e =>
                let z := I'.pin (b, o) (List.mem_append_right _ (List.mem_append_right _ (mem_pinsAt hb e)))
                ⟨z.1, z.2.1⟩
              refine ⟨m', hm, j + 1, H', I'.unpinned.weak (by rw [← hw15, wipe_length]) (fun j v e => by rw [← hw15] at e; exact (wipe_some e).1), T1.keep _ _ _ st14 fun b hb o e => (pin' b hb o e).1, fun b hb => ?_, w'⟩
              obtain ⟨o, e, _⟩ := T1.obj _ _ st14 b hb
              exact (pin' b hb o e).2
            cases b1 with
            | false =>
              simp only [Bool.false_eq_true, if_false] at q16 ⊢
              exact fin1 I16 q16
            | true =>
              simp only [if_true] at q16 ⊢
              refine thnF (pe.run _ s16 σ15 H16 _ I16 q16) fun z s17 ⟨yv, H17, I17, r17, cb, S0, n0, ey, hD17, hz17, nx⟩ => ?_
              subst ey
              obtain ⟨tk, rfl⟩ := r17
              exact addI_ok (X := X.blk s3 H3 scope ce fp) I17 hD17 hz17 fun s18 I18 => fin1 I18 nx
        exact scStart1 loop1 (T1.self X.A 0 _ _ _ st11 loop1)
  exact PpSet.codeAny_compStart_set loop (T.self X.A 0 _ _ _ st4 loop)
/-- as a value -/
theorem pe_sc2 {elt tg iter tg1 iter1 : Expr} {ifs ifs1 : List Expr} {scope : Scope} {own : List (Str × Nat)} {vs1 : List Nat} {pos : Pos} {wi wi1 : TI} {g g1 : TG} {tt tt1 : TT} {te : TE} (hc : X.calm = true) (hN : X.N.Nodup) (hi : PI X tg iter wi) (ok : BlkOk X.N X.env.scope scope own) (hv : ∀ i ∈ vs1, i ∈ own.map (·.2))
    (hg : ∀ (s : Shared) (H : Hp) (C : Addr) (cl : List (Str × Addr)) (fp : List Addr), PG (X.blk s H scope (compEnvC scope cl C X.env) fp) tg g) (ht : ∀ (s : Shared) (H : Hp) (C : Addr) (cl : List (Str × Addr)) (fp : List Addr), PTs (X.blk s H scope (compEnvC scope cl C X.env) fp) ifs tt)
    (hi1 : ∀ (s : Shared) (H : Hp) (C : Addr) (cl : List (Str × Addr)) (fp : List Addr), PI (X.blk s H scope (compEnvC scope cl C X.env) fp) tg1 iter1 wi1)
    (hg1 : ∀ (s : Shared) (H : Hp) (C : Addr) (cl : List (Str × Addr)) (fp : List Addr), PG (X.blk s H scope (compEnvC scope cl C X.env) fp) tg1 g1) (ht1 : ∀ (s : Shared) (H : Hp) (C : Addr) (cl : List (Str × Addr)) (fp : List Addr), PTs (X.blk s H scope (compEnvC scope cl C X.env) fp) ifs1 tt1)
    (he : ∀ (s : Shared) (H : Hp) (C : Addr) (cl : List (Str × Addr)) (fp : List Addr), PE (X.blk s H scope (compEnvC scope cl C X.env) fp) elt te) (hs : ∀ x, foldedSetIterable iter X.env x = pure x := by intro _; rfl) (hs1 : ∀ env x, foldedSetIterable iter1 env x = pure x := by intro _ _; rfl) :
    PE X (.SetComp elt [⟨tg, iter, ifs, 0⟩, ⟨tg1, iter1, ifs1, 0⟩] scope pos) (tSc2 X.w wi g tt wi1 g1 tt1 te (own.map (·.2)) vs1) := by
  refine ⟨fun pins s σ H Q I h => ?_⟩
  rw [PpSet.eval_SetComp]
  refine sc2_core hc hN I hi ok hv hg ht he hs hi1 hg1 ht1 hs1 h fun D C s' m H' I' q hn f => ⟨m, hn, fun h'' sb => ?_⟩
  obtain ⟨f0, f1, f2, f3, f4, f5⟩ := f
  exact ⟨.ref D, H', I'.turned (t' := s'.toks) (fun b o hb e => (sb.2 b hb).trans e) f0 f1 f3 f4 f5, rfl, q⟩
end
section
variable {X : Cx}
/-- the union of two sets of ints -/
def rUnion (w : World) : R2 := fun x y H Q => ∃ (a b : Addr) (S T : Int → Bool) (n m : Nat), x = .ref a ∧ y = .ref b ∧ b ≠ a ∧ H a = some (SetO w a S n) ∧ H b = some (SetO w b T m) ∧ n + m < 40 ∧
  ∀ p k, H p = none → k ≤ n + m → Q (.ref p) (upd H p (SetO w p (fun j => S j || T j) k))
theorem op_union : OpR X (binaryOp .BitOr) (rUnion X.w) := by
  intro pins s σ H x y v u Q I rx ry h
  obtain ⟨a, b, S, T, n, m, rfl, rfl, hab, ha, hb, hk, q⟩ := h
  cases rx
  cases ry
  refine union_ok (setO_get I ha) (setO_get I hb) hab hk fun h' k kp hk R => ?_
  exact ⟨.ref _, upd H s.heap.objs.size (SetO X.w s.heap.objs.size (fun j => S j || T j) k), I.laid (t' := s.toks) kp (Nat.le_refl _) (setO_new R), rfl, q _ _ (I.hok.fresh (Nat.le_refl _)) hk⟩
/-- {0, e} -/
def tDisp2 (w : World) (ta tb : TE) : TE := fun σ H Q => ∀ D, H D = none → ta σ (upd H D (SetO w D (fun _ => false) 0)) fun x H1 => ∃ i, x = .int i ∧ tb σ H1 fun y H2 => ∃ k, y = .int k ∧ H2 D = some (SetO w D (fun _ => false) 0) ∧
  ∀ m, m ≤ 2 → Q (.ref D) (upd H2 D (SetO w D (fun j => decide (j = i) || decide (j = k)) m))
theorem pe_disp2 {a b : Expr} {ta tb : TE} {pos : Pos} (hcd : PySem.W.kdsCode X.K X.env.code = true) (ha : PE X a ta) (hb : PE X b tb) (pa : PySem.W.kdsPlain a = true := by rfl) (pb : PySem.W.kdsPlain b = true := by rfl) : PE X (.Set [a, b] 0 pos) (tDisp2 X.w ta tb) := by
  refine ⟨fun pins s σ H Q I h => ?_⟩
  rw [arm_eval_Set]
  refine wpAny_bind (wpAny_standAt ?_)
  refine wpAny_bind (PySem.W.kds_main I.kIn hcd fun bb => ?_)
  rw [PySem.W.kds_star [a, b] (by simp [pa, pb]), List.map_map]
  unfold setDisplay
  have hroad : displayRoad 0 [a, b] = .oneByOne := rfl
  rw [hroad, if_neg (by decide)]
  refine wpAny_bind (PpSet.newSet_ok ?_)
  dsimp only
  have hDn : H s.heap.objs.size = none := I.hok.fresh (Nat.le_refl _)
  have q := h _ hDn
  generalize hD : s.heap.objs.size = D at hDn q
  have I1 : Inv X pins σ (upd H D (SetO X.w D (fun _ => false) 0)) { s with heap := s.heap.push { cls := .type "set", dict := none, data := .set #[] 0 (.fresh 0 0 (!X.w.params.followText "set-order")) } } := by
    refine I.laid (t' := s.toks) (fun b o e => Heap.get?_push_of_some _ e) (Nat.le_of_eq hD) ?_
    rw [← hD]
    exact setO_new (setR_fresh X.w)
  refine wpAny_bind (wpAny_holding ?_)
  show wpAny _ _ (evalAll [(do let v ← eval a X.env; standAt pos; pure v), (do let v ← eval b X.env; standAt pos; pure v)] >>= _) _ _ _
  refine wpAny_bind ?_
  simp only [evalAll]
  refine wpAny_bind (wpAny_bind (thn (ha.run pins _ σ _ _ I1 q) fun v s1 ⟨x, H1, I2, r1, i, e1, q1⟩ => ?_))
  refine wpAny_bind (wpAny_standAt (wpAny_pure ?_))
  refine wpAny_bind (wpAny_holding (wpAny_bind (wpAny_bind (thn (hb.run pins s1 σ _ _ I2 q1) fun u s2 ⟨y, H2, I3, r2, k, e2, hDD, q2⟩ => ?_))))
  refine wpAny_bind (wpAny_standAt (wpAny_pure ?_))
  refine wpAny_bind (wpAny_holding (wpAny_pure (wpAny_pure (wpAny_pure ?_))))
  subst e1 e2
  obtain ⟨t1, rfl⟩ := r1
  obtain ⟨t2, rfl⟩ := r2
  refine wpAny_bind (wpAny_holding ?_)
  rw [List.forIn_cons, if_neg (show ¬ ((DisplayRoad.oneByOne == DisplayRoad.unsure) = true) by decide)]
  refine wpAny_bind (wpAny_bind (wpAny_bind (setI_ok I3 hDD (by decide) fun s3 I4 => ?_)))
  refine wpAny_pure ?_
  show wpAny _ _ (forIn [_] _ _) _ _ _
  rw [List.forIn_cons]
  refine wpAny_bind (wpAny_bind (setI_ok I4 updS (by rw [if_neg Bool.false_ne_true]; decide) fun s4 I5 => ?_))
  refine wpAny_pure ?_
  show wpAny _ _ (forIn [] _ _) _ _ _
  rw [List.forIn_nil]
  refine wpAny_pure (wpAny_pure ?_)
  show wpAny _ _ ((forIn [] _ _) >>= _) _ _ _
  rw [List.forIn_nil]
  refine wpAny_bind (wpAny_pure (wpAny_pure ?_))
  rw [L2.upd_upd, if_neg Bool.false_ne_true] at I5
  refine wpAny_pure ?_
  refine ⟨.ref D, _, I5, rfl, ?_⟩
  have e : (fun j => (fun j => (fun _ => false) j || decide (j = i)) j || decide (j = k)) = (fun j => decide (j = i) || decide (j = k)) := by
    funext j
    simp
  rw [e]
  exact q2 _ (by split <;> omega)
end
end CapS

set_option Elab.async false
set_option linter.all false
set_option maxRecDepth 100000
set_option maxHeartbeats 4000000
/-! times_shown -/
namespace Cap
open PySem PySem.Spec PyProof.Rows L2 CapS
abbrev sTimes : Stmt := topS 29
theorem scTimes : FnScope ["cuts", "end", "edges", "cut", "frame", "one", "other"] ["cuts", "end"] (defScope sTimes) := ⟨rfl, rfl, rfl, by decide +kernel, rfl, by decide +kernel, by decide +kernel⟩
theorem cut_tail (es : List Int) : cutV (es.map V.int) (some 1) none = es.tail.map V.int := by
  unfold cutV
  rw [show HT.sIx (es.map V.int).length 0 (some 1) = min 1 (es.map V.int).length from HT.sIx_nat _ _ 1, HT.sIx_none]
  cases es with
  | nil => rfl
  | cons x r =>
    have e : min 1 ((x :: r).map V.int).length = 1 := by
      rw [List.map_cons, List.length_cons]
      omega
    rw [e, List.map_cons]
    show (List.take _ (r.map V.int)) = r.map V.int
    refine List.take_of_length_le ?_
    simp
theorem fresh_of {H H' : Hp} {D : Addr} (s : Same H H') (n : H' D = none) : H D = none := by
  cases z : H D with
  | none => rfl
  | some o =>
    have y := s D o z
    rw [n] at y
    cases y
/-- one walk over a tuple, any turn -/
theorem loop_tup {K : PySem.W.Frag} {a : Addr} {xs : List V} {H0 : Hp} {Qd : Hp → Prop} {Step : V → Hp → (Hp → Prop) → Prop} (Pv : Nat → Hp → Prop) (h0 : Pv 0 H0) (hl : ∀ i H, i ≤ xs.length → Pv i H → SqT K H a xs)
    (hs : ∀ i x H, xs[i]? = some x → Pv i H → Step x H (Pv (i + 1))) (hd : ∀ H, Pv xs.length H → Qd H) :
    ∃ W : Nat → Nat → Hp → Prop, (∃ m, W 0 m H0) ∧ ∀ i m H, W i m H →
      ((Itt K a).stop i H ∧ Qd H) ∨ ((Itt K a).go i H ∧ ∃ Nx : Hp → Prop, (∀ H', Nx H' → ∃ m', m' < m ∧ W (i + 1) m' H') ∧ ∀ x H', (Itt K a).yld i H x H' → Step x H' Nx) := by
  refine ⟨fun i m H => m = xs.length - i ∧ i ≤ xs.length ∧ Pv i H, ⟨xs.length, by simp, Nat.zero_le _, h0⟩, ?_⟩
  rintro i m H ⟨rfl, hi, p⟩
  have q := hl i H hi p
  by_cases hlt : i < xs.length
  · refine .inr ⟨⟨xs, xs[i], q, by simp [hlt]⟩, Pv (i + 1), fun H' p' => ⟨xs.length - (i + 1), by omega, rfl, hlt, p'⟩, fun x H' y => ?_⟩
    obtain ⟨e, y⟩ := y
    subst e
    exact hs i x _ (y xs q) p
  · have e : i = xs.length := by omega
    subst e
    exact .inl ⟨⟨xs, q, Nat.le_refl _⟩, hd H p⟩
section
variable {P : Program} {w : World} {K : PySem.W.Frag} {mg : Str → Option Value} {base : Heap}
/-- as Fun.ok; the code object is known to the body -/
theorem okC {CX : CXT} {x qual : Str} {st : Stmt} {f : Addr} {fd : FuncData} {N ps : List Str} {k : Nat} {sp : Sp} (F : Fun K x qual st f fd) (S : FnScope N ps (defScope st)) (len : ∀ vs H Q E, sp vs H Q E → vs.length = ps.length)
    (hbody : ∀ (cdv : Value) (A : Around) (outer : List Env) (s : Shared) (H : Hp) (vs : List V) (Q : VK) (E : XK), PySem.W.codeIn K cdv qual = true → Room k (A.deeper (envOfC qual (defScope st) s.heap.objs.size f cdv)) → sp vs H Q E →
      ∃ t, PSs (cxOf CX P w K mg base N qual (defScope st) f cdv A outer s H E) (defBody st) t ∧ t { nx := fun _ H' => Q .non H', rt := Q } (start N vs) H) : FnOk P w K mg base CX (k + 1) f fd ps sp := by
  obtain ⟨oc, od, kV, doc, pm, an, cdv, ct, osl, rfl, lk, hcd⟩ := F.ex
  exact fn_of lk hcd S len fun A outer s H vs Q E hr hsp => hbody cdv A outer s H vs Q E hcd hr hsp
def cscT : Scope := match defBody sTimes with
  | [_, .Return (some (.ListComp _ _ sc _)) _] => sc
  | _ => defScope sTimes
def ttShown (K : PySem.W.Frag) : TT := tTest (tChain (rI0 fun i j => .bl (decide (i ≤ j))) (rI0 fun i j => .bl (decide (i < j))) (tOp (rIxT K) (tVar 3) (tC (.int 0))) (tVar 5) (tOp (rIxT K) (tVar 3) (tC (.int 1))))
def teShown (K : PySem.W.Frag) : TE := tTup (tCons (tVar 5) (tCons (tVar 6) (tCons (tCB (fun xs H Q => ∃ p ys, xs = [.ref p] ∧ (SqL K H p ys ∨ SqT K H p ys) ∧ Q (.int ys.length) H) (tCons (tLc (iTup K (tVar 0)) (gName 3) (ttShown K) (tC (.int 1)) [3]) tNil)) tNil)))
/-- the frames of the first cuts, those below n -/
def InEd (cs : List Cut) (n k : Int) : Prop := k < n ∧ ∃ c ∈ cs, k = c.1 ∨ k = c.2
def spTimes (w : World) : Sp := fun vs H Q _ => ∃ (a : Addr) (cs : List Cut) (n : Int), vs = [.ref a, .int n] ∧ CutsT H a cs ∧ Good cs ∧
  ∀ H' l us es, Same H H' → H l = none → H' l = some (.lst us) → Edges cs n es → es.length ≤ 40 → Trs H' us ((segs es).map fun s => (s.1, s.2, ((cnt cs s.1 : Nat) : Int))) → Q (.ref l) H'
theorem ok_times {f : Addr} {fd : FuncData} (F : Fun K "times_shown" "times_shown" sTimes f fd) (B : Blt mg) : FnOk P w K mg base CX0 1 f fd ["cuts", "end"] (spTimes w) := by
  refine okC F scTimes (fun vs H Q E h => ?_) (fun cdv A outer s H vs Q E hcd hr h => ?_)
  · obtain ⟨a, cs, n, rfl, _⟩ := h
    rfl
  · obtain ⟨a, cs, n, rfl, ⟨ps, ha, hp⟩, g, q⟩ := h
    have hlen : ps.length = cs.length := Paired.length hp
    have few := g.few
    have hkd := kdsCode_of hcd
    suffices hh : ∃ t, PSs (cxOf CX0 P w K mg base ["cuts", "end", "edges", "cut", "frame", "one", "other"] "times_shown" (defScope sTimes) f cdv A outer s H E).nox (defBody sTimes) t ∧ t { nx := fun _ H' => Q .non H', rt := Q } (start ["cuts", "end", "edges", "cut", "frame", "one", "other"] [.ref a, .int n]) H by
      obtain ⟨t, h1, h2⟩ := hh
      exact ⟨t, h1.nox, h2⟩
    refine ⟨_, pss_cons (ps_set (i := 2) scTimes.nd rfl (.inl rfl) (pe_callB (cr_sortedSet rfl) (by rfl) B.sorted (by decide +kernel) (pa_cons (pe_op op_union
        (pe_sc2 (own := [("cut", 3), ("frame", 4)]) (vs1 := [4]) (g := gName 3) (g1 := gName 4) (tt := tYes) (wi1 := iTup K (tVar 3)) rfl scTimes.nd (pi_tup (pv 0)) (blkOk_by (own := [("cut", 3), ("frame", 4)]) (N := ["cuts", "end", "edges", "cut", "frame", "one", "other"]) (sc := defScope sTimes) (by decide +kernel)) (by decide)
          (fun _ _ _ _ _ => pg_name (i := 3) scTimes.nd rfl (Or.inl rfl)) (fun _ _ _ _ _ => pts_nil) (fun _ _ _ _ _ => pi_tup (pv 3)) (fun _ _ _ _ _ => pg_name (i := 4) scTimes.nd rfl (Or.inl rfl)) (fun _ _ _ _ _ => pts_one (pt_cmpR op_lt (pv 4) (pv 1) (nomark _))) (fun _ _ _ _ _ => pv 4))
        (pe_disp2 hkd pe_int (pv 1))) pa_nil)))
      (pss_one (ps_ret (pe_lc (own := [("one", 5), ("other", 6)]) (g := gTup K 2 (gCons (gName 5) (gCons (gName 6) gNil))) (tt := tYes) (te := teShown K) rfl scTimes.nd
        (pi_zip (by rfl) B.zip (pa_cons (pv 2) (pa_cons (pe_slice sl_list (pv 2) (po_some pe_int) po_none) pa_nil)))
        (blkOk_by (own := [("one", 5), ("other", 6)]) (N := ["cuts", "end", "edges", "cut", "frame", "one", "other"]) (sc := defScope sTimes) (by decide +kernel))
        (fun _ _ _ _ _ => pg_tup rfl (pgs_cons (pg_name (i := 5) scTimes.nd rfl (Or.inr rfl)) (pgs_cons (pg_name (i := 6) scTimes.nd rfl (Or.inl rfl)) pgs_nil))) (fun _ _ _ _ _ => pts_nil)
        (fun _ _ _ _ _ => pe_tup (pa_cons (pv 5) (pa_cons (pv 6) (pa_cons (pe_callB call_len_seq (by rfl) B.len PySem.boot_len (pa_cons
          (pe_lc (own := [("cut", 3)]) (g := gName 3) (tt := ttShown K) (te := tC (.int 1)) rfl scTimes.nd (pi_tup (pv 0)) (blkOk_by (own := [("cut", 3)]) (N := ["cuts", "end", "edges", "cut", "frame", "one", "other"]) (sc := relS cscT (defScope sTimes)) (by decide +kernel))
            (fun _ _ _ _ _ => pg_name (i := 3) scTimes.nd rfl (Or.inl rfl))
            (fun _ _ _ _ _ => pts_one (pt_chain op_le op_lt (pe_ix ix_tup (pv 3) pe_int (fun _ _ => rfl)) (pv 5) (pe_ix ix_tup (pv 3) pe_int (fun _ _ => rfl))))
            (fun _ _ _ _ _ => pe_int)) pa_nil)) pa_nil))))))), ?_⟩
    refine ⟨_, rfl, a, rfl, ⟨ps, .inl (.inl ha)⟩, fun D nD => loop_tup (xs := ps) (fun i H' => Same H H' ∧ ∃ S m, H' D = some (SetO w D S m) ∧ (∀ k, S k = true ↔ InEd (cs.take i) n k) ∧ m ≤ 2 * i) ?_ ?_ ?_ ?_⟩
    · refine ⟨same_new nD, _, 0, updS, fun k => ⟨fun z => absurd z Bool.false_ne_true, fun z => ?_⟩, Nat.le_refl _⟩
      obtain ⟨_, c, hc, _⟩ := z
      simp at hc
    · rintro i H1 _ ⟨sm, _⟩
      exact .inl (.inl (sm _ _ ha))
    · rintro i x H1 hx ⟨sm, S, m, hD, hS, hm⟩
      obtain ⟨c, hc, p, rfl, hpp⟩ := Pd.getL hp hx
      have hi : i < cs.length := by
        rcases Nat.lt_or_ge i cs.length with z | z
        · exact z
        · rw [List.getElem?_eq_none z] at hc
          cases hc
      refine ⟨rfl, yes ?_⟩
      refine ⟨_, rfl, p, rfl, ⟨_, .inl (.inl (sm _ _ hpp))⟩, loop_tup (xs := [.int c.1, .int c.2]) (fun j H' => Same H H' ∧ ∃ S m, H' D = some (SetO w D S m) ∧ (∀ k, S k = true ↔ (InEd (cs.take i) n k ∨ (k < n ∧ k ∈ [c.1, c.2].take j))) ∧ m ≤ 2 * i + j) ?_ ?_ ?_ ?_⟩
      · exact ⟨sm, S, m, hD, fun k => by rw [hS k]; simp, hm⟩
      · rintro j H2 _ ⟨sm2, _⟩
        exact .inl (.inl (sm2 _ _ hpp))
      · rintro j y H2 hy ⟨sm2, S2, m2, hD2, hS2, hm2⟩
        obtain ⟨v, rfl, hv⟩ : ∃ v, y = .int v ∧ [c.1, c.2][j]? = some v := by
          match j, hy with
          | 0, hy => exact ⟨c.1, (Option.some.inj hy).symm, rfl⟩
          | 1, hy => exact ⟨c.2, (Option.some.inj hy).symm, rfl⟩
        have tk : [c.1, c.2].take (j + 1) = [c.1, c.2].take j ++ [v] := take_snoc hv
        have hj : j < 2 := by
          rcases Nat.lt_or_ge j 2 with z | z
          · exact z
          · rw [List.getElem?_eq_none z] at hv
            cases hv
        refine ⟨rfl, _, rfl, _, rfl, _, _, rfl, rfl, _, rfl, ?_⟩
        by_cases hlt : v < n
        · refine ite1 (decide_eq_true hlt) ?_
          refine ⟨_, rfl, v, S2, m2, rfl, hD2, by unfold scanBound; omega, fun b o e => ?_, _, _, updS, fun k => ?_, by split <;> omega⟩
          · rw [upd_ne (ne_of_none e nD)]
            exact sm2 b o e
          · rw [Bool.or_eq_true, hS2 k, decide_eq_true_eq, tk, List.mem_append, List.mem_singleton]
            constructor
            · rintro ((z | ⟨z1, z2⟩) | z)
              · exact .inl z
              · exact .inr ⟨z1, .inl z2⟩
              · exact .inr ⟨z ▸ hlt, .inr z⟩
            · rintro (z | ⟨z1, z2 | z2⟩)
              · exact .inl (.inl z)
              · exact .inl (.inr ⟨z1, z2⟩)
              · exact .inr z2
        · refine ite0 (decide_eq_false hlt) ?_
          refine ⟨sm2, S2, m2, hD2, fun k => ?_, by omega⟩
          rw [hS2 k, tk, List.mem_append, List.mem_singleton]
          constructor
          · rintro (z | ⟨z1, z2⟩)
            · exact .inl z
            · exact .inr ⟨z1, .inl z2⟩
          · rintro (z | ⟨z1, z2 | z2⟩)
            · exact .inl z
            · exact .inr ⟨z1, z2⟩
            · exact absurd (z2 ▸ z1) hlt
      · rintro H2 ⟨sm2, S2, m2, hD2, hS2, hm2⟩
        refine ⟨sm2, S2, m2, hD2, fun k => ?_, by simpa [Nat.mul_add] using hm2⟩
        rw [hS2 k, take_snoc hc]
        unfold InEd
        constructor
        · rintro (⟨z, d, hd, e⟩ | ⟨z, e⟩)
          · exact ⟨z, d, List.mem_append_left _ hd, e⟩
          · refine ⟨z, c, List.mem_append_right _ List.mem_cons_self, ?_⟩
            rcases List.mem_cons.mp e with e | e
            · exact .inl e
            · exact .inr (List.mem_singleton.mp e)
        · rintro ⟨z, d, hd, e⟩
          rcases List.mem_append.mp hd with hd | hd
          · exact .inl ⟨z, d, hd, e⟩
          · rw [List.mem_singleton.mp hd] at e
            refine .inr ⟨z, ?_⟩
            rcases e with e | e
            · rw [e]; exact List.mem_cons_self
            · rw [e]; exact List.mem_cons_of_mem _ List.mem_cons_self
    · rintro H1 ⟨sm, S, m, hD, hS, hm⟩
      rw [hlen] at hm hS
      rw [List.take_length] at hS
      refine fun D2 nD2 => ⟨0, rfl, _, rfl, n, rfl, updS, fun m2 hm2 => ?_⟩
      rw [L2.upd_upd]
      refine ⟨D, D2, S, _, m, m2, rfl, rfl, fun z => ne_of_none hD nD2 z.symm, upd_at hD nD2, updS, by omega, fun p k np hk => ?_⟩
      refine ⟨p, _, k, rfl, updS, by omega, fun es e up mem len ne => ?_⟩
      have sm3 : Same H (upd (upd (upd H1 D2 (SetO w D2 (fun j => decide (j = 0) || decide (j = n)) m2)) p (SetO w p (fun j => S j || (decide (j = 0) || decide (j = n))) k)) e (.lst (es.map V.int))) := fun b o z => upd_at (upd_at (upd_at (sm b o z) nD2) np) ne
      have he : (upd (upd (upd H1 D2 (SetO w D2 (fun j => decide (j = 0) || decide (j = n)) m2)) p (SetO w p (fun j => S j || (decide (j = 0) || decide (j = n))) k)) e (.lst (es.map V.int))) e = some (.lst (es.map V.int)) := upd_same
      have EE : Edges cs n es := ⟨up, fun j => by
        rw [mem j, Bool.or_eq_true, Bool.or_eq_true, hS j, decide_eq_true_eq, decide_eq_true_eq]
        constructor
        · rintro (z | z | z)
          · exact .inr (.inr z)
          · exact .inl z
          · exact .inr (.inl z)
        · rintro (z | z | z)
          · exact .inr (.inl z)
          · exact .inr (.inr z)
          · exact .inl z⟩
      have hes : es.length ≤ 40 := by omega
      rw [show (cxOf CX0 P w K mg base ["cuts", "end", "edges", "cut", "frame", "one", "other"] "times_shown" (defScope sTimes) f cdv A outer s H E).nox.w = w from rfl]
      generalize (upd (upd (upd H1 D2 (SetO w D2 (fun j => decide (j = 0) || decide (j = n)) m2)) p (SetO w p (fun j => S j || (decide (j = 0) || decide (j = n))) k)) e (.lst (es.map V.int))) = H2 at sm3 he ⊢
      clear mem hS np ne
      refine ⟨_, rfl, _, rfl, 1, rfl, e, _, rfl, .inl (.inl he), fun p2 np2 => ?_⟩
      have sm4 : Same H (upd H2 p2 (.lst (cutV (es.map V.int) (some 1) none))) := fun b o z => upd_at (sm3 b o z) np2
      have he4 : (upd H2 p2 (.lst (cutV (es.map V.int) (some 1) none))) e = some (.lst (es.map V.int)) := upd_at he np2
      have hp4 : (upd H2 p2 (.lst (cutV (es.map V.int) (some 1) none))) p2 = some (.lst (es.tail.map V.int)) := by rw [upd_same, cut_tail]
      generalize (upd H2 p2 (.lst (cutV (es.map V.int) (some 1) none))) = H4 at sm4 he4 hp4 ⊢
      refine ⟨e, p2, _, _, rfl, .inl (.inl he4), .inl (.inl hp4), fun L nL => lc_it (walk_zip (xs := es.map V.int) (ys := es.tail.map V.int) (n := (segs es).length) (by unfold segs; rw [List.length_zip, List.length_map, List.length_map]))
        (fun i H' => Same H4 H' ∧ ∃ us, H' L = some (.lst us) ∧ Trs H' us (((segs es).take i).map fun s => (s.1, s.2, ((cnt cs s.1 : Nat) : Int)))) ⟨same_new nL, [], upd_same, .nil⟩ (fun i H' _ ⟨sm5, _⟩ => ⟨.inl (.inl (sm5 _ _ he4)), .inl (.inl (sm5 _ _ hp4))⟩) ?_ ?_⟩
      · rintro i x H5 H6 hi ⟨sm5, us, hL, hus⟩ ⟨T, x1, x2, rfl, nT, rfl, e1, e2⟩
        obtain ⟨⟨a1, a2⟩, hseg⟩ : ∃ s, (segs es)[i]? = some s := ⟨(segs es)[i], by simp [hi]⟩
        have hz := hseg
        unfold segs at hz
        rw [List.getElem?_zip_eq_some] at hz
        have e1 : (es.map V.int)[i]? = some x1 := e1
        have e2 : (es.tail.map V.int)[i]? = some x2 := e2
        rw [List.getElem?_map, hz.1] at e1
        rw [List.getElem?_map, hz.2] at e2
        obtain rfl := Option.some.inj e1
        obtain rfl := Option.some.inj e2
        have hul : us.length = ((segs es).take i).length := by rw [Paired.length hus, List.length_map]
        have hsl : (segs es).length ≤ es.length := by unfold segs; rw [List.length_zip]; exact Nat.min_le_left _ _
        rw [List.length_take] at hul
        have sm6 : Same H4 (upd H5 T (.tup [.int a1, .int a2])) := fun b o z => upd_at (sm5 b o z) nT
        have hL6 : (upd H5 T (.tup [.int a1, .int a2])) L = some (.lst us) := upd_at hL nT
        have hus6 := hus.keep (TK.new (o := .tup [.int a1, .int a2]) nT)
        refine ⟨T, [_, _], rfl, .inl (.inl upd_same), rfl, _, _, rfl, _, _, rfl, rfl, rfl, yes ?_⟩
        generalize (upd H5 T (.tup [.int a1, .int a2])) = H7 at sm6 hL6 hus6 ⊢
        have ha7 := sm6 _ _ (sm4 _ _ ha)
        refine ⟨_, rfl, _, rfl, _, rfl, a, rfl, ⟨ps, .inl (.inl ha7)⟩, fun L2 nL2 => loop_tup (xs := ps) (fun j H' => Same H7 H' ∧ H' L2 = some (.lst (List.replicate (cnt (cs.take j) a1) (.int 1)))) ⟨same_new nL2, upd_same⟩ (fun j H' _ ⟨sm8, _⟩ => .inl (.inl (sm8 _ _ ha7))) ?_ ?_⟩
        · rintro j x H8 hx ⟨sm8, hL8⟩
          obtain ⟨c, hc, p3, rfl, hpp⟩ := Pd.getL hp hx
          have hpp8 : SqT K H8 p3 [.int c.1, .int c.2] := .inl (.inl (sm8 _ _ (sm6 _ _ (sm4 _ _ hpp))))
          have cn : cnt (cs.take (j + 1)) a1 = cnt (cs.take j) a1 + if decide (c.1 ≤ a1) && decide (a1 < c.2) then 1 else 0 := by
            unfold cnt
            rw [take_snoc hc, List.filter_append, List.length_append]
            congr 1
            rw [List.filter_cons]
            split <;> rfl
          rw [cn]
          refine ⟨rfl, _, rfl, p3, _, 0, .int c.1, rfl, rfl, hpp8, rfl, _, rfl, _, _, rfl, rfl, _, rfl, ?_⟩
          by_cases c1 : c.1 ≤ a1
          · refine ite1 (decide_eq_true c1) ?_
            refine ⟨_, rfl, p3, _, 1, .int c.2, rfl, rfl, hpp8, rfl, _, _, rfl, rfl, _, rfl, ?_⟩
            by_cases c2 : a1 < c.2
            · refine ite1 (decide_eq_true c2) ?_
              rw [decide_eq_true c1, decide_eq_true c2]
              refine ⟨_, hL8, ?_, same_put sm8 nL2, ?_⟩
              · rw [List.length_replicate]
                have : cnt (cs.take j) a1 ≤ (cs.take j).length := List.length_filter_le _ _
                rw [List.length_take] at this
                exact smallLt (by omega)
              · rw [upd_same, ← List.replicate_succ']
                rfl
            · refine ite0 (decide_eq_false c2) ?_
              rw [decide_eq_false c2, Bool.and_false]
              exact ⟨sm8, hL8⟩
          · refine ite0 (decide_eq_false c1) ⟨_, rfl, ite0 rfl ?_⟩
            rw [decide_eq_false c1, Bool.false_and]
            exact ⟨sm8, hL8⟩
        · rintro H8 ⟨sm8, hL8⟩
          rw [hlen, List.take_length] at hL8
          refine ⟨L2, _, rfl, .inl (.inl (.inl hL8)), ?_⟩
          rw [List.length_replicate]
          refine ⟨by show 3 ≤ sizeLine; decide, fun t nt => ?_⟩
          have hL9 : (upd H8 t (.tup [.int a1, .int a2, .int (cnt cs a1 : Nat)])) L = some (.lst us) := upd_at (sm8 _ _ hL6) nt
          have k1 : TK H7 (upd H8 t (.tup [.int a1, .int a2, .int (cnt cs a1 : Nat)])) := (TK.of sm8).trans (TK.new nt)
          have k2 : TK (upd H8 t (.tup [.int a1, .int a2, .int (cnt cs a1 : Nat)])) (upd (upd H8 t (.tup [.int a1, .int a2, .int (cnt cs a1 : Nat)])) L (.lst (us ++ [.ref t]))) := TK.lst hL9
          refine ⟨us, hL9, smallLt (by omega), same_put (fun b o z => upd_at (sm8 _ _ (sm6 b o z)) nt) nL, us ++ [.ref t], upd_same, ?_⟩
          rw [take_snoc hseg, List.map_append]
          refine Pd.snoc (Trs.keep (k1.trans k2) hus6) ⟨t, rfl, k2 _ _ upd_same⟩
      · rintro H5 ⟨sm5, us, hL, hus⟩
        rw [List.take_length] at hus
        exact q H5 L us es (fun b o z => sm5 _ _ (sm4 b o z)) (fresh_of sm4 nL) hL EE hes hus
end
end Cap

set_option Elab.async false
set_option linter.all false
set_option maxRecDepth 100000
set_option maxHeartbeats 4000000
/-! twice, lost -/
namespace Cap
open PySem PySem.Spec PyProof.Rows L2 CapS
abbrev sTwice : Stmt := topS 30
abbrev sLost : Stmt := topS 31
theorem scTwice : FnScope ["cuts", "end", "cut", "one", "other", "many"] ["cuts"] (defScope sTwice) := ⟨rfl, rfl, rfl, by decide +kernel, rfl, by decide +kernel, by decide +kernel⟩
theorem scLost : FnScope ["cuts", "end", "one", "other", "many"] ["cuts", "end"] (defScope sLost) := ⟨rfl, rfl, rfl, by decide +kernel, rfl, by decide +kernel, by decide +kernel⟩
theorem segs_len (es : List Int) : (segs es).length ≤ es.length := by
  unfold segs
  rw [List.length_zip]
  exact Nat.min_le_left _ _
section
variable {P : Program} {w : World} {K : PySem.W.Frag} {mg : Str → Option Value} {base : Heap} {fW fS fC fN fF : Addr} {fdW fdS fdC fdN fdF : FuncData}
def spTwice : Sp := fun vs H Q _ => ∃ (a : Addr) (cs : List Cut), vs = [.ref a] ∧ CutsT H a cs ∧ Good cs ∧ ∀ H' p, Same H H' → H p = none → CutsT H' p (stretL ((rng 0 200).filter fun f => decide (1 < cnt cs f))) → Q (.ref p) H'
theorem ok_twice {f fI fT : Addr} {fd fdI fdT : FuncData} (F : Fun K "twice" "twice" sTwice f fd) (T : TxC K mg fW fS fC fN fF fdW fdS fdC fdN fdF) (DI : Df K mg "plain_in" sPlainIn ["cuts"] fI fdI) (DT : Df K mg "times_shown" sTimes ["cuts", "end"] fT fdT) : FnOk P w K mg base CX0 5 f fd ["cuts"] spTwice := by
  have GN : FnOk P w K mg base CX0 4 fN fdN ["thing"] spNeedCuts := T.needCuts
  have GI : FnOk P w K mg base CX0 1 fI fdI ["cuts"] spPlainL := ok_plainInL DI.fn T.B
  have GT : FnOk P w K mg base CX0 1 fT fdT ["cuts", "end"] (spTimes w) := ok_times DT.fn T.B
  refine F.ok scTwice (fun vs H Q E h => ?_) (fun cdv A outer s H vs Q E hr h => ?_)
  · obtain ⟨a, cs, rfl, _⟩ := h
    rfl
  · obtain ⟨a, cs, rfl, hc, g, q⟩ := h
    refine ⟨_, pss_cons (ps_expr (pe_df T.N GN hr pass0 (pa_cons (pv 0) pa_nil)))
      (pss_cons (ps_set (i := 1) scTwice.nd rfl (.inl rfl) (pe_callB (cr_max rfl) (by rfl) T.B.max (by decide +kernel) (pa_cons (pe_op op_cat (pe_lst (pa_cons pe_int pa_nil))
        (pe_lc (own := [("cut", 2)]) (g := gName 2) (tt := tYes) (te := tOp (rIxT K) (tVar 2) (tC (.int 1))) rfl scTwice.nd (pi_tup (pv 0)) (blkOk_by (own := [("cut", 2)]) (N := ["cuts", "end", "cut", "one", "other", "many"]) (sc := defScope sTwice) (by decide +kernel))
          (fun _ _ _ _ _ => pg_name (i := 2) scTwice.nd rfl (Or.inl rfl)) (fun _ _ _ _ _ => pts_nil) (fun _ _ _ _ _ => pe_ix ix_tup (pv 2) pe_int (fun _ _ => rfl)))) pa_nil)))
      (pss_one (ps_ret (pe_df DI GI (hr.mono (by decide)) pass0 (pa_cons
        (pe_lc (own := [("one", 3), ("other", 4), ("many", 5)]) (g := gTup K 3 (gCons (gName 3) (gCons (gName 4) (gCons (gName 5) gNil)))) (tt := tTest (tOp (rI0 fun i j => .bl (decide (j < i))) (tVar 5) (tC (.int 1)))) rfl scTwice.nd
          (pi_list (pe_df DT GT (hr.mono (by decide)) pass0 (pa_cons (pv 0) (pa_cons (pv 1) pa_nil))))
          (blkOk_by (own := [("one", 3), ("other", 4), ("many", 5)]) (N := ["cuts", "end", "cut", "one", "other", "many"]) (sc := defScope sTwice) (by decide +kernel))
          (fun _ _ _ _ _ => pg_tup rfl (pgs_cons (pg_name (i := 3) scTwice.nd rfl (Or.inl rfl)) (pgs_cons (pg_name (i := 4) scTwice.nd rfl (Or.inl rfl)) (pgs_cons (pg_name (i := 5) scTwice.nd rfl (Or.inl rfl)) pgs_nil))))
          (fun _ _ _ _ _ => pts_one (pt_cmpR op_gt (pv 5) pe_int (nomark _))) (fun _ _ _ _ _ => pe_tup (pa_cons (pv 3) (pa_cons (pv 4) pa_nil)))) pa_nil))))), ?_⟩
    refine ⟨_, rfl, a, cs, rfl, hc, g, fun H1 sm1 => ?_⟩
    obtain ⟨ps, ha, hp⟩ := hc
    have hlen : ps.length = cs.length := Paired.length hp
    have few := g.few
    refine ⟨by show 1 ≤ sizeLine; decide, fun l0 n0 => ?_⟩
    have sm2 : Same H (upd H1 l0 (.lst [.int 0])) := fun b o z => upd_at (sm1 b o z) n0
    have hl0 : (upd H1 l0 (.lst [.int 0])) l0 = some (.lst [.int 0]) := upd_same
    generalize (upd H1 l0 (.lst [.int 0])) = H2 at sm2 hl0 ⊢
    refine ⟨_, rfl, a, rfl, ⟨ps, .inl (.inl (sm2 _ _ ha))⟩, fun L nL => lc_tup (xs := ps) (fun i H' => Same H2 H' ∧ H' L = some (.lst (((cs.take i).map fun c => c.2).map V.int))) ⟨same_new nL, upd_same⟩ (fun i H' _ ⟨sm3, _⟩ => .inl (.inl (sm3 _ _ (sm2 _ _ ha)))) ?_ ?_⟩
    · rintro i x H3 hx ⟨sm3, hL⟩
      obtain ⟨c, hc, p, rfl, hpp⟩ := Pd.getL hp hx
      refine ⟨rfl, yes ?_⟩
      refine ⟨_, rfl, p, _, 1, .int c.2, rfl, rfl, .inl (.inl (sm3 _ _ (sm2 _ _ hpp))), rfl, _, hL, ?_, same_put sm3 nL, ?_⟩
      · rw [List.length_map, List.length_map, List.length_take]
        exact smallLt (by omega)
      · rw [upd_same, take_snoc hc, List.map_append, List.map_append]
        rfl
    · rintro H3 ⟨sm3, hL⟩
      rw [hlen, List.take_length] at hL
      refine ⟨l0, L, _, _, rfl, rfl, sm3 _ _ hl0, hL, ?_, fun m nm => ?_⟩
      · rw [List.length_map, List.length_map]
        show 1 + cs.length ≤ sizeLine
        exact small (by omega)
      have sm4 : Same H (upd H3 m (.lst ([.int 0] ++ (cs.map fun c => c.2).map V.int))) := fun b o z => upd_at (sm3 _ _ (sm2 b o z)) nm
      have hm4 : (upd H3 m (.lst ([.int 0] ++ (cs.map fun c => c.2).map V.int))) m = some (.lst ((0 :: cs.map fun c => c.2).map V.int)) := upd_same
      generalize (upd H3 m (.lst ([.int 0] ++ (cs.map fun c => c.2).map V.int))) = H4 at sm4 hm4 ⊢
      refine ⟨m, 0 :: cs.map fun c => c.2, rfl, .inl (.inl hm4), Nat.succ_pos _, fun n hn1 hn2 => ?_⟩
      have n0 : 0 ≤ n := hn2 0 List.mem_cons_self
      have nc : ∀ c ∈ cs, c.2 ≤ n := fun c hc => hn2 _ (List.mem_cons_of_mem _ (List.mem_map.mpr ⟨c, hc, rfl⟩))
      have n200 : n ≤ 200 := by
        rcases List.mem_cons.mp hn1 with z | z
        · omega
        · obtain ⟨c, hc, rfl⟩ := List.mem_map.mp z
          exact (g.ok c hc).2.2
      refine ⟨_, rfl, _, rfl, a, cs, n, rfl, CutsT.keep (TK.of sm4) ⟨ps, ha, hp⟩, g, fun H5 l us es sm5 nl hl ed hes hus => ?_⟩
      have hul : us.length = (segs es).length := by rw [Paired.length hus, List.length_map]
      have hsl := segs_len es
      refine ⟨l, rfl, ⟨us, .inl (.inl hl)⟩, fun R nR => lc_list (xs := us) (fun i H' => Same H5 H' ∧ ∃ rs, H' R = some (.lst rs) ∧ Prs H' rs (((segs es).take i).filter fun s => decide (1 < cnt cs s.1))) ⟨same_new nR, [], upd_same, .nil⟩ (fun i H' _ ⟨sm6, _⟩ => .inl (.inl (sm6 _ _ hl))) ?_ ?_⟩
      · rintro i x H6 hx ⟨sm6, rs, hR, hrs⟩
        obtain ⟨t, ht, p, rfl, hpp⟩ := Pd.getL hus hx
        rw [List.getElem?_map] at ht
        obtain ⟨⟨a1, a2⟩, hseg, rfl⟩ := Option.map_eq_some_iff.mp ht
        have hrl := Paired.length hrs
        have hrl2 : (((segs es).take i).filter fun s => decide (1 < cnt cs s.1)).length ≤ ((segs es).take i).length := List.length_filter_le _ _
        rw [List.length_take] at hrl2
        have stp : ((segs es).take (i + 1)).filter (fun s => decide (1 < cnt cs s.1)) = ((segs es).take i).filter (fun s => decide (1 < cnt cs s.1)) ++ if decide (1 < cnt cs a1) = true then [(a1, a2)] else [] := by
          rw [take_snoc hseg, List.filter_append, List.filter_cons]
          congr 1
        rw [stp]
        refine ⟨p, _, rfl, .inl (.inl (sm6 _ _ hpp)), rfl, _, _, rfl, _, _, rfl, _, _, rfl, rfl, rfl, ?_⟩
        refine ⟨_, rfl, _, _, rfl, rfl, _, rfl, ?_⟩
        by_cases c : 1 < cnt cs a1
        · refine ite1 (decide_eq_true (show (1 : Int) < ((cnt cs a1 : Nat) : Int) by omega)) ?_
          rw [if_pos (decide_eq_true c)]
          refine ⟨_, rfl, _, rfl, by show 2 ≤ sizeLine; decide, fun t nt => ?_⟩
          have hR2 : (upd H6 t (.tup [.int a1, .int a2])) R = some (.lst rs) := upd_at hR nt
          have k1 : TK H6 (upd H6 t (.tup [.int a1, .int a2])) := TK.new nt
          have k2 : TK (upd H6 t (.tup [.int a1, .int a2])) (upd (upd H6 t (.tup [.int a1, .int a2])) R (.lst (rs ++ [.ref t]))) := TK.lst hR2
          refine ⟨rs, hR2, smallLt (by omega), same_put (fun b o z => upd_at (sm6 b o z) nt) nR, rs ++ [.ref t], upd_same, ?_⟩
          exact Pd.snoc (Prs.keep (k1.trans k2) hrs) ⟨t, rfl, k2 _ _ upd_same⟩
        · refine ite0 (decide_eq_false (show ¬ (1 : Int) < ((cnt cs a1 : Nat) : Int) by omega)) ?_
          rw [if_neg (by rw [decide_eq_false c]; exact Bool.false_ne_true), List.append_nil]
          exact ⟨sm6, rs, hR, hrs⟩
      · rintro H6 ⟨sm6, rs, hR, hrs⟩
        rw [hul, List.take_length] at hrs
        have hrl := Paired.length hrs
        have hrl2 : ((segs es).filter fun s => decide (1 < cnt cs s.1)).length ≤ (segs es).length := List.length_filter_le _ _
        refine ⟨R, rs, _, rfl, hR, hrs, by omega, fun H7 p sm7 np h7 => ?_⟩
        have s06 : Same H H6 := fun b o z => sm6 _ _ (sm5 _ _ (sm4 b o z))
        refine q H7 p (fun b o z => sm7 _ _ (s06 b o z)) (Same.free s06 np) ?_
        rw [Edges.chosen ed n0 g.ge (fun m => decide (1 < m)), ← twice_far n0 n200 nc] at h7
        exact h7
def spLost : Sp := fun vs H Q _ => ∃ (a : Addr) (cs : List Cut) (n : Int), vs = [.ref a, .int n] ∧ CutsT H a cs ∧ Good cs ∧ 0 ≤ n ∧ n ≤ 1000000000000 ∧ ∀ H' p, Same H H' → H p = none → CutsT H' p (stretL ((rng 0 n).filter fun f => decide (cnt cs f = 0))) → Q (.ref p) H'
theorem ok_lost {f fI fT : Addr} {fd fdI fdT : FuncData} (F : Fun K "lost" "lost" sLost f fd) (T : TxC K mg fW fS fC fN fF fdW fdS fdC fdN fdF) (DI : Df K mg "plain_in" sPlainIn ["cuts"] fI fdI) (DT : Df K mg "times_shown" sTimes ["cuts", "end"] fT fdT) : FnOk P w K mg base CX0 5 f fd ["cuts", "end"] spLost := by
  have GN : FnOk P w K mg base CX0 4 fN fdN ["thing"] spNeedCuts := T.needCuts
  have GF : FnOk P w K mg base CX0 2 fF fdF ["frame"] spNeedFrame := T.needFrame
  have GI : FnOk P w K mg base CX0 1 fI fdI ["cuts"] spPlainL := ok_plainInL DI.fn T.B
  have GT : FnOk P w K mg base CX0 1 fT fdT ["cuts", "end"] (spTimes w) := ok_times DT.fn T.B
  refine F.ok scLost (fun vs H Q E h => ?_) (fun cdv A outer s H vs Q E hr h => ?_)
  · obtain ⟨a, cs, n, rfl, _⟩ := h
    rfl
  · obtain ⟨a, cs, n, rfl, hc, g, n0, n1, q⟩ := h
    refine ⟨_, pss_cons (ps_expr (pe_df T.N GN hr pass0 (pa_cons (pv 0) pa_nil)))
      (pss_cons (ps_expr (pe_df T.F GF (hr.mono (by decide)) pass0 (pa_cons (pv 1) pa_nil)))
      (pss_one (ps_ret (pe_df DI GI (hr.mono (by decide)) pass0 (pa_cons
        (pe_lc (own := [("one", 2), ("other", 3), ("many", 4)]) (g := gTup K 3 (gCons (gName 2) (gCons (gName 3) (gCons (gName 4) gNil)))) (tt := tB (tEqI (tVar 4) (tC (.int 0)))) rfl scLost.nd
          (pi_list (pe_df DT GT (hr.mono (by decide)) pass0 (pa_cons (pv 0) (pa_cons (pv 1) pa_nil))))
          (blkOk_by (own := [("one", 2), ("other", 3), ("many", 4)]) (N := ["cuts", "end", "one", "other", "many"]) (sc := defScope sLost) (by decide +kernel))
          (fun _ _ _ _ _ => pg_tup rfl (pgs_cons (pg_name (i := 2) scLost.nd rfl (Or.inl rfl)) (pgs_cons (pg_name (i := 3) scLost.nd rfl (Or.inl rfl)) (pgs_cons (pg_name (i := 4) scLost.nd rfl (Or.inl rfl)) pgs_nil))))
          (fun _ _ _ _ _ => pts_one (pt_cmp (pc_eqI (pv 4) pe_int))) (fun _ _ _ _ _ => pe_tup (pa_cons (pv 2) (pa_cons (pv 3) pa_nil)))) pa_nil))))), ?_⟩
    refine ⟨_, rfl, a, cs, rfl, hc, g, fun H4 sm4 => ?_⟩
    obtain ⟨ps, ha, hp⟩ := hc
    have few := g.few
    refine ⟨_, rfl, n, rfl, n0, n1, ?_⟩
    refine ⟨_, rfl, _, rfl, a, cs, n, rfl, CutsT.keep (TK.of sm4) ⟨ps, ha, hp⟩, g, fun H5 l us es sm5 nl hl ed hes hus => ?_⟩
    have hul : us.length = (segs es).length := by rw [Paired.length hus, List.length_map]
    have hsl := segs_len es
    refine ⟨l, rfl, ⟨us, .inl (.inl hl)⟩, fun R nR => lc_list (xs := us) (fun i H' => Same H5 H' ∧ ∃ rs, H' R = some (.lst rs) ∧ Prs H' rs (((segs es).take i).filter fun s => decide (cnt cs s.1 = 0))) ⟨same_new nR, [], upd_same, .nil⟩ (fun i H' _ ⟨sm6, _⟩ => .inl (.inl (sm6 _ _ hl))) ?_ ?_⟩
    · rintro i x H6 hx ⟨sm6, rs, hR, hrs⟩
      obtain ⟨t, ht, p, rfl, hpp⟩ := Pd.getL hus hx
      rw [List.getElem?_map] at ht
      obtain ⟨⟨a1, a2⟩, hseg, rfl⟩ := Option.map_eq_some_iff.mp ht
      have hrl := Paired.length hrs
      have hrl2 : (((segs es).take i).filter fun s => decide (cnt cs s.1 = 0)).length ≤ ((segs es).take i).length := List.length_filter_le _ _
      rw [List.length_take] at hrl2
      have stp : ((segs es).take (i + 1)).filter (fun s => decide (cnt cs s.1 = 0)) = ((segs es).take i).filter (fun s => decide (cnt cs s.1 = 0)) ++ if decide (cnt cs a1 = 0) = true then [(a1, a2)] else [] := by
        rw [take_snoc hseg, List.filter_append, List.filter_cons]
        congr 1
      rw [stp]
      refine ⟨p, _, rfl, .inl (.inl (sm6 _ _ hpp)), rfl, _, _, rfl, _, _, rfl, _, _, rfl, rfl, rfl, ?_⟩
      refine ⟨_, rfl, _, _, rfl, rfl, _, rfl, ?_⟩
      by_cases c : cnt cs a1 = 0
      · refine ite1 (decide_eq_true (show ((cnt cs a1 : Nat) : Int) = 0 by omega)) ?_
        rw [if_pos (decide_eq_true c)]
        refine ⟨_, rfl, _, rfl, by show 2 ≤ sizeLine; decide, fun t nt => ?_⟩
        have hR2 : (upd H6 t (.tup [.int a1, .int a2])) R = some (.lst rs) := upd_at hR nt
        have k1 : TK H6 (upd H6 t (.tup [.int a1, .int a2])) := TK.new nt
        have k2 : TK (upd H6 t (.tup [.int a1, .int a2])) (upd (upd H6 t (.tup [.int a1, .int a2])) R (.lst (rs ++ [.ref t]))) := TK.lst hR2
        refine ⟨rs, hR2, smallLt (by omega), same_put (fun b o z => upd_at (sm6 b o z) nt) nR, rs ++ [.ref t], upd_same, ?_⟩
        exact Pd.snoc (Prs.keep (k1.trans k2) hrs) ⟨t, rfl, k2 _ _ upd_same⟩
      · refine ite0 (decide_eq_false (show ¬ ((cnt cs a1 : Nat) : Int) = 0 by omega)) ?_
        rw [if_neg (by rw [decide_eq_false c]; exact Bool.false_ne_true), List.append_nil]
        exact ⟨sm6, rs, hR, hrs⟩
    · rintro H6 ⟨sm6, rs, hR, hrs⟩
      rw [hul, List.take_length] at hrs
      have hrl := Paired.length hrs
      have hrl2 : ((segs es).filter fun s => decide (cnt cs s.1 = 0)).length ≤ (segs es).length := List.length_filter_le _ _
      refine ⟨R, rs, _, rfl, hR, hrs, by omega, fun H7 p sm7 np h7 => ?_⟩
      have s06 : Same H H6 := fun b o z => sm6 _ _ (sm5 _ _ (sm4 b o z))
      refine q H7 p (fun b o z => sm7 _ _ (s06 b o z)) (Same.free s06 np) ?_
      rw [Edges.chosen ed n0 g.ge (fun m => decide (m = 0))] at h7
      exact h7
end
end Cap

set_option Elab.async false
set_option linter.all false
set_option maxRecDepth 100000
set_option maxHeartbeats 4000000
/-! Nothing(text): an own class over LookupError whose __init__ says super().__init__(text) -/
namespace Cap
open PySem PySem.Spec PyProof.Rows L2 PySem.W PySem.Calls
def initS : Stmt := match topS 11 with
  | .ClassDef _ _ _ b _ _ _ _ _ _ _ => b.getD 0 (.Pass ⟨0, 0, 0, 0⟩)
  | s => s
abbrev luMro : List Value := [.type "LookupError", .type "Exception", .type "BaseException", .type "object"]
/-- what the written part says of the class -/
structure NtC (P : Program) (K : Frag) (C fI : Addr) : Prop where
  ini : excInitIn K C luMro "LookupError.__new__" = true
  iC : findIn K (.ref C) "__init__" = some (some (.ref fI))
  tI : typeIn K (.ref fI) = some (.type "function")
  fn : ∃ (oc : Value) (od : Option Addr) (osl : Array (Option Value)) (kV doc pm : Value) (an : Option Addr) (ct : Value) (cda cc : Addr) (vs : Array Value) (file : Str) (tf : Tok) (ccl : Value) (cdd : Option Addr) (ccs : Array (Option Value)) (cl : Value) (cld : Option Addr) (csl : Array (Option Value)) (cdD : ClassData),
    K.lookup fI = some ⟨oc, od, .func (ksFn "__init__" "Nothing.__init__" (defArgs initS) (defBody initS) (defScope initS) .none kV doc pm an (.ref cda) ct cc), osl⟩ ∧ codeIn K (.ref cda) "Nothing.__init__" = true ∧
    K.lookup cda = some ⟨ccl, cdd, .fields vs, ccs⟩ ∧ vs[2]? = some (.str file tf) ∧ ((P.main.file : Str) == file) = true ∧ K.lookup cc = some ⟨cl, cld, .cell (some (.ref C)), csl⟩ ∧ clsIn K C = some cdD
  mr : mroIn K C (.ref C) = some true
  al : ks_superIn K C C "__init__" = some (some (.builtin "LookupError.__init__"))
  sb : subIn K (.ref C) (.type "LookupError") = some true
  opq : nsIn K cStatics "thirdparty.any" = some none
  exC : subIn K (.ref C) (.type "BaseException") = some true
  tyC : typeIn K (.ref C) = some (.type "type")
  kC : keepIn K (.ref C) = true
  top : (P.main.scope.names.lookup ("super" : Str)).isSome = false
theorem boot_super : bootBuiltins "super" = some (.type "super") := by decide +kernel
section
variable {P : Program} {w : World} {A : Around} {E : Value → Shared → Prop} {K : Frag} {C fI : Addr} {R : Result → Shared → Prop} {h : Heap} {g : Array GenState} {d : Drawn} {t : Nat} {os : OsState}
theorem mw_call {u e t0 : Addr} {rest : List Value} {Q : Value → Shared → Prop} {nm qn : Str} {N' : Addr} {bs bm : List Value} {hdct : Bool} {sn : List Str} {sub : List Value} {ab : Bool} {col : Option Bool} {dd : Option Addr} {k0 k1 k2 k3 k5 : Option Value}
    (hC : h.get? C = some (excClassObj nm qn C N' bs bm hdct sn sub ab col dd k0 k1 k2 k3 k5 "LookupError.__new__")) (he : h.get? e = some (excObj C t0 none .none)) (hu : h.get? u = some (kxs_mw "LookupError.__init__" e)) (hz : rest.length ≤ sizeLine)
    (hq : ∀ h' t1, (∀ b o, b ≠ e → h.get? b = some o → h'.get? b = some o) → h'.get? e = some (excObj C t1 none .none) → Q .none ⟨h', g, d, t, os⟩) :
    wpAny (model P w) A (call (.ref u) rest) Q E ⟨h, g, d, t, os⟩ := by
  refine wpAny_call (codeAny_of_tree ?_)
  show wpAny _ A.in1 (callAny (.ref u) ⟨rest, []⟩) _ _ _
  simp only [callAny]
  refine wpAny_bind (wpAny_load hu ?_)
  simp only [kxs_mw, show (Value.type "method-wrapper" == Value.type "method" || Value.type "method-wrapper" == Value.type "builtin_function_or_method" || Value.type "method-wrapper" == Value.type "method-wrapper") = true by decide, if_true]
  refine KFB.if_so (by decide) ?_
  refine wpAny_bind (check_bound_init F.excBase_LookupError.toExcCallFacts hC he rfl ?_)
  refine wpAny_bind (wpAny_pure (wpAny_pure ?_))
  refine ⟨plainId_quiet F.excBase_LookupError.init.plain _, codeAny_builtin F.excBase_LookupError.initEntry ?_⟩
  exact exc_init_tree (cls := .ref C) (t0 := t0) (dv := none) (c2 := .none) (c3 := .none) (b4 := .bool false) he hz (fun h' k e' _ => hq h' _ k e')
theorem init_run {mg : Str → Option Value} {e t0 : Addr} {z : Str} {tk : Tok} (T : NtC P K C fI) (X : K.In h) (glob : h.Ns mainGlobals mg) (hm : mg "super" = none) (blt : ∃ mb, h.Ns builtinsNs mb ∧ ∀ x : Str, x ≠ "__name__" → mb x = bootBuiltins x) (nolimit : h.NoLimit)
    (room : A.depth < recursionLimit) (he : h.get? e = some (excObj C t0 none .none))
    (hq : ∀ h' tk' t1, (∀ b o, b ≠ e → h.get? b = some o → h'.get? b = some o) → h'.get? e = some (excObj C t1 none .none) → R (.ok (.ret .none)) ⟨h', g, d, tk', os⟩) :
    codeAny (model P w) A (.call (.ref fI) ⟨[.ref e, .str z tk], []⟩) R ⟨h, g, d, t, os⟩ := by
  obtain ⟨oc, od, osl, kV, doc, pm, an, ct, cda, cc, vs, file, tf, ccl, cdd, ccs, cl, cld, csl, cdD, lk, hcd, lcd, hvs, hfile, lcc, hD⟩ := T.fn
  obtain ⟨nm, N', qn, bs, bm, hdct, sn, sub, ab, col, dd, k0, k1, k2, k3, k5, hC, hT⟩ := excInit_of X T.ini
  refine ks_codeAny_call_defAt (fd := ksFn "__init__" "Nothing.__init__" (defArgs initS) (defBody initS) (defScope initS) .none kV doc pm an (.ref cda) ct cc) (body := defBody initS) (binds := [("self", .ref e), ("text", .str z tk)]) room (X _ _ lk) rfl nolimit (codeRec_of X hcd) rfl
    (.of_eq (by rfl)) (show ∀ x ∈ (defScope initS).names, x.2 ≠ .cell by decide +kernel) (fun x hx => by
      rcases List.mem_cons.mp hx with q | q
      · rw [q]
        rfl
      · rw [List.mem_singleton.mp q]
        rfl) (fun h1 hn hk => ?_) rfl rfl rfl
  have X1 : K.In h1 := X.keeps hk
  have he1 := hk _ _ he
  have hC1 := hk _ _ hC
  obtain ⟨mb, hb1, hb2⟩ := blt
  refine ks_wpAt_execs_cons (ks_wpAt_Expr_any (ks_wpAt_MethodCall (ks_wpAt_super_base (cc := cda) rfl rfl rfl rfl (X1 _ _ lk) rfl rfl rfl (X1 _ _ lcd) rfl hvs hfile T.top ?_)))
  refine ks_loadName_global rfl rfl (Calls.loadGlobal_builtin (glob.keeps hk) hm (hb1.keeps hk) ((hb2 _ (by decide)).trans boot_super) ⟨rfl, ?_⟩)
  refine wpAny_loadName_free rfl rfl rfl ⟨_, X1 _ _ lcc, rfl⟩ ?_
  refine wpAny_loadName_local rfl rfl hn (by rfl) ?_
  refine ks_wpAny_isType_cls hC1 rfl ⟨rfl, ?_⟩
  refine ks_wpAny_call_super hC1 rfl he1 rfl (fun c q => by cases q) (looks_mroIn X1 T.mr) (fun h2 e2 kk2 => ?_)
  have X2 : K.In h2 := X1.keeps kk2
  have he2 := kk2 _ _ he1
  have hC2 := kk2 _ _ hC1
  have hI2 : InstAt h2 e (excObj C t0 none .none) C none := ⟨he2, rfl, rfl, trivial⟩
  have hin : Looks (model P w) h2 (isInstance (.ref e) (.type "LookupError")) true := hI2.type.andThen (looks_subIn X2 T.sb)
  have al := T.al
  unfold ks_superIn at al
  cases hcl : clsIn K C with
  | none => rw [hcl] at al; cases al
  | some cd =>
    rw [hcl] at al
    refine kxs_getMethod kxs_LookupError e2 (looks_opaque X2 T.opq) (l₀ := cd.mro) (fun A Q E s k q => wpAny_bind ((looks_clsIn X2 hcl) A _ E s k (wpAny_pure q))) rfl X2 al hin (ks_ne X2 hI2 hcl) rfl ?_
    have k3 : ∀ b o, h2.get? b = some o → (h2.push (kxs_mw "LookupError.__init__" e)).get? b = some o := fun b o q => Heap.get?_push_of_some _ q
    have hu : (h2.push (kxs_mw "LookupError.__init__" e)).get? h2.objs.size = some (kxs_mw "LookupError.__init__" e) := Heap.get?_push_size _ rfl
    have he3 := k3 _ _ he2
    have hC3 := k3 _ _ hC2
    have hk3 : ∀ b o, h.get? b = some o → (h2.push (kxs_mw "LookupError.__init__" e)).get? b = some o := fun b o q => k3 _ _ (kk2 _ _ (hk _ _ q))
    have hn3 := (hn.keeps kk2).keeps k3
    generalize (h2.push (kxs_mw "LookupError.__init__" e)) = h3 at k3 hu he3 hC3 hk3 hn3 ⊢
    generalize h2.objs.size = u at hu hn3 ⊢
    refine kxs_callWith (i := "LookupError.__init__") (x := e) rfl (evalArgs_plain (spliced_cons (wpAny_Name (wpAny_loadName_local rfl rfl hn3 (by rfl) (spliced_nil ⟨hu, ?_⟩)) (by decide))))
    show wpAny _ _ (call (.ref u) [.str z tk]) _ _ _
    refine mw_call hC3 he3 hu (by show 1 ≤ sizeLine; rw [sizeLine_eq]; omega) (fun h4 t1 k4 e4 => ?_)
    refine wpAt_of_wpAny ?_
    rw [execs_nil]
    exact wpAny_pure (hq h4 _ t1 (fun b o hb q => k4 b o hb (hk3 b o q)) e4)
end
end Cap

set_option Elab.async false
set_option linter.all false
set_option maxRecDepth 100000
set_option maxHeartbeats 4000000
/-! source -/
namespace Cap
open PySem PySem.Spec PyProof.Rows L2 CapS
abbrev sSource : Stmt := topS 25
theorem scSource : FnScope ["cuts", "frame", "here", "begin", "end"] ["cuts", "frame"] (defScope sSource) := ⟨rfl, rfl, rfl, by decide +kernel, rfl, by decide +kernel, by decide +kernel⟩
section
variable {X : Cx} {C fI : Addr} {p p2 pos : Pos} {m : Str} {j k : Nat}
/-- Nothing('m') -/
theorem pmk_nt (T : NtC X.prog X.K C fI) (hr : Room (k + 1) X.A) (hg : Gl X "Nothing") (gC : X.mg "Nothing" = some (.ref C)) (gs : X.mg "super" = none) : PMk X (.Call (.Name "Nothing" p) [.Constant (.str m) j p2] [] pos) (fun _ H Q => Q (.ref C) none H) := by
  intro pins s σ H Q I h
  refine wpAny_Call_Name_kw (ld_glob I hg gC ?_ (by decide))
  have ha : PA X [.Constant (.str m) j p2] (tCons (tC (.str m)) tNil) := pa_cons pe_str pa_nil
  refine PySem.W.callWith_K (h₀ := X.base) I.ok.mod.kin T.kC (thn (ha.run pos pins s σ H (fun vs H1 => vs = [V.str m] ∧ H = H1) I ⟨rfl, rfl⟩) fun us s1 hh => ?_)
  obtain ⟨vs, H1, I1, r1, ev, eH⟩ := hh
  subst ev
  rw [← eH] at I1
  refine ⟨I1.kIn, ?_⟩
  cases r1 with
  | cons ru rn =>
    rename_i u us'
    cases rn
    obtain ⟨tk, rfl⟩ := ru
    show wpAny _ _ (call (.ref C) [.str m tk]) _ _ _
    obtain ⟨nm, N', qn, bs, bm, hdct, sn, sub, ab, col, dd, k0, k1, k2, k3, k5, hC, hT⟩ := PySem.W.excInit_of I1.kIn T.ini
    have kIn1 := I1.kIn
    have glob1 := I1.mod.glob.keeps I1.bk
    have nl1 := I1.mod.nolimit.keeps I1.bk
    obtain ⟨mb, hb1, hb2⟩ := I1.mod.blt
    have hb1' := hb1.keeps I1.bk
    have hn : H (s1.heap.objs.size + 1) = none := I1.hok.fresh (Nat.le_succ _)
    obtain ⟨hp, g, dr, t1, os⟩ := s1
    have kk : ∀ b o, hp.get? b = some o → ((hp.push (PySem.W.kdv_tup [.str m tk])).push (PySem.HandSPX.excO C hp.objs.size)).get? b = some o := fun b o e => Heap.get?_push_of_some _ (Heap.get?_push_of_some _ e)
    have hget : ((hp.push (PySem.W.kdv_tup [.str m tk])).push (PySem.HandSPX.excO C hp.objs.size)).get? (hp.objs.size + 1) = some (PySem.HandSPX.excO C hp.objs.size) := by heap_get
    refine wpAny_call (PySem.HandSPX.call_own F.excBase_LookupError hT hC (PySem.W.looks_findIn kIn1 T.iC) (fun self => PySem.W.bind_fn kIn1 self T.tI) (by show 1 ≤ sizeLine; rw [sizeLine_eq]; omega) ?_)
    refine init_run T (kIn1.keeps kk) (glob1.keeps kk) gs ⟨mb, hb1'.keeps kk, hb2⟩ (nl1.keeps kk) (hr.make C _ []).depth hget (fun h' tk' t2 k4 e4 => ?_)
    refine ⟨rfl, ?_⟩
    have hne : hp.get? (hp.objs.size + 1) = none := by
      cases z : hp.get? (hp.objs.size + 1) with
      | none => rfl
      | some o => exact absurd (Heap.lt_size z) (Nat.not_lt.mpr (Nat.le_succ _))
    exact ⟨_, _, _, ⟨hp, g, dr, t1, os⟩, H, .ref C, none, rfl, I1, fun b o e => k4 b o (Nat.ne_of_lt (Nat.lt_succ_of_lt (Heap.lt_size e))) (kk b o e), hne, e4, ⟨rfl, rfl⟩, rfl, rfl, hn, rfl, I1.bare, raises_own T.exC T.tyC, h⟩
end
section
variable {P : Program} {w : World} {K : PySem.W.Frag} {mg : Str → Option Value} {base : Heap} {fW fS fC fN fF : Addr} {fdW fdS fdC fdN fdF : FuncData}
def spSource (CN : Addr) : Sp := fun vs H Q E => ∃ (a : Addr) (cs : List Cut) (k : Int), vs = [.ref a, .int k] ∧ CutsT H a cs ∧ Good cs ∧ 0 ≤ k ∧ k ≤ 1000000000000 ∧
  (∀ s, (srcs cs)[k.toNat]? = some s → ∀ H', Same H H' → Q (.int s) H') ∧ (total cs ≤ k → ∀ H', Same H H' → E (.ref CN) none H')
theorem ok_source {f fP CN fI : Addr} {fd fdP : FuncData} (F : Fun K "source" "source" sSource f fd) (T : TxC K mg fW fS fC fN fF fdW fdS fdC fdN fdF) (DP : Df K mg "places_of" sPlaces ["cuts"] fP fdP) (TN : NtC P K CN fI) (gN : mg "Nothing" = some (.ref CN)) (gs : mg "super" = none) :
    FnOk P w K mg base (L2.CX P w) 5 f fd ["cuts", "frame"] (spSource CN) := by
  have GN : FnOk P w K mg base CX0 4 fN fdN ["thing"] spNeedCuts := T.needCuts
  have GF : FnOk P w K mg base CX0 2 fF fdF ["frame"] spNeedFrame := T.needFrame
  have GP : FnOk P w K mg base CX0 1 fP fdP ["cuts"] spPlaces := ok_places DP.fn
  refine F.okX scSource (fun vs H Q E h => ?_) (fun cdv A outer s H vs Q E hr h => ?_)
  · obtain ⟨a, cs, k, rfl, _⟩ := h
    rfl
  · obtain ⟨a, cs, k, rfl, hc, g, h0, h1, q, qx⟩ := h
    refine ⟨_, pss_cons (ps_expr (pe_df T.N GN hr pass0 (pa_cons (pv 0) pa_nil)))
      (pss_cons (ps_expr (pe_df T.F GF (hr.mono (by decide)) pass0 (pa_cons (pv 1) pa_nil)))
      (pss_cons (ps_for (passes_of rfl) rfl (pi_list (pe_df DP GP (hr.mono (by decide)) pass0 (pa_cons (pv 0) pa_nil)))
          (pg_tup rfl (pgs_cons (pg_name (i := 2) scSource.nd rfl (.inl rfl)) (pgs_cons (pg_name (i := 3) scSource.nd rfl (.inl rfl)) (pgs_cons (pg_name (i := 4) scSource.nd rfl (.inl rfl)) pgs_nil))))
          (pss_one (ps_if (pt_chain op_le op_lt (pv 2) (pv 1) (pe_op op_sub (pe_op op_add (pv 2) (pv 4)) (pv 3)))
            (pss_one (ps_ret (pe_op op_sub (pe_op op_add (pv 3) (pv 1)) (pv 2)))) pss_nil)))
      (pss_one (ps_raise rfl (takes_of rfl rfl rfl rfl) (pmk_nt TN hr (by rfl) gN gs))))), ?_⟩
    refine ⟨_, rfl, a, cs, rfl, hc, g, fun H1 sm1 => ?_⟩
    refine ⟨_, rfl, k, rfl, h0, h1, ?_⟩
    refine ⟨_, rfl, a, cs, rfl, hc.keep (TK.of sm1), g, fun H2 l us sm2 nl hl hus => ?_⟩
    have s02 := sm1.trans sm2
    have hul : us.length = cs.length := by rw [Paired.length hus, places_len]
    refine ⟨l, rfl, ⟨us, .inl (.inl hl)⟩, for_list (xs := us) (fun i σ H' => ∃ y2 y3 y4, σ = [some (.ref a), some (.int k), y2, y3, y4] ∧ Same H2 H' ∧ total (cs.take i) ≤ k)
      ⟨none, none, none, rfl, Same.refl H2, h0⟩ (fun i σ H' _ ⟨_, _, _, _, sm3, _⟩ => .inl (.inl (sm3 _ _ hl))) ?_ ?_⟩
    · rintro i x σ H3 hx ⟨y2, y3, y4, rfl, sm3, le⟩
      obtain ⟨t, ht, p, rfl, hpp⟩ := Pd.getL hus hx
      have hi : i < cs.length := by
        rw [← hul]
        rcases Nat.lt_or_ge i us.length with z | z
        · exact z
        · rw [List.getElem?_eq_none z] at hx
          cases hx
      obtain ⟨c, hc⟩ : ∃ c, cs[i]? = some c := ⟨cs[i], by simp [hi]⟩
      have hz := places_get cs 0 i c hc
      rw [ht] at hz
      obtain rfl := Option.some.inj hz
      rw [Int.zero_add] at hpp
      refine ⟨p, _, rfl, .inl (.inl (sm3 _ _ hpp)), rfl, _, _, rfl, _, _, rfl, _, _, rfl, rfl, ?_⟩
      refine ⟨_, rfl, _, rfl, _, _, rfl, rfl, _, rfl, ite1 (decide_eq_true le) ?_⟩
      refine ⟨_, rfl, _, rfl, _, _, rfl, rfl, _, rfl, _, _, rfl, rfl, _, _, rfl, rfl, _, rfl, ?_⟩
      by_cases hk : k < total (cs.take i) + c.2 - c.1
      · refine ite1 (decide_eq_true hk) ?_
        refine ⟨_, rfl, _, rfl, _, _, rfl, rfl, _, rfl, _, _, rfl, rfl, ?_⟩
        exact q _ (src_at g.le hc le (by omega)) H3 (s02.trans sm3)
      · refine ite0 (decide_eq_false hk) ?_
        refine ⟨_, _, _, rfl, sm3, ?_⟩
        rw [take_snoc hc, total_snoc]
        omega
    · rintro σ H3 ⟨y2, y3, y4, rfl, sm3, le⟩
      rw [hul, List.take_length] at le
      exact qx le H3 (s02.trans sm3)
end
end Cap

set_option Elab.async false
set_option linter.all false
set_option maxRecDepth 100000
set_option maxHeartbeats 4000000
/-! the law's own source of numbers -/
namespace Cap
open PySem PySem.Spec PyProof.Rows L2 CapS
abbrev sBegun : Stmt := topS 33
abbrev sNext : Stmt := topS 34
abbrev sOf : Stmt := topS 35
theorem scBegun : FnScope ["_law_script", "_law_cell"] ["_law_script"] (defScope sBegun) := ⟨rfl, rfl, rfl, by decide +kernel, rfl, by decide +kernel, by decide +kernel⟩
theorem scNext : FnScope ["_law_m", "_law_total", "_law_rest", "_law_k", "_law_cell", "_law_mixed"] ["_law_m", "_law_total"] (defScope sNext) := ⟨rfl, rfl, rfl, by decide +kernel, rfl, by decide +kernel, by decide +kernel⟩
theorem scOf : FnScope ["_law_m", "_law_some"] ["_law_m", "_law_some"] (defScope sOf) := ⟨rfl, rfl, rfl, by decide +kernel, rfl, by decide +kernel, by decide +kernel⟩
theorem ix0 (n : Nat) : ixN (n + 1) 0 = some 0 := by
  unfold ixN
  rw [if_pos (by decide), if_pos (by omega)]
  rfl
theorem at0 {α : Type} (x : α) (xs : List α) : atI (x :: xs) 0 = some x := by
  unfold atI
  rw [List.length_cons, ix0]
  rfl
def MD (lc ll : Addr) (k : Int) : HO := .dK [(.inr "cells", .ref lc), (.inr "left", .ref ll), (.inr "spot", .int k)]
theorem MD.cells {H : Hp} {m lc l : Addr} {k : Int} (h : H m = some (MD lc l k)) : DGet H m (.str "cells") (some (.ref lc)) := DGet.k (k := .inr "cells") h
theorem MD.left {H : Hp} {m lc l : Addr} {k : Int} (h : H m = some (MD lc l k)) : DGet H m (.str "left") (some (.ref l)) := DGet.k (k := .inr "left") h
theorem MD.spot {H : Hp} {m lc l : Addr} {k : Int} (h : H m = some (MD lc l k)) : DGet H m (.str "spot") (some (.int k)) := DGet.k (k := .inr "spot") h
theorem MD.putLeft {H : Hp} {m lc l p : Addr} {k : Int} (h : H m = some (MD lc l k)) : DPut H m (.str "left") (.ref p) (upd H m (MD lc p k)) := DPut.k (k := .inr "left") h (smallLt (by show 3 ≤ 100000; decide))
theorem MD.putSpot {H : Hp} {m lc l : Addr} {k j : Int} (h : H m = some (MD lc l k)) : DPut H m (.str "spot") (.int j) (upd H m (MD lc l j)) := DPut.k (k := .inr "spot") h (smallLt (by show 3 ≤ 100000; decide))
/-- the source at m: its left list at l, no more than n numbers drawn -/
structure MAt (H : Hp) (m l : Addr) (n : Int) : Prop where
  ex : ∃ (lc : Addr) (zs ys : List Int) (k : Int), H m = some (MD lc l k) ∧ H lc = some (.lst (zs.map .int)) ∧ H l = some (.lst (ys.map .int)) ∧ lc ≠ l ∧ zs.length ≤ 63 ∧ ys.length ≤ 63 ∧ 0 ≤ k ∧ k ≤ n
/-- all that's told stays, but for the source's own -/
structure Nx (m l l' : Addr) (H H' : Hp) : Prop where
  keep : ∀ b o, H b = some o → b ≠ m → b ≠ l → H' b = some o
  new : l' = l ∨ H l' = none
  up : ∀ b, H' b = none → H b = none
  cel : ∀ lc k, H m = some (MD lc l k) → ∃ k', H' m = some (MD lc l' k')
theorem MD.inj {lc lc' l l' : Addr} {k k' : Int} (h : (some (MD lc l k) : Option HO) = some (MD lc' l' k')) : lc = lc' ∧ l = l' ∧ k = k' := by
  have z := Option.some.inj h
  unfold MD at z
  have z2 := HO.dK.inj z
  simp at z2
  exact z2
theorem Nx.of {m l : Addr} {H H' : Hp} (s : Same H H') : Nx m l l H H' := ⟨fun b o e _ _ => s b o e, .inl rfl, fun b n => Same.free s n, fun lc k e => ⟨k, s _ _ e⟩⟩
theorem Nx.trans {m l l1 l2 : Addr} {H H1 H2 : Hp} (a : Nx m l l1 H H1) (b : Nx m l1 l2 H1 H2) : Nx m l l2 H H2 := by
  refine ⟨fun c o e h1 h2 => b.keep c o (a.keep c o e h1 h2) h1 ?_, ?_, fun c n => a.up c (b.up c n), fun lc k e => ?_⟩
  · rcases a.new with z | z
    · rw [z]; exact h2
    · exact ne_of_none e z
  · rcases b.new with z | z
    · rw [z]; exact a.new
    · exact .inr (a.up _ z)
  · obtain ⟨k1, e1⟩ := a.cel lc k e
    exact b.cel lc k1 e1
theorem MAt.same {H H' : Hp} {m l : Addr} {n : Int} (s : Same H H') (h : MAt H m l n) : MAt H' m l n := by
  obtain ⟨lc, zs, ys, k, h1, h2, h3, r⟩ := h.ex
  exact ⟨lc, zs, ys, k, s _ _ h1, s _ _ h2, s _ _ h3, r⟩
theorem MAt.mono {H : Hp} {m l : Addr} {n n' : Int} (h : MAt H m l n) (le : n ≤ n') : MAt H m l n' := by
  obtain ⟨lc, zs, ys, k, h1, h2, h3, h4, h5, h6, h7, h8⟩ := h.ex
  exact ⟨lc, zs, ys, k, h1, h2, h3, h4, h5, h6, h7, Int.le_trans h8 le⟩
/-- tuples stay -/
theorem Nx.tk {m l l' : Addr} {H H' : Hp} {n : Int} (h : MAt H m l n) (x : Nx m l l' H H') : TK H H' := fun b xs e => by
  obtain ⟨lc, zs, ys, k, h1, h2, h3, _⟩ := h.ex
  exact x.keep b _ e (fun z => by rw [z, h1] at e; cases e) (fun z => by rw [z, h3] at e; cases e)
/-- what stands apart of the source -/
theorem Nx.apart {m l l' b : Addr} {H H' : Hp} {o : HO} (x : Nx m l l' H H') (e : H b = some o) (h1 : b ≠ m) (h2 : b ≠ l) : H' b = some o ∧ b ≠ l' := by
  refine ⟨x.keep b o e h1 h2, ?_⟩
  rcases x.new with z | z
  · rw [z]; exact h2
  · exact ne_of_none e z
theorem MAt.ne_m {H : Hp} {m l b : Addr} {n : Int} (h : MAt H m l n) (e : H b = none) : b ≠ m ∧ b ≠ l := by
  obtain ⟨lc, zs, ys, k, h1, h2, h3, _⟩ := h.ex
  exact ⟨fun z => (by rw [z, h1] at e; cases e), fun z => (by rw [z, h3] at e; cases e)⟩
theorem MAt.ne_lst {H : Hp} {m l b : Addr} {n : Int} {xs : List V} (h : MAt H m l n) (e : H b = some (.lst xs)) : b ≠ m := by
  obtain ⟨lc, zs, ys, k, h1, h2, h3, _⟩ := h.ex
  exact fun z => by rw [z, h1] at e; cases e
/-- a list of one's own is written -/
theorem MAt.write {H : Hp} {m l b : Addr} {n : Int} {o : HO} (h : MAt H m l n) (hb : b ≠ m) (hl : b ≠ l) (hc : ∀ lc k, H m = some (MD lc l k) → b ≠ lc) : MAt (upd H b o) m l n := by
  obtain ⟨lc, zs, ys, k, h1, h2, h3, r⟩ := h.ex
  exact ⟨lc, zs, ys, k, by rw [upd_ne hb.symm]; exact h1, by rw [upd_ne (hc lc k h1).symm]; exact h2, by rw [upd_ne hl.symm]; exact h3, r⟩
/-- apart of the source -/
structure Ap (H : Hp) (m l b : Addr) : Prop where
  nm : b ≠ m
  nl : b ≠ l
  nc : ∀ lc k, H m = some (MD lc l k) → b ≠ lc
theorem Ap.fresh {H : Hp} {m l b : Addr} {n : Int} {o : HO} (h : MAt H m l n) (e : H b = none) : Ap (upd H b o) m l b := by
  obtain ⟨a1, a2⟩ := h.ne_m e
  obtain ⟨lc, zs, ys, k, h1, h2, h3, r⟩ := h.ex
  refine ⟨a1, a2, fun lc' k' q => ?_⟩
  rw [upd_ne a1.symm, h1] at q
  obtain ⟨rfl, _⟩ := MD.inj q
  exact (ne_of_none h2 e).symm
theorem Ap.step {H H' : Hp} {m l l' b : Addr} {n : Int} {o : HO} (h : MAt H m l n) (x : Nx m l l' H H') (e : H b = some o) (a : Ap H m l b) : H' b = some o ∧ Ap H' m l' b := by
  obtain ⟨z1, z2⟩ := x.apart e a.nm a.nl
  obtain ⟨lc, zs, ys, k, h1, h2, h3, r⟩ := h.ex
  obtain ⟨k1, e1⟩ := x.cel lc k h1
  refine ⟨z1, a.nm, z2, fun lc' k' q => ?_⟩
  rw [e1] at q
  obtain ⟨rfl, _⟩ := MD.inj q
  exact a.nc _ _ h1
theorem Ap.same {H H' : Hp} {m l b : Addr} {n : Int} (h : MAt H m l n) (s : Same H H') (a : Ap H m l b) : Ap H' m l b := by
  obtain ⟨lc, zs, ys, k, h1, h2, h3, r⟩ := h.ex
  refine ⟨a.nm, a.nl, fun lc' k' q => ?_⟩
  rw [s _ _ h1] at q
  obtain ⟨rfl, _⟩ := MD.inj q
  exact a.nc _ _ h1
/-- a list of one's own is written -/
theorem Ap.write {H : Hp} {m l b : Addr} {n : Int} {o : HO} (h : MAt H m l n) (a : Ap H m l b) : MAt (upd H b o) m l n ∧ Ap (upd H b o) m l b := by
  refine ⟨h.write a.nm a.nl a.nc, a.nm, a.nl, fun lc k q => ?_⟩
  rw [upd_ne a.nm.symm] at q
  exact a.nc _ _ q
/-- .. which is new since H0 -/
theorem Nx.write {H0 H : Hp} {m l0 l b : Addr} {o : HO} (x : Nx m l0 l H0 H) (n : H0 b = none) (hm : b ≠ m) : Nx m l0 l H0 (upd H b o) := by
  refine ⟨fun c u e h1 h2 => by rw [upd_ne (ne_of_none e n)]; exact x.keep c u e h1 h2, x.new, fun c q => x.up c ?_, fun lc k e => ?_⟩
  · by_cases z : c = b
    · rw [z, upd_same] at q
      cases q
    · rw [upd_ne z] at q
      exact q
  · rw [upd_ne hm.symm]
    exact x.cel lc k e
theorem neNil_ints (ns : List Int) : (!PyData.eqv (.list (ns.map PyData.int)) (.list [])) = decide (ns ≠ []) := by
  have e : PyData.eqv (.list (ns.map PyData.int)) (.list []) = decide (ns = []) := eqv_ints ns []
  rw [e]
  by_cases h : ns = [] <;> simp [h]
theorem SqL_keep {K : PySem.W.Frag} {H H' : Hp} {a : Addr} {xs : List V} (s : Same H H') (h : SqL K H a xs) : SqL K H' a xs := by
  rcases h with (h | ⟨o, h⟩) | h
  · exact .inl (.inl (s _ _ h))
  · exact .inl (.inr ⟨o, s _ _ h⟩)
  · exact .inr h
section
variable {P : Program} {w : World} {K : PySem.W.Frag} {mg : Str → Option Value} {base : Heap}
def spBegun (K : PySem.W.Frag) : Sp := fun vs H Q _ => ∃ (a : Addr) (ns : List Int), vs = [.ref a] ∧ SqL K H a (ns.map V.int) ∧ ns.length ≤ 63 ∧ ∀ H' m l, Same H H' → H m = none → MAt H' m l 0 → Q (.ref m) H'
theorem ok_begun {f : Addr} {fd : FuncData} (F : Fun K "_law_begun" "_law_begun" sBegun f fd) (B : Blt mg) : FnOk P w K mg base CX0 1 f fd ["_law_script"] (spBegun K) := by
  refine F.ok scBegun (fun vs H Q E h => ?_) (fun cdv A outer s H vs Q E hr h => ?_)
  · obtain ⟨a, ns, rfl, _⟩ := h
    rfl
  · obtain ⟨a, ns, rfl, ha, hn, q⟩ := h
    refine ⟨_, pss_one (ps_ret (pe_disp (pps_cons pe_str (pe_callTy call_list_of (by rfl) B.list (by decide +kernel) (pa_cons (pv 0) pa_nil)) (pps_cons pe_str
        (pe_lc (own := [("_law_cell", 1)]) (g := gName 1) (tt := tTest (tOp (rI0 fun i j => .bl (decide (j ≤ i))) (tVar 1) (tOp (rI CPow fun i j => .int (i ^ j.toNat)) (tC (.int 10)) (tC (.int 18))))) rfl scBegun.nd (pi_list (pv 0)) (blkOk_by (own := [("_law_cell", 1)]) (N := ["_law_script", "_law_cell"]) (sc := defScope sBegun) (by decide +kernel))
          (fun _ _ _ _ _ => pg_name (i := 1) scBegun.nd rfl (Or.inl rfl)) (fun _ _ _ _ _ => pts_one (pt_cmpR op_ge (pv 1) (pe_op op_pow pe_int pe_int) (nomark _))) (fun _ _ _ _ _ => pv 1))
        (pps_cons pe_str pe_int pps_nil))) (by rfl) (by rfl) (by decide) (by decide))), ?_⟩
    refine fun m nm => ⟨_, rfl, a, _, rfl, .inl (SqL_keep (same_new nm) ha), fun lc nlc => ?_⟩
    have s1 : Same H (upd (upd H m (.dK [])) lc (.lst (ns.map V.int))) := same_put (same_new nm) (Same.free (same_new nm) nlc)
    have hm1 : (upd (upd H m (.dK [])) lc (.lst (ns.map V.int))) m = some (.dK []) := upd_at upd_same nlc
    have hc1 : (upd (upd H m (.dK [])) lc (.lst (ns.map V.int))) lc = some (.lst (ns.map V.int)) := upd_same
    generalize (upd (upd H m (.dK [])) lc (.lst (ns.map V.int))) = H1 at s1 hm1 hc1 ⊢
    refine ⟨_, rfl, a, rfl, ⟨_, SqL_keep s1 ha⟩, fun l nl => lc_list (xs := ns.map V.int) (fun i H' => Same H1 H' ∧ ∃ ys : List Int, ys.length ≤ i ∧ H' l = some (.lst (ys.map V.int))) ⟨same_new nl, [], Nat.le_refl _, upd_same⟩ (fun i H' _ ⟨s2, _⟩ => SqL_keep (fun b o e => s2 _ _ (s1 b o e)) ha) ?_ ?_⟩
    · rintro i x H2 hx ⟨s2, ys, hy, hl⟩
      rw [List.getElem?_map] at hx
      obtain ⟨z, hz, rfl⟩ := Option.map_eq_some_iff.mp hx
      have hi : i < ns.length := by
        rcases Nat.lt_or_ge i ns.length with z | z
        · exact z
        · rw [List.getElem?_eq_none z] at hz
          cases hz
      refine ⟨rfl, _, rfl, 10, 18, rfl, rfl, ⟨by decide, by decide, by decide⟩, _, _, rfl, rfl, _, rfl, ?_⟩
      by_cases c : (10 : Int) ^ (18 : Int).toNat ≤ z
      · refine ite1 (decide_eq_true c) ?_
        refine ⟨_, rfl, _, hl, ?_, same_put s2 nl, ys ++ [z], ?_, ?_⟩
        · rw [List.length_map]
          exact smallLt (by omega)
        · rw [List.length_append, List.length_singleton]
          omega
        · rw [upd_same, List.map_append]
          rfl
      · refine ite0 (decide_eq_false c) ?_
        exact ⟨s2, ys, by omega, hl⟩
    · rintro H2 ⟨s2, ys, hy, hl⟩
      rw [List.length_map] at hy
      refine ⟨s2 _ _ hm1, [(.inr "cells", .ref lc), (.inr "left", .ref l), (.inr "spot", .int 0)], rfl, by show 3 ≤ 15; decide, ?_⟩
      have nlc2 : lc ≠ l := ne_of_none hc1 nl
      have nml : m ≠ l := ne_of_none hm1 nl
      have nmlc : m ≠ lc := fun z => by rw [z, hc1] at hm1; cases hm1
      refine q _ m l (fun b o e => ?_) nm ⟨lc, ns, ys, 0, upd_same, ?_, ?_, nlc2, hn, by omega, Int.le_refl _, Int.le_refl _⟩
      · rw [upd_ne (ne_of_none e nm)]
        exact s2 _ _ (s1 b o e)
      · rw [upd_ne nmlc.symm]
        exact s2 _ _ hc1
      · rw [upd_ne nml.symm]
        exact hl
def spNext : Sp := fun vs H Q _ => ∃ (m l : Addr) (n t : Int), vs = [.ref m, .int t] ∧ MAt H m l n ∧ n < 1000000 ∧ 0 < t ∧ t ≤ 100000 ∧ ∀ H' l' r, MAt H' m l' (n + 1) → Nx m l l' H H' → 0 ≤ r → r < t → Q (.int r) H'
theorem ok_next {f : Addr} {fd : FuncData} (F : Fun K "_law_next" "_law_next" sNext f fd) (B : Blt mg) : FnOk P w K mg base CX0 1 f fd ["_law_m", "_law_total"] spNext := by
  refine F.ok scNext (fun vs H Q E h => ?_) (fun cdv A outer s H vs Q E hr h => ?_)
  · obtain ⟨m, l, n, t, rfl, _⟩ := h
    rfl
  · obtain ⟨m, l, n, t, rfl, hM, hn, ht, ht2, q⟩ := h
    have hu : A.units + 3 + 64 < cLine := hr.units
    have hu1 : A.units + 3 + 1 < cLine := by omega
    refine ⟨_, pss_cons (ps_while PassesOwn.never (PW.pt (pw_and (pt_cmpR (op_neD hr.units) (pe_dget hu1 (pv 0) pe_str (fun _ _ => rfl)) (pe_lst pa_nil) (nomark _))
          (pw_and1 (pt_cmp (pc_eqI (pe_ix ix_list (pe_dget hu1 (pv 0) pe_str (fun _ _ => rfl)) pe_int (fun _ _ => rfl)) pe_int)))))
        (pss_one (ps_dput hu1 (pv 0) pe_str (pe_slice sl_list (pe_dget hu1 (pv 0) pe_str (fun _ _ => rfl)) (po_some pe_int) po_none) (by rfl))))
      (pss_cons (ps_if (pt_cmpR (op_neD hr.units) (pe_dget hu1 (pv 0) pe_str (fun _ _ => rfl)) (pe_lst pa_nil) (nomark _))
        (pss_cons (ps_set (i := 2) scNext.nd rfl (.inl rfl) (pe_callTy call_int1 (by rfl) B.int (by decide +kernel) (pa_cons (pe_ix ix_list (pe_dget hu1 (pv 0) pe_str (fun _ _ => rfl)) pe_int (fun _ _ => rfl)) pa_nil)))
          (pss_cons (ps_asg (pe_op op_fdiv (pv 2) (pv 1)) (pg_sub (pe_dget hu1 (pv 0) pe_str (fun _ _ => rfl)) pe_int set_list))
            (pss_one (ps_ret (pe_op op_mod (pv 2) (pv 1)))))) pss_nil)
      (pss_cons (ps_set (i := 3) scNext.nd rfl (.inl rfl) (pe_op op_add (pe_dget hu1 (pv 0) pe_str (fun _ _ => rfl)) pe_int))
      (pss_cons (ps_dput hu1 (pv 0) pe_str (pv 3) (by rfl))
      (pss_cons (ps_set (i := 4) scNext.nd rfl (.inl rfl) (pe_ifExp (pt_cmpR (op_neD hr.units) (pe_dget hu1 (pv 0) pe_str (fun _ _ => rfl)) (pe_lst pa_nil) (nomark _))
          (pe_ix ix_list (pe_dget hu1 (pv 0) pe_str (fun _ _ => rfl)) (pe_op op_mod (pe_callTy call_int1 (by rfl) B.int (by decide +kernel) (pa_cons (pv 3) pa_nil)) (pe_callB call_len_seq (by rfl) B.len PySem.boot_len (pa_cons (pe_dget hu1 (pv 0) pe_str (fun _ _ => rfl)) pa_nil))) (fun _ _ => rfl)) pe_int))
      (pss_cons (ps_set (i := 5) scNext.nd rfl (.inl rfl) (pe_op op_mul (pe_callTy call_int1 (by rfl) B.int (by decide +kernel) (pa_cons (pe_op op_add (pe_op op_add (pe_op op_mod (pe_callTy call_int1 (by rfl) B.int (by decide +kernel) (pa_cons (pv 4) pa_nil)) pe_int) (pe_op op_mul pe_int (pv 3))) (pe_op op_mul (pe_op op_mul pe_int (pv 3)) (pv 3))) pa_nil)) pe_int))
      (pss_cons (ps_set (i := 5) scNext.nd rfl (.inl rfl) (pe_op op_mul (pe_callTy call_int1 (by rfl) B.int (by decide +kernel) (pa_cons (pe_op op_add (pe_op op_mod (pe_callTy call_int1 (by rfl) B.int (by decide +kernel) (pa_cons (pv 5) pa_nil)) pe_int) (pe_op op_mul pe_int (pv 3))) pa_nil)) pe_int))
      (pss_one (ps_ret (pe_op op_mod (pe_callTy call_int1 (by rfl) B.int (by decide +kernel) (pa_cons (pe_op op_fdiv (pe_op op_mod (pe_callTy call_int1 (by rfl) B.int (by decide +kernel) (pa_cons (pv 5) pa_nil)) pe_int) pe_int) pa_nil)) (pv 1)))))))))), ?_⟩
    obtain ⟨lc, zs, ys, k, h1, h2, h3, hcl, hz, hy, k0, kn⟩ := hM.ex
    refine ⟨fun me σ H1 => ∃ l1 ys1, σ = [some (.ref m), some (.int t), none, none, none, none] ∧ me = ys1.length ∧ Nx m l l1 H H1 ∧ H1 m = some (MD lc l1 k) ∧ H1 lc = some (.lst (zs.map V.int)) ∧ H1 l1 = some (.lst (ys1.map V.int)) ∧ lc ≠ l1 ∧ ys1.length ≤ 63,
      ⟨ys.length, l, ys, rfl, rfl, Nx.of (Same.refl H), h1, h2, h3, hcl, hy⟩, ?_⟩
    rintro me σ H1 ⟨l1, ys1, rfl, rfl, x1, e1, e2, e3, ne1, hy1⟩
    have lne : l1 ≠ m := fun z => by rw [z, e1] at e3; cases e3
    have cne : lc ≠ m := fun z => by rw [z, e1] at e2; cases e2
    refine ⟨_, rfl, m, _, rfl, MD.left e1, Nat.zero_le _, fun o no => ?_⟩
    have x2 : Nx m l l1 H (upd H1 o (.lst [])) := x1.trans (Nx.of (same_new no))
    have f1 : (upd H1 o (.lst [])) m = some (MD lc l1 k) := upd_at e1 no
    have f2 : (upd H1 o (.lst [])) lc = some (.lst (zs.map V.int)) := upd_at e2 no
    have f3 : (upd H1 o (.lst [])) l1 = some (.lst (ys1.map V.int)) := upd_at e3 no
    refine ⟨.list (ys1.map PyData.int), .list [], .lst (.inl (.inl f3)) (dp_ints ys1), .lst (.inl (.inl upd_same)) .nil, sh_ints _, sh_nilL, _, rfl, ?_⟩
    rw [neNil_ints]
    generalize (upd H1 o (.lst [])) = H2 at x2 f1 f2 f3 ⊢
    cases ys1 with
    | nil =>
      refine ite0 (decide_eq_false fun z => z rfl) (iteF ?_)
      refine ⟨_, rfl, m, _, rfl, MD.left f1, Nat.zero_le _, fun o2 no2 => ?_⟩
      have x3 : Nx m l l1 H (upd H2 o2 (.lst [])) := x2.trans (Nx.of (same_new no2))
      have g1 : (upd H2 o2 (.lst [])) m = some (MD lc l1 k) := upd_at f1 no2
      have g2 : (upd H2 o2 (.lst [])) lc = some (.lst (zs.map V.int)) := upd_at f2 no2
      have g3 : (upd H2 o2 (.lst [])) l1 = some (.lst (([] : List Int).map V.int)) := upd_at f3 no2
      refine ⟨.list (([] : List Int).map PyData.int), .list [], .lst (.inl (.inl g3)) (dp_ints []), .lst (.inl (.inl upd_same)) .nil, sh_ints _, sh_nilL, _, rfl, ?_⟩
      rw [neNil_ints]
      generalize (upd H2 o2 (.lst [])) = H3 at x3 g1 g2 g3 ⊢
      refine ite0 (decide_eq_false fun z => z rfl) ?_
      -- the spot
      refine ⟨_, rfl, m, _, rfl, MD.spot g1, _, _, rfl, rfl, ?_⟩
      refine ⟨_, rfl, _, rfl, m, _, rfl, MD.putSpot g1, ?_⟩
      have p1 : (upd H3 m (MD lc l1 (k + 1))) m = some (MD lc l1 (k + 1)) := upd_same
      have p2 : (upd H3 m (MD lc l1 (k + 1))) lc = some (.lst (zs.map V.int)) := by rw [upd_ne cne]; exact g2
      have p3 : (upd H3 m (MD lc l1 (k + 1))) l1 = some (.lst (([] : List Int).map V.int)) := by rw [upd_ne lne]; exact g3
      have x4 : Nx m l l1 H (upd H3 m (MD lc l1 (k + 1))) := ⟨fun b o e hm hl => by rw [upd_ne hm]; exact x3.keep b o e hm hl, x3.new, fun b nb => x3.up b (by
        by_cases z : b = m
        · rw [z, upd_same] at nb
          cases nb
        · rw [upd_ne z] at nb
          exact nb), fun lc' k' e => by
        obtain ⟨rfl, _⟩ := MD.inj (h1.symm.trans e)
        exact ⟨_, upd_same⟩⟩
      generalize (upd H3 m (MD lc l1 (k + 1))) = H4 at x4 p1 p2 p3 ⊢
      refine ⟨_, rfl, m, _, rfl, MD.cells p1, Nat.zero_le _, fun o3 no3 => ?_⟩
      have x5 : Nx m l l1 H (upd H4 o3 (.lst [])) := x4.trans (Nx.of (same_new no3))
      have r1 : (upd H4 o3 (.lst [])) m = some (MD lc l1 (k + 1)) := upd_at p1 no3
      have r2 : (upd H4 o3 (.lst [])) lc = some (.lst (zs.map V.int)) := upd_at p2 no3
      have r3 : (upd H4 o3 (.lst [])) l1 = some (.lst (([] : List Int).map V.int)) := upd_at p3 no3
      refine ⟨.list (zs.map PyData.int), .list [], .lst (.inl (.inl r2)) (dp_ints zs), .lst (.inl (.inl upd_same)) .nil, sh_ints _, sh_nilL, _, rfl, ?_⟩
      rw [neNil_ints]
      generalize (upd H4 o3 (.lst [])) = H5 at x5 r1 r2 r3 ⊢
      have fin : MAt H5 m l1 (n + 1) := ⟨lc, zs, [], k + 1, r1, r2, r3, ne1, hz, hy1, by omega, by omega⟩
      have q' := q H5 l1
      have kk : 0 ≤ k + 1 ∧ k + 1 ≤ 1000000 := by omega
      by_cases ez : zs = []
      · refine ite0 (decide_eq_false fun z => z ez) ?_
        refine ⟨_, rfl, .inl ⟨_, rfl, _, _, rfl, rfl, (by decide : (0 : Int) < 2147483563), _, rfl, _, _, rfl, rfl, .inl ⟨by decide, by decide⟩, _, _, rfl, rfl, _, rfl, _, _, rfl, rfl, .inl ⟨by decide, by decide⟩, _, rfl, _, _, rfl, rfl, .inr ⟨by omega, by omega⟩, _, _, rfl, rfl, .inl ⟨_, rfl, _, _, rfl, rfl, .inr ⟨by decide, by decide⟩, ?_⟩⟩⟩
        refine ⟨_, rfl, .inl ⟨_, rfl, _, _, rfl, rfl, (by decide : (0 : Int) < 2147483563), _, rfl, _, _, rfl, rfl, .inl ⟨by decide, by decide⟩, _, _, rfl, rfl, .inl ⟨_, rfl, _, _, rfl, rfl, .inr ⟨by decide, by decide⟩, ?_⟩⟩⟩
        refine ⟨_, rfl, .inl ⟨_, rfl, _, _, rfl, rfl, (by decide : (0 : Int) < 2147483549), _, _, rfl, rfl, ⟨by decide, by decide⟩, .inl ⟨_, rfl, _, rfl, _, _, rfl, rfl, ht, ?_⟩⟩⟩
        exact q' _ fin x5 (Int.emod_nonneg _ (by omega)) (Int.emod_lt_of_pos _ ht)
      · refine ite1 (decide_eq_true ez) ?_
        have hpos : (0 : Int) < ((zs.map V.int).length : Int) := by
          rw [List.length_map]
          have := List.length_pos_iff.mpr ez
          omega
        obtain ⟨c, hc⟩ : ∃ c : Int, atI (zs.map V.int) ((k + 1) % ((zs.map V.int).length : Int)) = some (.int c) := by
          have a0 := Int.emod_nonneg (k + 1) (show ((zs.map V.int).length : Int) ≠ 0 by omega)
          have a1 := Int.emod_lt_of_pos (k + 1) hpos
          have a2 : ((k + 1) % ((zs.map V.int).length : Int)).toNat < zs.length := by
            rw [List.length_map] at a0 a1 ⊢
            omega
          refine ⟨zs[((k + 1) % ((zs.map V.int).length : Int)).toNat], ?_⟩
          unfold atI ixN
          rw [if_pos a0, if_pos a1]
          show (zs.map V.int)[((k + 1) % ((zs.map V.int).length : Int)).toNat]? = _
          rw [List.getElem?_map, List.getElem?_eq_getElem a2]
          rfl
        refine ⟨_, rfl, m, _, rfl, MD.cells r1, _, rfl, .inl ⟨_, rfl, _, rfl, m, _, rfl, MD.cells r1, lc, _, rfl, .inl (.inl (.inl r2)), _, _, rfl, rfl, hpos, lc, _, _, _, rfl, rfl, .inl (.inl r2), hc, ?_⟩⟩
        refine ⟨_, rfl, .inl ⟨_, rfl, _, _, rfl, rfl, (by decide : (0 : Int) < 2147483563), _, rfl, _, _, rfl, rfl, .inl ⟨by decide, by decide⟩, _, _, rfl, rfl, _, rfl, _, _, rfl, rfl, .inl ⟨by decide, by decide⟩, _, rfl, _, _, rfl, rfl, .inr ⟨by omega, by omega⟩, _, _, rfl, rfl, .inl ⟨_, rfl, _, _, rfl, rfl, .inr ⟨by decide, by decide⟩, ?_⟩⟩⟩
        refine ⟨_, rfl, .inl ⟨_, rfl, _, _, rfl, rfl, (by decide : (0 : Int) < 2147483563), _, rfl, _, _, rfl, rfl, .inl ⟨by decide, by decide⟩, _, _, rfl, rfl, .inl ⟨_, rfl, _, _, rfl, rfl, .inr ⟨by decide, by decide⟩, ?_⟩⟩⟩
        refine ⟨_, rfl, .inl ⟨_, rfl, _, _, rfl, rfl, (by decide : (0 : Int) < 2147483549), _, _, rfl, rfl, ⟨by decide, by decide⟩, .inl ⟨_, rfl, _, rfl, _, _, rfl, rfl, ht, ?_⟩⟩⟩
        exact q' _ fin x5 (Int.emod_nonneg _ (by omega)) (Int.emod_lt_of_pos _ ht)
    | cons y r =>
      refine ite1 (decide_eq_true fun z => by cases z) ?_
      refine ⟨_, rfl, m, _, rfl, MD.left f1, l1, _, 0, .int y, rfl, rfl, .inl (.inl f3), at0 _ _, _, _, rfl, rfl, _, rfl, ?_⟩
      by_cases c : y = 0
      · refine ite1 (decide_eq_true c) ?_
        refine ⟨fun σ' H' => ∃ (l1 : Addr) (ys1 : List Int), σ' = [some (.ref m), some (.int t), none, none, none, none] ∧ r.length = ys1.length ∧ Nx m l l1 H H' ∧ H' m = some (MD lc l1 k) ∧ H' lc = some (.lst (zs.map V.int)) ∧ H' l1 = some (.lst (ys1.map V.int)) ∧ lc ≠ l1 ∧ ys1.length ≤ 63,
          fun σ' H' z => ⟨r.length, Nat.lt_succ_self _, z⟩, ?_⟩
        refine ⟨_, rfl, m, _, rfl, MD.left f1, 1, rfl, l1, _, rfl, .inl (.inl f3), fun p np => ?_⟩
        have w1 : (upd H2 p (.lst (cutV ((y :: r).map V.int) (some 1) none))) m = some (MD lc l1 k) := upd_at f1 np
        have w3 : (upd H2 p (.lst (cutV ((y :: r).map V.int) (some 1) none))) p = some (.lst (r.map V.int)) := by rw [upd_same, cut_tail]; rfl
        have w2 : (upd H2 p (.lst (cutV ((y :: r).map V.int) (some 1) none))) lc = some (.lst (zs.map V.int)) := upd_at f2 np
        have x3 : Nx m l l1 H (upd H2 p (.lst (cutV ((y :: r).map V.int) (some 1) none))) := x2.trans (Nx.of (same_new np))
        have np0 : H p = none := x2.up p np
        have pne : lc ≠ p := ne_of_none f2 np
        generalize (upd H2 p (.lst (cutV ((y :: r).map V.int) (some 1) none))) = H3 at x3 w1 w2 w3 ⊢
        have pm : p ≠ m := fun z => by rw [z, w1] at w3; cases w3
        refine ⟨_, rfl, m, _, rfl, MD.putLeft w1, p, r, rfl, rfl, ⟨fun b o e hm hl => by rw [upd_ne hm]; exact x3.keep b o e hm hl, .inr np0, fun b nb => x3.up b (by
          by_cases z : b = m
          · rw [z, upd_same] at nb
            cases nb
          · rw [upd_ne z] at nb
            exact nb), fun lc' k' e => by
          obtain ⟨rfl, _⟩ := MD.inj (h1.symm.trans e)
          exact ⟨_, upd_same⟩⟩, upd_same, by rw [upd_ne cne]; exact w2, by rw [upd_ne pm]; exact w3, pne, by rw [List.length_cons] at hy1; omega⟩
      · refine ite0 (decide_eq_false c) ?_
        refine ⟨_, rfl, m, _, rfl, MD.left f1, Nat.zero_le _, fun o2 no2 => ?_⟩
        have x3 : Nx m l l1 H (upd H2 o2 (.lst [])) := x2.trans (Nx.of (same_new no2))
        have g1 : (upd H2 o2 (.lst [])) m = some (MD lc l1 k) := upd_at f1 no2
        have g2 : (upd H2 o2 (.lst [])) lc = some (.lst (zs.map V.int)) := upd_at f2 no2
        have g3 : (upd H2 o2 (.lst [])) l1 = some (.lst ((y :: r).map V.int)) := upd_at f3 no2
        refine ⟨.list ((y :: r).map PyData.int), .list [], .lst (.inl (.inl g3)) (dp_ints (y :: r)), .lst (.inl (.inl upd_same)) .nil, sh_ints _, sh_nilL, _, rfl, ?_⟩
        rw [neNil_ints]
        generalize (upd H2 o2 (.lst [])) = H3 at x3 g1 g2 g3 ⊢
        refine ite1 (decide_eq_true fun z => by cases z) ?_
        refine ⟨_, rfl, m, _, rfl, MD.left g1, l1, _, 0, .int y, rfl, rfl, .inl (.inl g3), at0 _ _, .inl ⟨y, rfl, ?_⟩⟩
        refine ⟨_, rfl, _, rfl, _, _, rfl, rfl, ⟨ht, by omega⟩, _, rfl, m, _, rfl, MD.left g1, l1, _, 0, 0, rfl, rfl, g3, ix0 _, ?_⟩
        refine ⟨_, rfl, _, rfl, _, _, rfl, rfl, ht, ?_⟩
        have e3' : (upd H3 l1 (.lst (((y :: r).map V.int).set 0 (.int (y / t))))) l1 = some (.lst (((y / t) :: r).map V.int)) := upd_same
        refine q _ l1 _ ⟨lc, zs, (y / t) :: r, k, by rw [upd_ne lne.symm]; exact g1, by rw [upd_ne ne1]; exact g2, e3', ne1, hz, hy1, k0, by omega⟩ ⟨fun b o e hm hl => ?_, x3.new, fun b nb => x3.up b ?_, fun lc' k' e => by
          obtain ⟨rfl, _⟩ := MD.inj (h1.symm.trans e)
          exact ⟨_, by rw [upd_ne lne.symm]; exact g1⟩⟩ (Int.emod_nonneg _ (by omega)) (Int.emod_lt_of_pos _ ht)
        · have := (x3.apart e hm hl).2
          rw [upd_ne this]
          exact x3.keep b o e hm hl
        · by_cases z : b = l1
          · rw [z, upd_same] at nb
            cases nb
          · rw [upd_ne z] at nb
            exact nb
end
end Cap

set_option Elab.async false
set_option linter.all false
set_option maxRecDepth 100000
set_option maxHeartbeats 4000000
/-! the law's cuts and frames -/
namespace Cap
open PySem PySem.Spec PyProof.Rows L2 CapS
abbrev sCuts : Stmt := topS 38
abbrev sSources : Stmt := topS 39
abbrev sStretches : Stmt := topS 40
theorem scCuts : FnScope ["_law_m", "_law_most", "_law_far", "_law_found", "_law_k", "_law_here"] ["_law_m", "_law_most", "_law_far"] (defScope sCuts) := ⟨rfl, rfl, rfl, by decide +kernel, rfl, by decide +kernel, by decide +kernel⟩
theorem scSources : FnScope ["_law_cuts_here", "_law_found", "_law_here", "_law_there"] ["_law_cuts_here"] (defScope sSources) := ⟨rfl, rfl, rfl, by decide +kernel, rfl, by decide +kernel, by decide +kernel⟩
theorem scStretches : FnScope ["_law_frames", "_law_found", "_law_frame"] ["_law_frames"] (defScope sStretches) := ⟨rfl, rfl, rfl, by decide +kernel, rfl, by decide +kernel, by decide +kernel⟩
structure Fd (m l0 : Addr) (H0 : Hp) (f : Addr) (us : List V) (cs : List Cut) (n : Int) (l : Addr) (H : Hp) : Prop where
  M : MAt H m l n
  X : Nx m l0 l H0 H
  F : H f = some (.lst us)
  A : Ap H m l f
  P : Prs H us cs
  N : H0 f = none
section
variable {m l0 l l' f b : Addr} {H0 H H' : Hp} {us us' : List V} {cs cs' : List Cut} {n n' : Int} {o : HO}
theorem Fd.next (a : Fd m l0 H0 f us cs n l H) (M' : MAt H' m l' n') (x : Nx m l l' H H') : Fd m l0 H0 f us cs n' l' H' := by
  obtain ⟨e, A'⟩ := a.A.step a.M x a.F
  exact ⟨M', a.X.trans x, e, A', a.P.keep (x.tk a.M), a.N⟩
theorem Fd.new (a : Fd m l0 H0 f us cs n l H) (nb : H b = none) : Fd m l0 H0 f us cs n l (upd H b o) :=
  ⟨a.M.same (same_new nb), a.X.trans (Nx.of (same_new nb)), upd_at a.F nb, a.A.same a.M (same_new nb), a.P.keep (TK.new nb), a.N⟩
theorem Fd.put (a : Fd m l0 H0 f us cs n l H) (p : Prs (upd H f (.lst us')) us' cs') : Fd m l0 H0 f us' cs' n l (upd H f (.lst us')) := by
  obtain ⟨M', A'⟩ := a.A.write (o := .lst us') a.M
  exact ⟨M', a.X.write a.N a.A.nm, upd_same, A', p, a.N⟩
theorem Fd.mono (a : Fd m l0 H0 f us cs n l H) (h : n ≤ n') : Fd m l0 H0 f us cs n' l H := ⟨a.M.mono h, a.X, a.F, a.A, a.P, a.N⟩
end
section
variable {P : Program} {w : World} {K : PySem.W.Frag} {mg : Str → Option Value} {base : Heap}
def spOf : Sp := fun vs H Q _ => ∃ (m l a : Addr) (n : Int) (xs : List Int), vs = [.ref m, .ref a] ∧ MAt H m l n ∧ n < 1000000 ∧ H a = some (.lst (xs.map V.int)) ∧ a ≠ m ∧ a ≠ l ∧ 0 < xs.length ∧ xs.length ≤ 1000 ∧
  ∀ H' l' x, MAt H' m l' (n + 1) → Nx m l l' H H' → x ∈ xs → Q (.int x) H'
theorem ok_of {f fN : Addr} {fd fdN : FuncData} (F : Fun K "_law_of" "_law_of" sOf f fd) (B : Blt mg) (DN : Df K mg "_law_next" sNext ["_law_m", "_law_total"] fN fdN) : FnOk P w K mg base CX0 2 f fd ["_law_m", "_law_some"] spOf := by
  have GN : FnOk P w K mg base CX0 1 fN fdN ["_law_m", "_law_total"] spNext := ok_next DN.fn B
  refine F.ok scOf (fun vs H Q E h => ?_) (fun cdv A outer s H vs Q E hr h => ?_)
  · obtain ⟨m, l, a, n, xs, rfl, _⟩ := h
    rfl
  · obtain ⟨m, l, a, n, xs, rfl, hM, hn, ha, am, al, x0, x1, q⟩ := h
    refine ⟨_, pss_one (ps_ret (pe_ix ix_list (pv 1) (pe_df DN GN hr pass0 (pa_cons (pv 0) (pa_cons (pe_callB call_len_seq (by rfl) B.len PySem.boot_len (pa_cons (pv 1) pa_nil)) pa_nil))) (fun _ _ => rfl))), ?_⟩
    refine ⟨_, rfl, _, rfl, _, rfl, a, _, rfl, .inl (.inl (.inl ha)), m, l, n, _, rfl, hM, hn, by rw [List.length_map]; omega, by rw [List.length_map]; omega, fun H' l' r hM' x r0 r1 => ?_⟩
    rw [List.length_map] at r1
    have ha' := (x.apart ha am al).1
    have hr2 : r.toNat < xs.length := by omega
    refine ⟨a, _, r, .int xs[r.toNat], rfl, rfl, .inl (.inl ha'), ?_, q H' l' _ hM' x (List.getElem_mem _)⟩
    unfold atI ixN
    rw [if_pos r0, List.length_map, if_pos r1]
    show (xs.map V.int)[r.toNat]? = _
    rw [List.getElem?_map, List.getElem?_eq_getElem hr2]
    rfl
def spCuts : Sp := fun vs H Q _ => ∃ (m l : Addr) (n most far : Int), vs = [.ref m, .int most, .int far] ∧ MAt H m l n ∧ n < 900000 ∧ 0 ≤ most ∧ most ≤ 8 ∧ 0 < far ∧ far ≤ 20 ∧
  ∀ H' l' p cs, MAt H' m l' (n + 40) → Nx m l l' H H' → CutsT H' p cs → cs.length ≤ 8 → (∀ c ∈ cs, 0 ≤ c.1 ∧ c.1 < c.2 ∧ c.2 ≤ 100) → Q (.ref p) H'
theorem ok_cuts {f fN fO : Addr} {fd fdN fdO : FuncData} (F : Fun K "_law_cuts" "_law_cuts" sCuts f fd) (B : Blt mg) (DN : Df K mg "_law_next" sNext ["_law_m", "_law_total"] fN fdN) (DO : Df K mg "_law_of" sOf ["_law_m", "_law_some"] fO fdO) :
    FnOk P w K mg base CX0 3 f fd ["_law_m", "_law_most", "_law_far"] spCuts := by
  have GN : FnOk P w K mg base CX0 1 fN fdN ["_law_m", "_law_total"] spNext := ok_next DN.fn B
  have GO : FnOk P w K mg base CX0 2 fO fdO ["_law_m", "_law_some"] spOf := ok_of DO.fn B DN
  refine F.ok scCuts (fun vs H Q E h => ?_) (fun cdv A outer s H vs Q E hr h => ?_)
  · obtain ⟨m, l, n, most, far, rfl, _⟩ := h
    rfl
  · obtain ⟨m, l, n, most, far, rfl, hM, hn, m0, m1, f0, f1, q⟩ := h
    have hr1 := hr.mono (show 1 ≤ 2 by decide)
    refine ⟨_, pss_cons (ps_set (i := 3) scCuts.nd rfl (.inl rfl) (pe_lst pa_nil))
      (pss_cons (ps_for PassesOwn.never rfl (pi_range1 (by rfl) B.range (pa_cons (pe_df DN GN hr1 pass0 (pa_cons (pv 0) (pa_cons (pe_op op_add (pv 1) pe_int) pa_nil))) pa_nil)) (pg_name (i := 4) scCuts.nd rfl (.inl rfl))
        (pss_cons (ps_set (i := 5) scCuts.nd rfl (.inl rfl) (pe_df DN GN hr1 pass0 (pa_cons (pv 0) (pa_cons (pv 2) pa_nil))))
        (pss_cons (ps_if (PW.pt (pw_and (pt_cmpR (op_neD hr.units) (pv 3) (pe_lst pa_nil) (nomark _)) (pw_and1 (pt_cmp (pc_eqI (pe_df DN GN hr1 pass0 (pa_cons (pv 0) (pa_cons pe_int pa_nil))) pe_int)))))
            (pss_one (ps_set (i := 5) scCuts.nd rfl (.inl rfl) (pe_ix ix_tup (pe_ix ix_list (pv 3) (pe_un un_neg pe_int) (fun _ _ => rfl)) pe_int (fun _ _ => rfl)))) pss_nil)
        (pss_one (ps_expr (pe_bm PySem.F.plainAttrs_list PySem.F.slot_list_append PySem.F.type_list_append mt_append (pv 3) (pa_cons (pe_tup (pa_cons (pv 5) (pa_cons (pe_op op_add (pe_op op_add (pv 5) pe_int)
            (pe_df DN GN hr1 pass0 (pa_cons (pv 0) (pa_cons (pe_df DO GO hr pass0 (pa_cons (pv 0) (pa_cons (pe_lst (pa_cons pe_int (pa_cons pe_int (pa_cons pe_int pa_nil)))) pa_nil))) pa_nil)))) pa_nil))) pa_nil)))))))
      (pss_one (ps_ret (pe_callTy call_tuple_of (by rfl) B.tuple (by decide +kernel) (pa_cons (pv 3) pa_nil))))), ?_⟩
    refine ⟨Nat.zero_le _, fun fo nf => ?_⟩
    have a0 : Fd m l H fo [] [] n l (upd H fo (.lst [])) := ⟨hM.same (same_new nf), Nx.of (same_new nf), upd_same, Ap.fresh hM nf, .nil, nf⟩
    refine ⟨_, rfl, _, rfl, _, _, rfl, rfl, m, l, n, most + 1, rfl, a0.M, by omega, by omega, by omega, fun H1 l1 r M1 x1 r0 r1 => ?_⟩
    have a1 := a0.next M1 x1
    refine ⟨r, rfl, by omega, by omega, ?_⟩
    refine for_range (lo := 0) (n := r.toNat) (fun i σ H' => ∃ y4 y5 us cs l', σ = [some (.ref m), some (.int most), some (.int far), some (.ref fo), y4, y5] ∧ Fd m l H fo us cs (n + 1 + 4 * (i : Nat)) l' H' ∧ cs.length = i ∧ ∀ c ∈ cs, 0 ≤ c.1 ∧ c.1 < c.2 ∧ c.2 ≤ far + 8 * (i : Nat))
      ⟨none, none, [], [], l1, rfl, a1.mono (by omega), rfl, fun c hc => by cases hc⟩ ?_ ?_
    · rintro i σ H2 hi ⟨y4, y5, us, cs, l2, rfl, a2, hlen, hb⟩
      have hi8 : (i : Int) < 9 := by omega
      have hul : us.length = cs.length := Paired.length a2.P
      refine ⟨_, rfl, _, rfl, m, l2, _, far, rfl, a2.M, by omega, by omega, by omega, fun H3 l3 h M3 x3 h0 h1 => ?_⟩
      have a3 := a2.next M3 x3
      refine ⟨_, rfl, Nat.zero_le _, fun o no => ?_⟩
      have a4 := a3.new (o := .lst []) no
      refine ⟨.list (cs.map dP), .list [], .lst (.inl (.inl a4.F)) (dp_prs a4.P), .lst (.inl (.inl upd_same)) .nil, sh_list _, sh_nilL, _, rfl, ?_⟩
      rw [neNil_pairs]
      generalize (upd H3 o (.lst [])) = H4 at a4 ⊢
      by_cases ec : cs = []
      · refine ite0 (decide_eq_false fun z => z ec) (iteF ?_)
        refine ⟨_, rfl, .inl ⟨rfl, _, .inl (.inl a4.F)⟩, _, rfl, _, rfl, _, _, rfl, rfl, _, rfl, _, rfl, by show 3 ≤ sizeLine; decide, fun t2 nt2 => ?_⟩
        have b1 := a4.new (o := .lst [.int 1, .int 3, .int 8]) nt2
        have b1t := a4.M.ne_m nt2
        refine ⟨m, _, t2, _, [1, 3, 8], rfl, b1.M, by omega, upd_same, b1t.1, b1t.2, by decide, by decide, fun H6 l6 x M6 x6 hx => ?_⟩
        have b2 := b1.next M6 x6
        have hx8 : 0 < x ∧ x ≤ 8 := by
          rcases List.mem_cons.mp hx with z | z
          · omega
          · rcases List.mem_cons.mp z with z | z
            · omega
            · have := List.mem_singleton.mp z
              omega
        refine ⟨m, l6, _, x, rfl, M6, by omega, hx8.1, by omega, fun H7 l7 e M7 x7 e0 e1 => ?_⟩
        have b3 := b2.next M7 x7
        refine ⟨_, _, rfl, rfl, by show 2 ≤ sizeLine; decide, fun t nt => ?_⟩
        have b4 := b3.new (o := .tup [.int h, .int (h + 1 + e)]) nt
        refine ⟨fo, us, .ref t, rfl, rfl, b4.F, smallLt (by omega), ?_⟩
        have k1 : TK H7 (upd H7 t (.tup [.int h, .int (h + 1 + e)])) := TK.new nt
        have k2 : TK (upd H7 t (.tup [.int h, .int (h + 1 + e)])) (upd (upd H7 t (.tup [.int h, .int (h + 1 + e)])) fo (.lst (us ++ [.ref t]))) := TK.lst b4.F
        refine ⟨_, _, us ++ [.ref t], cs ++ [(h, h + 1 + e)], l7, rfl, (b4.put (Pd.snoc (Prs.keep k2 b4.P) ⟨t, rfl, k2 _ _ upd_same⟩)).mono (by omega), by rw [List.length_append, List.length_singleton]; omega, fun c hc => ?_⟩
        rcases List.mem_append.mp hc with hc | hc
        · have z := hb c hc
          exact ⟨z.1, z.2.1, by omega⟩
        · rw [List.mem_singleton.mp hc]
          exact ⟨h0, show h < h + 1 + e by omega, show h + 1 + e ≤ far + 8 * ((i + 1 : Nat) : Int) by have := h1; omega⟩
      · refine ite1 (decide_eq_true ec) ?_
        refine ⟨_, rfl, m, l3, _, 4, rfl, a4.M, by omega, by decide, by decide, fun H5 l5 r4 M5 x5 _ _ => ?_⟩
        have a5 := a4.next M5 x5
        refine ⟨_, _, rfl, rfl, _, rfl, ?_⟩
        by_cases c4 : r4 = 0
        · refine ite1 (decide_eq_true c4) ?_
          obtain ⟨cs0, z, rfl⟩ := (list_cases cs).resolve_left ec
          obtain ⟨us0, y, rfl, _, p, rfl, hpz⟩ := Pd.last a5.P
          have hz := hb z (List.mem_append_right _ List.mem_cons_self)
          refine ⟨_, rfl, 1, rfl, fo, _, -1, .ref p, rfl, rfl, .inl (.inl a5.F), atI_last us0 (.ref p), p, _, 1, .int z.2, rfl, rfl, .inl (.inl hpz), rfl, ?_⟩
          refine ⟨_, rfl, .inl ⟨rfl, _, .inl (.inl a5.F)⟩, _, rfl, _, rfl, _, _, rfl, rfl, _, rfl, _, rfl, by show 3 ≤ sizeLine; decide, fun t2 nt2 => ?_⟩
          have b1 := a5.new (o := .lst [.int 1, .int 3, .int 8]) nt2
          have b1t := a5.M.ne_m nt2
          refine ⟨m, _, t2, _, [1, 3, 8], rfl, b1.M, by omega, upd_same, b1t.1, b1t.2, by decide, by decide, fun H6 l6 x M6 x6 hx => ?_⟩
          have b2 := b1.next M6 x6
          have hx8 : 0 < x ∧ x ≤ 8 := by
            rcases List.mem_cons.mp hx with z | z
            · omega
            · rcases List.mem_cons.mp z with z | z
              · omega
              · have := List.mem_singleton.mp z
                omega
          refine ⟨m, l6, _, x, rfl, M6, by omega, hx8.1, by omega, fun H7 l7 e M7 x7 e0 e1 => ?_⟩
          have b3 := b2.next M7 x7
          refine ⟨_, _, rfl, rfl, by show 2 ≤ sizeLine; decide, fun t nt => ?_⟩
          have b4 := b3.new (o := .tup [.int z.2, .int (z.2 + 1 + e)]) nt
          refine ⟨fo, us0 ++ [.ref p], .ref t, rfl, rfl, b4.F, smallLt (by omega), ?_⟩
          have k1 : TK H7 (upd H7 t (.tup [.int z.2, .int (z.2 + 1 + e)])) := TK.new nt
          have k2 : TK (upd H7 t (.tup [.int z.2, .int (z.2 + 1 + e)])) (upd (upd H7 t (.tup [.int z.2, .int (z.2 + 1 + e)])) fo (.lst ((us0 ++ [.ref p]) ++ [.ref t]))) := TK.lst b4.F
          refine ⟨_, _, (us0 ++ [.ref p]) ++ [.ref t], (cs0 ++ [z]) ++ [(z.2, z.2 + 1 + e)], l7, rfl, (b4.put (Pd.snoc (Prs.keep k2 b4.P) ⟨t, rfl, k2 _ _ upd_same⟩)).mono (by omega), by rw [List.length_append, List.length_singleton]; omega, fun c hc => ?_⟩
          rcases List.mem_append.mp hc with hc | hc
          · have z := hb c hc
            exact ⟨z.1, z.2.1, by omega⟩
          · rw [List.mem_singleton.mp hc]
            exact ⟨show 0 ≤ z.2 by omega, show z.2 < z.2 + 1 + e by omega, show z.2 + 1 + e ≤ far + 8 * ((i + 1 : Nat) : Int) by have := hz.2.2; omega⟩
        · refine ite0 (decide_eq_false c4) ?_
          refine ⟨_, rfl, .inl ⟨rfl, _, .inl (.inl a5.F)⟩, _, rfl, _, rfl, _, _, rfl, rfl, _, rfl, _, rfl, by show 3 ≤ sizeLine; decide, fun t2 nt2 => ?_⟩
          have b1 := a5.new (o := .lst [.int 1, .int 3, .int 8]) nt2
          have b1t := a5.M.ne_m nt2
          refine ⟨m, _, t2, _, [1, 3, 8], rfl, b1.M, by omega, upd_same, b1t.1, b1t.2, by decide, by decide, fun H6 l6 x M6 x6 hx => ?_⟩
          have b2 := b1.next M6 x6
          have hx8 : 0 < x ∧ x ≤ 8 := by
            rcases List.mem_cons.mp hx with z | z
            · omega
            · rcases List.mem_cons.mp z with z | z
              · omega
              · have := List.mem_singleton.mp z
                omega
          refine ⟨m, l6, _, x, rfl, M6, by omega, hx8.1, by omega, fun H7 l7 e M7 x7 e0 e1 => ?_⟩
          have b3 := b2.next M7 x7
          refine ⟨_, _, rfl, rfl, by show 2 ≤ sizeLine; decide, fun t nt => ?_⟩
          have b4 := b3.new (o := .tup [.int h, .int (h + 1 + e)]) nt
          refine ⟨fo, us, .ref t, rfl, rfl, b4.F, smallLt (by omega), ?_⟩
          have k1 : TK H7 (upd H7 t (.tup [.int h, .int (h + 1 + e)])) := TK.new nt
          have k2 : TK (upd H7 t (.tup [.int h, .int (h + 1 + e)])) (upd (upd H7 t (.tup [.int h, .int (h + 1 + e)])) fo (.lst (us ++ [.ref t]))) := TK.lst b4.F
          refine ⟨_, _, us ++ [.ref t], cs ++ [(h, h + 1 + e)], l7, rfl, (b4.put (Pd.snoc (Prs.keep k2 b4.P) ⟨t, rfl, k2 _ _ upd_same⟩)).mono (by omega), by rw [List.length_append, List.length_singleton]; omega, fun c hc => ?_⟩
          rcases List.mem_append.mp hc with hc | hc
          · have z := hb c hc
            exact ⟨z.1, z.2.1, by omega⟩
          · rw [List.mem_singleton.mp hc]
            exact ⟨h0, show h < h + 1 + e by omega, show h + 1 + e ≤ far + 8 * ((i + 1 : Nat) : Int) by have := h1; omega⟩
    · rintro σ H2 ⟨y4, y5, us, cs, l2, rfl, a2, hlen, hb⟩
      have hr8 : (r.toNat : Int) ≤ 8 := by omega
      refine ⟨_, rfl, fo, us, rfl, .inl ⟨.inl (.inl a2.F), fun t nt => ?_⟩⟩
      have a3 := a2.new (o := .tup us) nt
      exact q _ l2 t cs (a3.M.mono (by omega)) a3.X ⟨us, upd_same, a3.P⟩ (by omega) fun c hc => ⟨(hb c hc).1, (hb c hc).2.1, by have := (hb c hc).2.2; omega⟩
end
end Cap

set_option Elab.async false
set_option linter.all false
set_option maxRecDepth 100000
set_option maxHeartbeats 4000000
/-! the frames of cuts, and their stretches -/
namespace Cap
open PySem PySem.Spec PyProof.Rows L2 CapS
theorem srcs_len {cs : List Cut} (h : ∀ c ∈ cs, c.1 ≤ c.2) : ((srcs cs).length : Int) = total cs := by
  induction cs with
  | nil => rfl
  | cons c r ih =>
    have e : srcs (c :: r) = rng c.1 c.2 ++ srcs r := rfl
    have := ih fun d hd => h d (List.mem_cons_of_mem _ hd)
    have hc := h c List.mem_cons_self
    rw [e, List.length_append, rng_len, total_cons]
    omega
section
variable {P : Program} {w : World} {K : PySem.W.Frag} {mg : Str → Option Value} {base : Heap}
def spSources : Sp := fun vs H Q _ => ∃ (a : Addr) (cs : List Cut), vs = [.ref a] ∧ CutsT H a cs ∧ Good cs ∧ ∀ H' f, Same H H' → H f = none → H' f = some (.lst ((srcs cs).map V.int)) → Q (.ref f) H'
theorem ok_sources {f : Addr} {fd : FuncData} (F : Fun K "_law_sources" "_law_sources" sSources f fd) (B : Blt mg) : FnOk P w K mg base CX0 1 f fd ["_law_cuts_here"] spSources := by
  refine F.ok scSources (fun vs H Q E h => ?_) (fun cdv A outer s H vs Q E hr h => ?_)
  · obtain ⟨a, cs, rfl, _⟩ := h
    rfl
  · obtain ⟨a, cs, rfl, ⟨ps, ha, hp⟩, g, q⟩ := h
    have hlen : ps.length = cs.length := Paired.length hp
    have few := g.few
    refine ⟨_, pss_cons (ps_set (i := 1) scSources.nd rfl (.inl rfl) (pe_lst pa_nil))
      (pss_cons (ps_for PassesOwn.never rfl (pi_tup (pv 0)) (pg_tup rfl (pgs_cons (pg_name (i := 2) scSources.nd rfl (.inl rfl)) (pgs_cons (pg_name (i := 3) scSources.nd rfl (.inl rfl)) pgs_nil)))
        (pss_one (ps_set (i := 1) scSources.nd rfl (.inl rfl) (pe_op op_cat (pv 1) (pe_listRg rfl (by rfl) B.list (prg_2 (by rfl) B.range (pv 2) (pv 3)))))))
      (pss_one (ps_ret (pv 1)))), ?_⟩
    refine ⟨Nat.zero_le _, fun l nl => ?_⟩
    refine ⟨_, rfl, a, rfl, ⟨ps, .inl (.inl (upd_at ha nl))⟩, for_tup (xs := ps) (fun i σ H' => ∃ y2 y3 f, σ = [some (.ref a), some (.ref f), y2, y3] ∧ Same H H' ∧ H f = none ∧ H' f = some (.lst ((srcs (cs.take i)).map V.int)))
      ⟨none, none, l, rfl, same_new nl, nl, upd_same⟩ (fun i σ H' _ ⟨_, _, _, _, sm, _⟩ => .inl (.inl (sm _ _ ha))) ?_ ?_⟩
    · rintro i x σ H1 hx ⟨y2, y3, f, rfl, sm, nf, hf⟩
      obtain ⟨c, hc, p, rfl, hpp⟩ := Pd.getL hp hx
      have gc := g.ok c (List.mem_of_getElem? hc)
      have gt := g.takeT i
      have gl : ((srcs (cs.take i)).length : Int) = total (cs.take i) := srcs_len fun d hd => g.le d (List.mem_of_mem_take hd)
      refine ⟨p, _, rfl, .inl (.inl (sm _ _ hpp)), rfl, _, _, rfl, _, _, rfl, rfl, ?_⟩
      refine ⟨_, rfl, _, rfl, _, rfl, c.1, c.2, rfl, rfl, RgOk.of_le gc.1 (by omega) (by omega) (by omega), fun r nr => ?_⟩
      have e : rgV c.1 c.2 = (rng c.1 c.2).map V.int := by unfold rgV rng; rw [List.map_map]; rfl
      refine ⟨f, r, _, _, rfl, rfl, upd_at hf nr, upd_same, ?_, fun t nt => ?_⟩
      · rw [rgV_length, List.length_map]
        exact small (by omega)
      · refine ⟨_, _, t, rfl, fun b o e => upd_at (upd_at (sm b o e) nr) nt, Same.free (fun b o e => upd_at (sm b o e) nr) nt, ?_⟩
        rw [upd_same, take_snoc hc, srcs_app, srcs_one, List.map_append, e]
    · rintro σ H' ⟨y2, y3, f, rfl, sm, nf, hf⟩
      rw [hlen, List.take_length] at hf
      exact ⟨_, rfl, q H' f sm nf hf⟩
def spStretches (K : PySem.W.Frag) : Sp := fun vs H Q _ => ∃ (a : Addr) (fs : List Int), vs = [.ref a] ∧ SqL K H a (fs.map V.int) ∧ fs.length ≤ 5000 ∧ ∀ H' p, Same H H' → H p = none → CutsT H' p (stretL fs) → Q (.ref p) H'
theorem ok_stretches {f : Addr} {fd : FuncData} (F : Fun K "_law_stretches" "_law_stretches" sStretches f fd) (B : Blt mg) : FnOk P w K mg base CX0 1 f fd ["_law_frames"] (spStretches K) := by
  refine F.ok scStretches (fun vs H Q E h => ?_) (fun cdv A outer s H vs Q E hr h => ?_)
  · obtain ⟨a, fs, rfl, _⟩ := h
    rfl
  · obtain ⟨a, fs, rfl, ha, few, q⟩ := h
    have hlen : (fs.map V.int).length = (fs.map fun f => ((f, f + 1) : Cut)).length := by rw [List.length_map, List.length_map]
    have few2 : (fs.map fun f => ((f, f + 1) : Cut)).length ≤ 5000 := by rw [List.length_map]; exact few
    unfold stretL at q
    refine ⟨_, pss_cons (ps_set (i := 1) scStretches.nd rfl (.inl rfl) (pe_lst pa_nil))
      (pss_cons (ps_for PassesOwn.never rfl (pi_list (pv 0)) (pg_name (i := 2) scStretches.nd rfl (.inl rfl))
        (pss_one (ps_if (PW.pt (pw_and (pt_cmpR (op_neD hr.units) (pv 1) (pe_lst pa_nil) (nomark _))
            (pw_and1 (pt_cmpR op_eq (pe_ix ix_tup (pe_ix ix_list (pv 1) (pe_un un_neg pe_int) (fun _ _ => rfl)) pe_int (fun _ _ => rfl)) (pv 2) (nomark _)))))
          (pss_one (ps_asg (pe_tup (pa_cons (pe_ix ix_tup (pe_ix ix_list (pv 1) (pe_un un_neg pe_int) (fun _ _ => rfl)) pe_int (fun _ _ => rfl)) (pa_cons (pe_op op_add (pv 2) pe_int) pa_nil))) (pg_sub (pv 1) (pe_un un_neg pe_int) set_list)))
          (pss_one (ps_expr (pe_bm PySem.F.plainAttrs_list PySem.F.slot_list_append PySem.F.type_list_append mt_append (pv 1) (pa_cons (pe_tup (pa_cons (pv 2) (pa_cons (pe_op op_add (pv 2) pe_int) pa_nil))) pa_nil)))))))
      (pss_one (ps_ret (pe_callTy call_tuple_of (by rfl) B.tuple (by decide +kernel) (pa_cons (pv 1) pa_nil))))), ?_⟩
    refine ⟨Nat.zero_le _, fun l nl => ?_⟩
    refine ⟨_, rfl, a, rfl, ⟨_, SqL_keep (same_new nl) ha⟩, for_list (xs := fs.map V.int) (fun i σ H' => ∃ y2 us, σ = [some (.ref a), some (.ref l), y2] ∧ Same H H' ∧ H' l = some (.lst us) ∧ Prs H' us (plainL ((fs.map fun f => ((f, f + 1) : Cut)).take i)))
      ⟨none, [], rfl, same_new nl, upd_same, .nil⟩ (fun i σ H' _ ⟨_, _, _, sm, _⟩ => SqL_keep sm ha) ?_ ?_⟩
    · rintro i x σ H1 hx ⟨y2, us, rfl, sm, hl, hu⟩
      rw [List.getElem?_map] at hx
      obtain ⟨f, hf, rfl⟩ := Option.map_eq_some_iff.mp hx
      have hc : (fs.map fun f => ((f, f + 1) : Cut))[i]? = some (f, f + 1) := by rw [List.getElem?_map, hf]; rfl
      generalize (fs.map fun f => ((f, f + 1) : Cut)) = cs at hc hlen hu few2 ⊢
      have hul : us.length = (plainL (cs.take i)).length := Paired.length hu
      have hpl := plainL_len (cs.take i)
      rw [List.length_take] at hpl
      have goal1 : plainL (cs.take (i + 1)) = plainStep (plainL (cs.take i)) (f, f + 1) := by rw [take_snoc hc, plainL_snoc]
      rw [goal1]
      generalize plainL (cs.take i) = acc at hu hul hpl ⊢
      refine ⟨_, rfl, Nat.zero_le _, fun o no => ?_⟩
      have sm2 : Same H (upd H1 o (.lst [])) := fun b z e => upd_at (sm b z e) no
      have hl2 : (upd H1 o (.lst [])) l = some (.lst us) := upd_at hl no
      have hu2 : Prs (upd H1 o (.lst [])) us acc := hu.keep (TK.new no)
      refine ⟨.list (acc.map dP), .list [], .lst (.inl (.inl hl2)) (dp_prs hu2), .lst (.inl (.inl upd_same)) .nil, sh_list _, sh_nilL, _, rfl, ?_⟩
      rw [neNil_pairs]
      generalize upd H1 o (.lst []) = H2 at sm2 hl2 hu2 ⊢
      rcases list_cases acc with rfl | ⟨r, z, rfl⟩
      · refine ite0 (decide_eq_false (fun e => e rfl)) (iteF ?_)
        refine ⟨_, rfl, .inl ⟨rfl, _, .inl (.inl hl2)⟩, _, rfl, _, rfl, _, _, rfl, rfl, by show 2 ≤ sizeLine; decide, fun t nt => ?_⟩
        have k1 : TK H2 (upd H2 t (.tup [.int f, .int (f + 1)])) := TK.new nt
        have hl3 : (upd H2 t (.tup [.int f, .int (f + 1)])) l = some (.lst (us)) := upd_at hl2 nt
        have k2 : TK (upd H2 t (.tup [.int f, .int (f + 1)])) (upd (upd H2 t (.tup [.int f, .int (f + 1)])) l (.lst (us ++ [.ref t]))) := TK.lst hl3
        refine ⟨l, us, .ref t, rfl, rfl, hl3, smallLt (by omega), ?_⟩
        refine ⟨some (.int f), us ++ [.ref t], rfl, same_put (fun b o e => upd_at (sm2 b o e) nt) nl, upd_same, ?_⟩
        exact Pd.snoc (hu2.keep (k1.trans k2)) ⟨t, rfl, k2 _ _ upd_same⟩
      · obtain ⟨us', v, rfl, hu', zp, rfl, hz⟩ := Pd.last hu2
        refine ite1 (decide_eq_true (fun e => by cases r <;> cases e)) ?_
        refine ⟨_, rfl, 1, rfl, l, _, -1, .ref zp, rfl, rfl, .inl (.inl hl2), atI_last us' (.ref zp), zp, _, 1, .int z.2, rfl, rfl, .inl (.inl hz), rfl, _, rfl, rfl, _, rfl, ite2 (fun e => ?_) (fun e => ?_)⟩
        · have e1 : z.2 = f := V.int.inj (of_decide_eq_true e)
          rw [step_snoc, if_pos (show z.2 = ((f, f + 1) : Cut).1 from e1)]
          refine ⟨_, rfl, 1, rfl, l, _, -1, .ref zp, rfl, rfl, .inl (.inl hl2), atI_last us' (.ref zp), zp, _, 0, .int z.1, rfl, rfl, .inl (.inl hz), rfl, _, rfl, _, _, rfl, rfl, by show 2 ≤ sizeLine; decide, fun t nt => ?_⟩
          have k1 : TK H2 (upd H2 t (.tup [.int z.1, .int (f + 1)])) := TK.new nt
          have hl3 : (upd H2 t (.tup [.int z.1, .int (f + 1)])) l = some (.lst (us' ++ [.ref zp])) := upd_at hl2 nt
          have k2 : TK (upd H2 t (.tup [.int z.1, .int (f + 1)])) (upd (upd H2 t (.tup [.int z.1, .int (f + 1)])) l (.lst (us' ++ [.ref t]))) := TK.lst hl3
          have ixl : ixN (us' ++ [V.ref zp]).length (-1) = some us'.length := by
            rw [List.length_append]
            exact ix_neg1 us'.length
          refine ⟨_, rfl, 1, rfl, l, _, -1, us'.length, rfl, rfl, hl3, ixl, ?_⟩
          rw [set_last]
          refine ⟨some (.int f), us' ++ [.ref t], rfl, same_put (fun b o e => upd_at (sm2 b o e) nt) nl, upd_same, ?_⟩
          exact Pd.snoc (Prs.keep (k1.trans k2) hu') ⟨t, rfl, k2 _ _ upd_same⟩
        · have e1 : ¬ z.2 = f := fun h => e (decide_eq_true (congrArg V.int h))
          rw [step_snoc, if_neg (show ¬ z.2 = ((f, f + 1) : Cut).1 from e1)]
          refine ⟨_, rfl, .inl ⟨rfl, _, .inl (.inl hl2)⟩, _, rfl, _, rfl, _, _, rfl, rfl, by show 2 ≤ sizeLine; decide, fun t nt => ?_⟩
          have k1 : TK H2 (upd H2 t (.tup [.int f, .int (f + 1)])) := TK.new nt
          have hl3 : (upd H2 t (.tup [.int f, .int (f + 1)])) l = some (.lst (us' ++ [.ref zp])) := upd_at hl2 nt
          have k2 : TK (upd H2 t (.tup [.int f, .int (f + 1)])) (upd (upd H2 t (.tup [.int f, .int (f + 1)])) l (.lst (us' ++ [.ref zp] ++ [.ref t]))) := TK.lst hl3
          refine ⟨l, us' ++ [.ref zp], .ref t, rfl, rfl, hl3, smallLt (by omega), ?_⟩
          refine ⟨some (.int f), us' ++ [.ref zp] ++ [.ref t], rfl, same_put (fun b o e => upd_at (sm2 b o e) nt) nl, upd_same, ?_⟩
          exact Pd.snoc (hu2.keep (k1.trans k2)) ⟨t, rfl, k2 _ _ upd_same⟩
    · rintro σ H' ⟨y2, us, rfl, sm, hl, hu⟩
      rw [hlen, List.take_length] at hu
      refine ⟨_, rfl, l, us, rfl, .inl ⟨.inl (.inl hl), fun t nt => ?_⟩⟩
      exact q _ t (fun b o e => upd_at (sm b o e) nt) (Same.free sm nt) ⟨us, upd_same, hu.keep (TK.new nt)⟩
end
end Cap

set_option Elab.async false
set_option linter.all false
set_option maxRecDepth 100000
set_option maxHeartbeats 4000000
/-! other cuts -/
namespace Cap
open PySem PySem.Spec PyProof.Rows L2 CapS
abbrev sOther : Stmt := topS 42
theorem scOther : FnScope ["_law_m", "_law_cuts_here", "_law_k", "_law_here", "_law_there", "_law_cut"] ["_law_m", "_law_cuts_here"] (defScope sOther) := ⟨rfl, rfl, rfl, by decide +kernel, rfl, by decide +kernel, by decide +kernel⟩
abbrev Bd (cs : List Cut) : Prop := ∀ c ∈ cs, 0 ≤ c.1 ∧ c.1 < c.2 ∧ c.2 ≤ 100
theorem bd_step {acc : List Cut} {c : Cut} (h : Bd acc) (hc : 0 ≤ c.1 ∧ c.1 < c.2 ∧ c.2 ≤ 100) : Bd (plainStep acc c) := by
  rcases list_cases acc with rfl | ⟨r, l, rfl⟩
  · rw [step_nil]
    intro d hd
    rw [List.mem_singleton.mp hd]
    exact hc
  · rw [step_snoc]
    have hl := h l (List.mem_append_right _ List.mem_cons_self)
    split
    · rename_i e
      intro d hd
      rcases List.mem_append.mp hd with hd | hd
      · exact h d (List.mem_append_left _ hd)
      · rw [List.mem_singleton.mp hd]
        exact ⟨hl.1, show l.1 < c.2 by omega, hc.2.2⟩
    · intro d hd
      rcases List.mem_append.mp hd with hd | hd
      · exact h d hd
      · rw [List.mem_singleton.mp hd]
        exact hc
theorem bd_fold : ∀ (cs acc : List Cut), Bd acc → Bd cs → Bd (cs.foldl plainStep acc)
  | [], _, h, _ => h
  | c :: r, acc, h, hc => bd_fold r (plainStep acc c) (bd_step h (hc c List.mem_cons_self)) fun d hd => hc d (List.mem_cons_of_mem _ hd)
theorem bd_plain {cs : List Cut} (h : Bd cs) : Bd (plainL cs) := bd_fold cs [] (fun _ z => nomatch z) h
theorem Bd.good {cs : List Cut} (h : Bd cs) (hl : cs.length ≤ 16) : Good cs := ⟨hl, fun c hc => by have := h c hc; omega⟩
theorem cut_hd (xs : List V) (j : Nat) (h : j ≤ xs.length) : cutV xs none (some (j : Int)) = xs.take j := by
  unfold cutV
  rw [HT.sIx_none, HT.sIx_nat, Nat.min_eq_left h]
  rfl
theorem cut_tl (xs : List V) (j : Nat) (h : j ≤ xs.length) : cutV xs (some (j : Int)) none = xs.drop j := by
  unfold cutV
  rw [HT.sIx_none, HT.sIx_nat, Nat.min_eq_left h]
  refine List.take_of_length_le ?_
  rw [List.length_drop]
  exact Nat.le_refl _
theorem eqT_nil (cs : List Cut) : PyData.eqv (.tuple (cs.map dP)) (.tuple []) = decide (cs = []) := eqv_pairs cs []
section
variable {P : Program} {w : World} {K : PySem.W.Frag} {mg : Str → Option Value} {base : Heap} {fW fS fC fN fF : Addr} {fdW fdS fdC fdN fdF : FuncData}
theorem cat_read {a b : Addr} {xs ys : List V} {H : Hp} {Q : VK} (ha : H a = some (.tup xs)) (hb : H b = some (.tup ys)) (hz : xs.length + ys.length ≤ sizeLine) (q : ∀ H' p, Same H H' → H' p = some (.tup (xs ++ ys)) → Q (.ref p) H') : rCatA K (.ref a) (.ref b) H Q := by
  refine ⟨a, b, xs, ys, rfl, rfl, .inl (.inl ha), .inl (.inl hb), hz, fun e => ?_, fun _ e => ?_, fun _ _ p np => q _ p (same_new np) upd_same⟩
  · subst e
    exact q H b (Same.refl H) hb
  · subst e
    exact q H a (Same.refl H) (by rw [List.append_nil]; exact ha)
def spOther : Sp := fun vs H Q _ => ∃ (m l a : Addr) (n : Int) (cs : List Cut), vs = [.ref m, .ref a] ∧ MAt H m l n ∧ n < 900000 ∧ CutsT H a cs ∧ cs.length ≤ 8 ∧ Bd cs ∧
  ∀ H' l' p ds, MAt H' m l' (n + 10) → Nx m l l' H H' → CutsT H' p ds → ds.length ≤ 9 → Bd ds → Q (.ref p) H'
theorem ok_other {f fI fX fPl : Addr} {fd fdI fdX fdPl : FuncData} (F : Fun K "_law_otherwise" "_law_otherwise" sOther f fd) (T : TxC K mg fW fS fC fN fF fdW fdS fdC fdN fdF) (DI : Df K mg "plain_in" sPlainIn ["cuts"] fI fdI) (DPl : Df K mg "plain" sPlain ["cuts"] fPl fdPl) (DX : Df K mg "_law_next" sNext ["_law_m", "_law_total"] fX fdX) :
    FnOk P w K mg base CX0 6 f fd ["_law_m", "_law_cuts_here"] spOther := by
  have GX : FnOk P w K mg base CX0 1 fX fdX ["_law_m", "_law_total"] spNext := ok_next DX.fn T.B
  have GP : FnOk P w K mg base CX0 5 fPl fdPl ["cuts"] spPlainOf := ok_plain DPl.fn T DI
  refine F.ok scOther (fun vs H Q E h => ?_) (fun cdv A outer s H vs Q E hr h => ?_)
  · obtain ⟨m, l, a, n, cs, rfl, _⟩ := h
    rfl
  · obtain ⟨m, l, a, n, cs, rfl, hM, hn, ⟨ps, ha, hp⟩, few, bd, q⟩ := h
    have hlen : ps.length = cs.length := Paired.length hp
    have hr1 := hr.mono (show 1 ≤ 5 by decide)
    refine ⟨_, pss_cons (ps_if (pt_cmpR (op_eqD hr.units) (pv 1) (pe_tup pa_nil) (nomark _)) (pss_one (ps_ret (pv 1))) pss_nil)
      (pss_cons (ps_set (i := 2) scOther.nd rfl (.inl rfl) (pe_df DX GX hr1 pass0 (pa_cons (pv 0) (pa_cons (pe_callB call_len_seq (by rfl) T.B.len PySem.boot_len (pa_cons (pv 1) pa_nil)) pa_nil))))
      (pss_cons (ps_asg (pe_ix ix_tup (pv 1) (pv 2) (fun _ _ => rfl)) (pg_tup rfl (pgs_cons (pg_name (i := 3) scOther.nd rfl (.inl rfl)) (pgs_cons (pg_name (i := 4) scOther.nd rfl (.inl rfl)) pgs_nil))))
      (pss_cons (ps_if (PW.pt (pw_and (pt_cmpR op_gt (pe_op op_sub (pv 4) (pv 3)) pe_int (nomark _)) (pw_and1 (pt_cmp (pc_eqI (pe_df DX GX hr1 pass0 (pa_cons (pv 0) (pa_cons pe_int pa_nil))) pe_int)))))
          (pss_cons (ps_set (i := 5) scOther.nd rfl (.inl rfl) (pe_op op_add (pe_op op_add (pv 3) pe_int) (pe_df DX GX hr1 pass0 (pa_cons (pv 0) (pa_cons (pe_op op_sub (pe_op op_sub (pv 4) (pv 3)) pe_int) pa_nil)))))
            (pss_one (ps_ret (pe_op op_catA (pe_op op_catA (pe_slice sl_tup (pv 1) po_none (po_some (pv 2))) (pe_tup (pa_cons (pe_tup (pa_cons (pv 3) (pa_cons (pv 5) pa_nil))) (pa_cons (pe_tup (pa_cons (pv 5) (pa_cons (pv 4) pa_nil))) pa_nil))))
              (pe_slice sl_tup (pv 1) (po_some (pe_op op_add (pv 2) pe_int)) po_none))))) pss_nil)
      (pss_one (ps_ret (pe_df DPl GP hr pass0 (pa_cons (pv 1) pa_nil))))))), ?_⟩
    refine ⟨_, rfl, Nat.zero_le _, fun o no => ?_⟩
    have s1 : Same H (upd H o (.tup [])) := same_new no
    have e1 : (upd H o (.tup [])) o = some (.tup []) := upd_same
    generalize (upd H o (.tup [])) = H1 at s1 e1 ⊢
    have ha1 := s1 _ _ ha
    have hp1 := Prs.keep (TK.of s1) hp
    have hM1 := hM.same s1
    have x1 : Nx m l l H H1 := Nx.of s1
    refine ⟨.tuple (cs.map dP), .tuple [], .tup (.inl (.inl ha1)) (dp_prs hp1), .tup (.inl (.inl e1)) .nil, sh_tup _, sh_nilT, _, rfl, ?_⟩
    rw [eqT_nil]
    by_cases ec : cs = []
    · refine ite1 (decide_eq_true ec) ?_
      exact ⟨_, rfl, q H1 l a cs (hM1.mono (by omega)) x1 ⟨ps, ha1, hp1⟩ (by omega) bd⟩
    refine ite0 (decide_eq_false ec) ?_
    have hpos := List.length_pos_iff.mpr ec
    refine ⟨_, rfl, _, rfl, a, _, rfl, .inr (.inl (.inl ha1)), m, l, n, _, rfl, hM1, by omega, by omega, by omega, fun H2 l2 k M2 x2 k0 k1 => ?_⟩
    obtain ⟨j, rfl⟩ := Int.eq_ofNat_of_zero_le k0
    have x02 := x1.trans x2
    have ha2 := x2.tk hM1 _ _ ha1
    have hp2 := Prs.keep (x2.tk hM1) hp1
    have hk : j < cs.length := by omega
    obtain ⟨c, hc⟩ : ∃ c, cs[j]? = some c := ⟨cs[j], by simp [hk]⟩
    obtain ⟨pv, hpv, pc, rfl, hpc⟩ := Pd.get hp2 hc
    have bc := bd c (List.mem_of_getElem? hc)
    have hat : atI ps (j : Int) = some (.ref pc) := by
      unfold atI ixN
      rw [if_pos k0, if_pos (by omega)]
      exact hpv
    refine ⟨_, rfl, _, rfl, a, ps, (j : Int), .ref pc, rfl, rfl, .inl (.inl ha2), hat, pc, _, rfl, .inl (.inl hpc), rfl, _, _, rfl, _, _, rfl, rfl, ?_⟩
    refine ⟨_, rfl, _, rfl, _, _, rfl, rfl, _, _, rfl, rfl, _, rfl, ?_⟩
    have last : ∀ H3 l3, MAt H3 m l3 (n + 5) → Nx m l l3 H H3 → CutsT H3 a cs → spPlainOf [.ref a] H3 Q E0 := fun H3 l3 M3 x3 hc3 => by
      refine ⟨a, cs, rfl, hc3, bd.good (by omega), fun H4 p s4 np h4 => ?_⟩
      exact q H4 l3 p _ ((M3.same s4).mono (by omega)) (x3.trans (Nx.of s4)) h4 (Nat.le_trans (plainL_len cs) (by omega)) (bd_plain bd)
    by_cases c1 : 1 < c.2 - c.1
    · refine ite1 (decide_eq_true c1) ?_
      refine ⟨_, rfl, m, l2, _, 2, rfl, M2, by omega, by decide, by decide, fun H3 l3 r M3 x3 _ _ => ?_⟩
      have x03 := x02.trans x3
      have ha3 := x3.tk M2 _ _ ha2
      have hp3 := Prs.keep (x3.tk M2) hp2
      refine ⟨_, _, rfl, rfl, _, rfl, ?_⟩
      by_cases c2 : r = 0
      · refine ite1 (decide_eq_true c2) ?_
        refine ⟨_, rfl, _, _, rfl, rfl, _, rfl, _, rfl, _, rfl, _, _, rfl, rfl, _, _, rfl, rfl, m, l3, _, c.2 - c.1 - 1, rfl, M3, by omega, by omega, by omega, fun H4 l4 e M4 x4 e0 e1' => ?_⟩
        have x04 := x03.trans x4
        have ha4 := x4.tk M3 _ _ ha3
        have hp4 := Prs.keep (x4.tk M3) hp3
        refine ⟨_, _, rfl, rfl, ?_⟩
        have nw1 : ¬ (HT.sIx ps.length 0 none = 0 ∧ HT.sIx ps.length ps.length (some (j : Int)) = ps.length) := fun z => by
          have z2 := z.2
          rw [HT.sIx_nat] at z2
          omega
        refine ⟨_, rfl, _, rfl, (j : Int), rfl, a, ps, rfl, .inl (.inl ha4), nw1, fun p1 np1 => ?_⟩
        have s5 : Same H4 (upd H4 p1 (.tup (cutV ps none (some (j : Int))))) := same_new np1
        have hp1' : (upd H4 p1 (.tup (cutV ps none (some (j : Int))))) p1 = some (.tup (ps.take j)) := by rw [upd_same, cut_hd ps j (by omega)]
        generalize (upd H4 p1 (.tup (cutV ps none (some (j : Int))))) = H5 at s5 hp1' ⊢
        refine ⟨_, rfl, _, rfl, by show 2 ≤ sizeLine; decide, fun t1 nt1 => ⟨_, rfl, _, rfl, by show 2 ≤ sizeLine; decide, fun t2 nt2 => ⟨by show 2 ≤ sizeLine; decide, fun t3 nt3 => ?_⟩⟩⟩
        dsimp only at nt2 nt3 ⊢
        generalize hv : c.1 + 1 + e = v at nt2 nt3 ⊢
        have s6 : Same H4 (upd (upd (upd H5 t1 (.tup [.int c.1, .int v])) t2 (.tup [.int v, .int c.2])) t3 (.tup [.ref t1, .ref t2])) := fun b o z => upd_at (upd_at (upd_at (s5 b o z) nt1) nt2) nt3
        have g1 : (upd (upd (upd H5 t1 (.tup [.int c.1, .int v])) t2 (.tup [.int v, .int c.2])) t3 (.tup [.ref t1, .ref t2])) p1 = some (.tup (ps.take j)) := upd_at (upd_at (upd_at hp1' nt1) nt2) nt3
        have g2 : (upd (upd (upd H5 t1 (.tup [.int c.1, .int v])) t2 (.tup [.int v, .int c.2])) t3 (.tup [.ref t1, .ref t2])) t1 = some (.tup [.int c.1, .int v]) := upd_at (upd_at upd_same nt2) nt3
        have g3 : (upd (upd (upd H5 t1 (.tup [.int c.1, .int v])) t2 (.tup [.int v, .int c.2])) t3 (.tup [.ref t1, .ref t2])) t2 = some (.tup [.int v, .int c.2]) := upd_at upd_same nt3
        have g4 : (upd (upd (upd H5 t1 (.tup [.int c.1, .int v])) t2 (.tup [.int v, .int c.2])) t3 (.tup [.ref t1, .ref t2])) t3 = some (.tup [.ref t1, .ref t2]) := upd_same
        generalize (upd (upd (upd H5 t1 (.tup [.int c.1, .int v])) t2 (.tup [.int v, .int c.2])) t3 (.tup [.ref t1, .ref t2])) = H6 at s6 g1 g2 g3 g4 ⊢
        refine cat_read g1 g4 (by rw [List.length_take]; exact small (by show _ + 2 ≤ _; omega)) fun H7 p3 s7 hp7 => ?_
        have s47 : Same H4 H7 := fun b o z => s7 _ _ (s6 b o z)
        have nw2 : ¬ (HT.sIx ps.length 0 (some (((j + 1 : Nat) : Int))) = 0 ∧ HT.sIx ps.length ps.length none = ps.length) := fun z => by
          have z1 := z.1
          rw [HT.sIx_nat] at z1
          omega
        refine ⟨_, rfl, _, rfl, _, _, rfl, rfl, ((j + 1 : Nat) : Int), rfl, a, ps, rfl, .inl (.inl (s47 _ _ ha4)), nw2, fun p4 np4 => ?_⟩
        have s8 : Same H4 (upd H7 p4 (.tup (cutV ps (some ((j + 1 : Nat) : Int)) none))) := fun b o z => upd_at (s47 b o z) np4
        have g5 : (upd H7 p4 (.tup (cutV ps (some ((j + 1 : Nat) : Int)) none))) p3 = some (.tup (ps.take j ++ [.ref t1, .ref t2])) := upd_at hp7 np4
        have g6 : (upd H7 p4 (.tup (cutV ps (some ((j + 1 : Nat) : Int)) none))) p4 = some (.tup (ps.drop (j + 1))) := by rw [upd_same, cut_tl ps (j + 1) (by omega)]
        have g7 := upd_at (o := .tup (cutV ps (some ((j + 1 : Nat) : Int)) none)) (s7 _ _ g2) np4
        have g8 := upd_at (o := .tup (cutV ps (some ((j + 1 : Nat) : Int)) none)) (s7 _ _ g3) np4
        generalize (upd H7 p4 (.tup (cutV ps (some ((j + 1 : Nat) : Int)) none))) = H8 at s8 g5 g6 g7 g8 ⊢
        refine cat_read g5 g6 (by rw [List.length_append, List.length_take, List.length_drop]; exact small (by show _ + 2 + _ ≤ _; omega)) fun H9 p5 s9 hp9 => ?_
        have s49 : Same H4 H9 := fun b o z => s9 _ _ (s8 b o z)
        refine q H9 l4 p5 (cs.take j ++ [(c.1, v), (v, c.2)] ++ cs.drop (j + 1)) ((M4.same s49).mono (by omega)) (x04.trans (Nx.of s49)) ⟨_, hp9, ?_⟩ ?_ ?_
        · have pr := Prs.keep (TK.of s49) hp4
          exact Pd.app (Pd.app (Pd.take j pr) (.cons ⟨t1, rfl, s9 _ _ g7⟩ (.cons ⟨t2, rfl, s9 _ _ g8⟩ .nil))) (Pd.drop (j + 1) pr)
        · rw [List.length_append, List.length_append, List.length_take, List.length_drop]
          show min j cs.length + 2 + (cs.length - (j + 1)) ≤ 9
          omega
        · intro d hd
          rcases List.mem_append.mp hd with hd | hd
          · rcases List.mem_append.mp hd with hd | hd
            · exact bd d (List.mem_of_mem_take hd)
            · rcases List.mem_cons.mp hd with z | z
              · rw [z]
                exact ⟨bc.1, show c.1 < v by omega, show v ≤ 100 by omega⟩
              · rw [List.mem_singleton.mp z]
                exact ⟨show 0 ≤ v by omega, show v < c.2 by omega, bc.2.2⟩
          · exact bd d (List.mem_of_mem_drop hd)
      · refine ite0 (decide_eq_false c2) ?_
        exact ⟨_, rfl, last H3 l3 (M3.mono (by omega)) x03 ⟨ps, ha3, hp3⟩⟩
    · refine ite0 (decide_eq_false c1) (iteF ?_)
      exact ⟨_, rfl, last H2 l2 (M2.mono (by omega)) x02 ⟨ps, ha2, hp2⟩⟩
end
end Cap

set_option Elab.async false
set_option linter.all false
set_option maxRecDepth 100000
set_option maxHeartbeats 4000000
/-! try: body / except (A, ..) as e: .. / except (B, ..) as e: suite; the error that the second clause takes stays told -/
namespace Cap
open PySem PySem.Spec PyProof.Rows L2
section
open PySem.W
variable {M : Model} {K : Frag} {A : Around} {E : Value → Shared → Prop}
theorem exc_loop1 {h : Heap} {cls : Value} (X : K.In h) (f : Value → PUnit → Sem (ForInStep PUnit)) (hf : ∀ (c : Value) (A : Around) (E : Value → Shared → Prop) (s : Shared) (Q : ForInStep PUnit → Shared → Prop), (∀ Q' : Bool → Shared → Prop, Q' true s → wpAny M A (isExcClass c) Q' E s) → Q (.yield ⟨⟩) s → wpAny M A (f c ⟨⟩) Q E s) :
    ∀ (cs : List Value) (b : Bool) (s : Shared) (Q : PUnit → Shared → Prop), exmAny K cls cs = some b → (∀ b o, h.get? b = some o → s.heap.get? b = some o) → Q ⟨⟩ s → wpAny M A (forIn cs PUnit.unit f) Q E s
  | [], _, s, Q, _, _, q => by
    rw [List.forIn_nil]
    exact wpAny_pure q
  | c :: r, b, s, Q, hx, k, q => by
    obtain ⟨b1, d1, x1, y1, _⟩ := exmAny_cons hx
    rw [List.forIn_cons]
    refine wpAny_bind (hf c A E s _ (fun Q' q' => ((exm_cls (M := M) X x1).1.keeps k).here q') ?_)
    exact exc_loop1 X f hf r d1 s Q y1 k q
theorem exc_loop2 {h : Heap} {cls : Value} (X : K.In h) (f : Value → Option Bool × Unit → Sem (ForInStep (Option Bool × Unit))) (hf : ∀ (c : Value) (v : Bool) (A : Around) (E : Value → Shared → Prop) (s : Shared) (Q : ForInStep (Option Bool × Unit) → Shared → Prop), (∀ Q' : Bool → Shared → Prop, Q' v s → wpAny M A (isSubtype cls c) Q' E s) → Q (if v = true then .done (some true, ()) else .yield (none, ())) s → wpAny M A (f c (none, ())) Q E s) :
    ∀ (cs : List Value) (b : Bool) (s : Shared) (Q : Option Bool × Unit → Shared → Prop), exmAny K cls cs = some b → (∀ b o, h.get? b = some o → s.heap.get? b = some o) → Q (if b = true then (some true, ()) else (none, ())) s → wpAny M A (forIn cs (none, ()) f) Q E s
  | [], b, s, Q, hx, _, q => by
    have e : some false = some b := hx
    cases e
    rw [List.forIn_nil]
    exact wpAny_pure q
  | c :: r, b, s, Q, hx, k, q => by
    obtain ⟨b1, d1, x1, y1, rfl⟩ := exmAny_cons hx
    rw [List.forIn_cons]
    refine wpAny_bind (hf c b1 A E s _ (fun Q' q' => ((exm_cls (M := M) X x1).2.keeps k).here q') ?_)
    cases b1 with
    | true => exact wpAny_pure q
    | false => exact exc_loop2 X f hf r d1 s Q y1 k q
theorem exm_tupL {cs : List Value} {cls : Value} {tp e : Addr} {b : Bool} {h : Heap} (X : K.In h) (LT : Looks M h (typeOf (.ref e)) cls) (hp : h.get? tp = some { cls := .type "tuple", data := .seq cs.toArray }) (hx : exmAny K cls cs = some b) :
    Looks M h (excMatches (.ref e) (.ref tp)) b := by
  intro A Q E s k₀ q
  have k : ∀ b o, h.get? b = some o → s.heap.get? b = some o := k₀
  have LT0 : Looks M h (isInstance (.ref tp) (.type "tuple")) true := ((Looks.ld hp).andThen .now).andThen (Looks.of_pure isSubtype_tuple_tuple)
  have hp' := k _ _ hp
  unfold excMatches
  refine wpAny_bind ((LT0.keeps k).here ?_)
  dsimp only
  rw [if_pos rfl]
  first
    | refine wpAny_bind (wpAny_seqItems hp' rfl ?_)
    | refine wpAny_bind (wpAny_bind (wpAny_seqItems hp' rfl (wpAny_pure ?_)))
  dsimp only [Option.getD_some, Option.getD]
  refine wpAny_bind (wpAny_pure ?_)
  refine wpAny_bind (exc_loop1 X _ (fun c A E s Q hc q => ?_) cs b s _ hx k ?_)
  · refine wpAny_bind (hc _ ?_)
    simp only [Bool.not_true, Bool.false_eq_true, if_false]
    exact wpAny_pure q
  refine wpAny_bind ((LT.keeps k).here ?_)
  refine wpAny_bind (exc_loop2 X _ (fun c v A E s Q hc q => ?_) cs b s _ hx k ?_)
  · refine wpAny_bind (hc _ ?_)
    cases v with
    | true => exact wpAny_pure q
    | false => exact wpAny_pure q
  cases b with
  | true => exact wpAny_pure q
  | false => exact wpAny_pure q
end
theorem flying_keeps {h h' B : Heap} {l : List Env} {a : Addr} {Z : Obj → Prop} (k : ∀ b o, h.get? b = some o → h'.get? b = some o) (x : HandSPX.FlyingZ B l a Z h) : HandSPX.FlyingZ B l a Z h' := by
  obtain ⟨x1, x2, x3, oe, vs, T, oT, ts, e1, e2, e3, e4, e5, e6, e7, e8, e9⟩ := x
  exact ⟨fun b o z => k b o (x1 b o z), x2, Heap.FunFrames.of_keeps (fun b o e _ => ⟨o, k b o e, rfl⟩) x3, oe, vs, T, oT, ts, k _ _ e1, e2, e3, e4, e5, e6, k _ _ e7, e8, e9⟩
/-- names of classes -/
inductive NmL (X : Cx) : List Expr → List Value → Prop
  | nil : NmL X [] []
  | cons {x : Str} {p : Pos} {c : Value} {es : List Expr} {cs : List Value} (hc : Names X x c) (r : NmL X es cs) : NmL X (.Name x p :: es) (c :: cs)
/-- the error at a, told: its class and its dict -/
def exS (a : Addr) (cls : Value) (d : Option Addr) : HO := .ext fun h => ∃ oe vs, h.get? a = some oe ∧ Zc cls d oe ∧ oe.data = .fields vs
theorem exS_ok {P : Program} {w : World} {H : Hp} {h : Heap} {a : Addr} {cls : Value} {d : Option Addr} {oe : Obj} {vs : Array Value} (e : h.get? a = some oe) (z : Zc cls d oe) (hd : oe.data = .fields vs) : ObjOk P w H h a (exS a cls d) :=
  ⟨⟨oe, vs, e, z, hd⟩, ⟨_, e⟩, fun h1 h2 q k => by
    obtain ⟨o, us, e1, e2, e3⟩ := q
    exact ⟨o, us, k _ e1, e2, e3⟩⟩
section
variable {X : Cx}
theorem nm_eval {a : Addr} {pn : List (Addr × Obj)} {q : Addr × Obj} {es : List Expr} {cs : List Value} (hn : NmL X es cs) (pos : Pos) {σ : L2.St} {H : Hp} {s : Shared} {Q : List Value → Shared → Prop} {E : Value → Shared → Prop} (S : Inv (X.suite a (q :: pn)) [] σ H s) (h : Q cs s) :
    wpAny (model X.prog X.w) (X.A.mark (some (.ref a))) (spliced (backTo pos (starEach es X.env))) Q E s := by
  induction hn generalizing Q with
  | nil => exact Calls.spliced_nil h
  | @cons x p c es cs hc r ih =>
    show wpAny _ _ (spliced ((false, eval (.Name x p) X.env) :: backTo pos (starEach es X.env))) _ _ s
    refine Calls.spliced_cons ?_
    have test : ∀ {Q : Value → Shared → Prop} {E : Value → Shared → Prop}, Q c s → wpAny (model X.prog X.w) (X.A.mark (some (.ref a))) (eval (.Name x p) X.env) Q E s := fun {Q E} z => by
      obtain ⟨hg, hdbg, hm | ⟨hm, hv, hnn⟩⟩ := hc
      · exact ld_glob (X := X.suite a (q :: pn)) S hg hm z hdbg
      · exact ld_blt (X := X.suite a (q :: pn)) S hg hm hv z hnn hdbg
    exact test (ih h)
/-- the wish -/
def wTwo (X : Cx) (c1 c2 : List Value) (i : Nat) (ts : Addr → Value → Option Addr → TS) (D : Ends) : WX := fun cls d σ H =>
  σ.length = X.N.length → PySem.W.exmAny X.K cls c1 = some false ∧ PySem.W.exmAny X.K cls c2 = some true ∧
    ∀ a, H a = none → ts a cls d { nx := fun σ' H' => H' a = none → D.nx (σ'.set i none) (upd H' a (exS a cls d)), rt := fun _ _ => False, bk := fun _ _ => False, ct := fun _ _ => False } (σ.set i (some (.ref a))) H
theorem ps_try_two {n : Str} {i : Nat} {k1 k2 : Nat} {es1 es2 : List Expr} {c1 c2 : List Value} {body suite0 suite : List Stmt} {b₀ : Stmt} {q1 q2 p1 p2 pos : Pos} {tb : WX → TS} {ts : Addr → Value → Option Addr → TS}
    (hs : X.stack = X.env :: X.outer) (hf : X.env.frame = some X.env.locals) (hex : X.ex = []) (hN : X.N.Nodup) (hi : X.N[i]? = some n) (hln : X.env.kindOf n = some .local) (hn1 : NmL X es1 c1) (hn2 : NmL X es2 c2) (hz1 : c1.length ≤ 100) (hz2 : c2.length ≤ 100)
    (hb : ∀ (W : WX) (pn : List (Addr × Obj)) (xe : Value → Shared → Prop), Takes (X.tr pn xe) W → PassesOwn (model X.prog X.w) X.A X.env xe → PSs (X.tr pn xe) body (tb W))
    (hsu : ∀ (a : Addr) (oe : Obj) (cls : Value) (d : Option Addr) (pn : List (Addr × Obj)), Zc cls d oe → (∃ vs, oe.data = .fields vs) → PSs (X.suite a ((a, oe) :: pn)) (b₀ :: suite) (ts a cls d)) :
    PS X (.Try body [.ExceptHandler (some (.Tuple es1 k1 q1)) (some n) suite0 p1, .ExceptHandler (some (.Tuple es2 k2 q2)) (some n) (b₀ :: suite) p2] [] [] pos) (fun D σ H => tb (wTwo X c1 c2 i ts D) D σ H) := by
  refine ⟨fun pins s σ H D I h => ?_⟩
  have ok := I.ok
  have hfr : X.A.frames = some (X.env :: X.outer) := by rw [ok.frames, hs]
  have hloc : Loc X.env.scope n := .inl hln
  have hsl : sizeLine = 16777216 := sizeLine_eq
  refine wpAny_Try_except ?_
  refine wpAny_mono ((hb (wTwo X c1 c2 i ts D) (X.pn ++ pins) (fun e s₁ => wpAny (model X.prog X.w) X.A (noteFrame e X.env) (fun _ s₂ => wpAny (model X.prog X.w) X.A (setFlight e none) (fun _ s₃ =>
    wpAny (model X.prog X.w) X.A (handleBy e X.env [.ExceptHandler (some (.Tuple es1 k1 q1)) (some n) suite0 p1, .ExceptHandler (some (.Tuple es2 k2 q2)) (some n) (b₀ :: suite) p2]) (SP X pins D) X.xe s₃) X.xe s₂) X.xe s₁) (fun u s' xx => ?_) PassesOwn.looking).run [] s σ H D (I.toTry _) h) (fun f s1 hsp => ?_) (fun e s1 he => he)
  · obtain ⟨a, B, sI, pins', σ', H', cls, d, rfl, J', nb, up, sky, na, os, ag, w⟩ := xx
    have J : Inv X pins σ' H' sI := J'.ofTry ok
    obtain ⟨hx1, hx2, hyes⟩ := w J.len
    have sky' : Sky B (X.env :: X.outer) a (Zc cls d) X.env.locals s'.heap := by rw [← hs]; exact sky
    show wpAny (model X.prog X.w) X.A (noteFrame (.ref a) X.env) _ _ _
    refine Sky.land Zc.steady hfr hf sky' fun h3 fl3 up3 => ?_
    have J3 : Inv X pins σ' H' { s' with heap := h3 } := J.landed nb fl3.1 (up.trans up3) os ag
    obtain ⟨oe3, vs3, he3, hz3, hd3⟩ := fl3.there
    have notFr : ∀ {h : Heap} {o : Obj} {vs : Array Value}, h.FunFrames B (X.env :: X.outer) → h.get? a = some o → o.data = .fields vs → a ∉ frs (X.env :: X.outer) := fun {h o vs} ff e dd hm => by
      obtain ⟨_, o', e', hnf⟩ := ff.mem hm
      rw [e] at e'; cases e'
      exact hnf _ dd
    have nfr := notFr fl3.2.2.1 he3 hd3
    have nL : a ≠ X.env.locals := fun z => nfr (List.mem_filterMap.mpr ⟨X.env, List.mem_cons_self, by rw [hf, z]⟩)
    have nF : a ∉ X.fs := fun hm => by
      obtain ⟨e, he, q⟩ := List.mem_filterMap.mp hm
      exact nfr (List.mem_filterMap.mpr ⟨e, List.mem_cons_of_mem _ he, q⟩)
    have aI : sI.heap.get? a = none := by
      cases z : sI.heap.get? a with
      | none => rfl
      | some o =>
        have y := nb a o z (by rw [hs]; exact nfr)
        rw [fl3.2.1] at y
        cases y
    have a0 : X.s_0.heap.get? a = none := by
      cases z : X.s_0.heap.get? a with
      | none => rfl
      | some o =>
        obtain ⟨o', y⟩ := J.base.there a o z (by rw [hex]; simp)
        rw [aI] at y
        cases y
    have S3 := J3.suite he3 hd3 na nL nF
    have LT3 : PySem.W.Looks (model X.prog X.w) h3 (typeOf (.ref a)) cls := fun A Q E s k q => wpAny_typeOf_ref (k _ _ he3) (by rw [hz3.1]; exact q)
    -- the first clause
    refine wpAny_handleBy_cons (codeAny_handlers_test ?_) (by intro q; cases q)
    refine wpAny_Tuple_spliced (nm_eval hn1 q1 S3 ⟨by omega, ?_⟩)
    have k4 : ∀ b o, h3.get? b = some o → (h3.push { cls := .type "tuple", data := .seq c1.toArray }).get? b = some o := fun b o e => Heap.get?_push_of_some _ e
    have J4 : Inv X pins σ' H' { s' with heap := h3.push { cls := .type "tuple", data := .seq c1.toArray } } := J3.kept (t' := s'.toks) k4
    refine (exm_tupL (M := model X.prog X.w) J4.kIn (LT3.keeps k4) (Heap.get?_push_size _ rfl) hx1).here ?_
    show wpAny (model X.prog X.w) X.A (handleBy (.ref a) X.env _) _ _ _
    generalize hh4 : h3.push { cls := .type "tuple", data := .seq c1.toArray } = h4 at k4 J4 ⊢
    have fl4 := flying_keeps k4 fl3
    have S4 := J4.suite (k4 _ _ he3) hd3 na nL nF
    -- the second
    refine wpAny_handleBy_cons (codeAny_handlers_test ?_) (by intro q; cases q)
    refine wpAny_Tuple_spliced (nm_eval hn2 q2 S4 ⟨by omega, ?_⟩)
    have k5 : ∀ b o, h4.get? b = some o → (h4.push { cls := .type "tuple", data := .seq c2.toArray }).get? b = some o := fun b o e => Heap.get?_push_of_some _ e
    have J5 : Inv X pins σ' H' { s' with heap := h4.push { cls := .type "tuple", data := .seq c2.toArray } } := J4.kept (t' := s'.toks) k5
    refine (exm_tupL (M := model X.prog X.w) J5.kIn ((LT3.keeps k4).keeps k5) (Heap.get?_push_size _ rfl) hx2).here ?_
    dsimp only
    generalize hh5 : h4.push { cls := .type "tuple", data := .seq c2.toArray } = h5 at k5 J5 ⊢
    have fl5 := flying_keeps k5 fl4
    refine codeAny_handlers_suite_as ?_
    refine HandSPX.lands_againZ (s := { s' with heap := h5 }) fl5 fun h6 fl6 up6 => ?_
    have upA : sI.heap.UpToSlots h6 := (((up.trans up3).trans (Heap.UpToSlots.of_keeps k4)).trans (Heap.UpToSlots.of_keeps k5)).trans up6
    have J6 : Inv X pins σ' H' { s' with heap := h6 } := J.landed nb fl6.1 upA os ag
    obtain ⟨oe6, vs6, he6, hz6, hd6⟩ := fl6.there
    have S6 := J6.suite he6 hd6 na nL nF
    refine store_ok (X := X.suite a ((a, oe6) :: (X.pn ++ pins))) (v := .ref a) S6 hN hi hloc rfl (fun s7 S7 => ?_) (.inr hln)
    refine wpAny_mono ((hsu a oe6 cls d (X.pn ++ pins) hz6 ⟨_, hd6⟩).run [] s7 _ H' _ S7 (hyes a na)) (fun f s8 hsp => ?_) (fun _ _ z => False.elim z)
    cases f with
    | next =>
      obtain ⟨σ8, H8, S8, q8⟩ := hsp
      have J8 : Inv X ((a, oe6) :: pins) σ8 H8 s8 := ⟨ok, S8.os, S8.bare, S8.base, S8.loc, S8.cell, S8.free, S8.freeC, fun p hp => S8.pin p (by
        have hp : p ∈ X.pn ++ (a, oe6) :: pins := hp
        show p ∈ ((a, oe6) :: (X.pn ++ pins)) ++ []
        rw [List.append_nil]
        rcases List.mem_append.mp hp with z | z
        · exact List.mem_cons_of_mem _ (List.mem_append_left _ z)
        · rcases List.mem_cons.mp z with z | z
          · rw [z]; exact List.mem_cons_self
          · exact List.mem_cons_of_mem _ (List.mem_append_right _ z)), S8.hok, S8.len⟩
      refine gone_ok J8 hN hi hln fun s9 J9 => ?_
      obtain ⟨g1, g2, g3, g4, g5⟩ := J9.pin (a, oe6) (List.mem_append_right _ List.mem_cons_self)
      have g1 : s9.heap.get? a = some oe6 := g1
      have g2 : H8 a = none := g2
      refine ⟨_, upd H8 a (exS a cls d), ⟨ok, J9.os, J9.bare, ⟨J9.base.keep, J9.base.slot, fun b o e n x => ?_, J9.base.there, fun b xs e => ?_, fun b o u e => ?_, fun b ps e => ?_⟩, J9.loc, J9.cell, ?_, fun x c e => ?_, fun p hp => ?_, fun b o e => ?_, J9.len⟩, q8 g2⟩
      · rw [upd_ne (fun z => by rw [z, a0] at e; cases e)]
        exact J9.base.free b o e n x
      · have z := J9.base.tups b xs e
        rw [upd_ne (ne_of_none z g2)]
        exact z
      · have z := J9.base.frzs b o u e
        rw [upd_ne (ne_of_none z g2)]
        exact z
      · obtain ⟨more, z⟩ := J9.base.tbls b ps e
        exact ⟨more, by rw [upd_ne (ne_of_none z g2)]; exact z⟩
      · rw [upd_ne (Ne.symm nL)]
        exact J9.free
      · have ne : c ≠ a := fun z => by
          obtain ⟨v, o, ho, hd⟩ := J9.cell x c e
          rw [z, g1] at ho
          cases ho
          exact g5 _ hd
        rw [upd_ne ne]
        exact J9.freeC x c e
      · have hp' : p ∈ X.pn ++ (a, oe6) :: pins := by
          rcases List.mem_append.mp hp with z | z
          · exact List.mem_append_left _ z
          · exact List.mem_append_right _ (List.mem_cons_of_mem _ z)
        obtain ⟨r1, r2, r3, r4, r5⟩ := J9.pin p hp'
        have ne : p.1 ≠ a := fun z => by
          obtain ⟨y, _⟩ := J.pin p hp
          rw [z, aI] at y
          cases y
        exact ⟨r1, by rw [upd_ne ne]; exact r2, r3, r4, r5⟩
      · by_cases hb : b = a
        · subst hb
          rw [upd_same] at e
          cases e
          exact exS_ok g1 hz6 hd6
        · rw [upd_ne hb] at e
          exact (J9.hok b o e).stay (fun c u _ z => z) (fun c z => by rw [upd_ne (ne_of_none z g2)]; exact z) fun c xs z => by rw [upd_ne (ne_of_none z g2)]; exact z
    | brk =>
      obtain ⟨σ8, H8, S8, q8⟩ := hsp
      exact q8.elim
    | cont =>
      obtain ⟨σ8, H8, S8, q8⟩ := hsp
      exact q8.elim
    | ret u =>
      obtain ⟨v8, σ8, H8, S8, r8, q8⟩ := hsp
      exact q8.elim
  · cases f with
    | next =>
      obtain ⟨σ', H', J', q⟩ := hsp
      exact wpAny_execs_nil ⟨σ', H', J'.ofTry ok, q⟩
    | brk =>
      obtain ⟨σ', H', J', q⟩ := hsp
      exact ⟨σ', H', J'.ofTry ok, q⟩
    | cont =>
      obtain ⟨σ', H', J', q⟩ := hsp
      exact ⟨σ', H', J'.ofTry ok, q⟩
    | ret u =>
      obtain ⟨v, σ', H', J', r, q⟩ := hsp
      exact ⟨v, σ', H', J'.ofTry ok, r, q⟩
end
end Cap

set_option Elab.async false
set_option linter.all false
set_option maxRecDepth 100000
set_option maxHeartbeats 4000000
/-! _law_fault of a Nothing -/
namespace Cap
open PySem PySem.Spec PyProof.Rows L2 CapS
abbrev sFault : Stmt := topS 37
theorem scFault : FnScope ["_law_e", "_law_found"] ["_law_e"] (defScope sFault) := ⟨rfl, rfl, rfl, by decide +kernel, rfl, by decide +kernel, by decide +kernel⟩
section
variable {X : Cx}
def rIsS (K : PySem.W.Frag) : List V → Hp → VK → Prop := fun xs H Q => ∃ (a D : Addr) (c : V) (cv : Value) (b : Bool), xs = [.ref a, c] ∧ H a = some (exS a (.ref D) none) ∧ ExcC K D ∧ (∀ u, RelV c u → u = cv) ∧ PySem.W.kitOne K (.ref D) cv = some b ∧ Q (.bl b) H
theorem call_isS : CallR X (.builtin "isinstance") (rIsS X.K) := by
  intro pins s σ H xs us Q I r h
  obtain ⟨a, D, c, cv, b, rfl, ha, C, hcv, e, q⟩ := h
  cases r with
  | cons rx rr =>
    cases rr with
    | cons rt rr =>
      cases rr
      cases rx
      have ec := hcv _ rt
      subst ec
      have hx : ObjOk X.prog X.w H s.heap a (.ext fun h => ∃ oe vs, h.get? a = some oe ∧ Zc (.ref D) none oe ∧ oe.data = .fields vs) := I.hok a _ ha
      obtain ⟨⟨oe, vs, hget, hz, hv⟩, _⟩ := hx
      have J : PySem.W.InstAt s.heap a oe D none := by
        obtain ⟨oc, od, oda, osl⟩ := oe
        obtain ⟨h1, h2⟩ := hz
        dsimp only at h1 h2 hv
        subst h1 h2 hv
        exact ⟨hget, rfl, rfl, trivial⟩
      exact PySem.W.kia_one (PySem.W.handS_kitx_exc C.hg C.hk C.hs C.hd C.ha C.hn C.ht C.hm) I.kIn J e (fun z => nomatch z) fun tk => ⟨.bl b, H, I.kept (t' := tk) fun _ _ z => z, rfl, q⟩
end
/-- what the written part says of the eleven classes -/
structure FaC (K : PySem.W.Frag) (mg : Str → Option Value) (CN c0 c1 c2 c3 c4 c5 c6 c7 c8 c9 : Addr) : Prop where
  ex : ExcC K CN
  gN : mg "Nothing" = some (.ref CN)
  kN : PySem.W.kitOne K (.ref CN) (.ref CN) = some true
  g0 : mg "BadWords" = some (.ref c0)
  k0 : PySem.W.kitOne K (.ref CN) (.ref c0) = some false
  g1 : mg "BadSpoken" = some (.ref c1)
  k1 : PySem.W.kitOne K (.ref CN) (.ref c1) = some false
  g2 : mg "BadRules" = some (.ref c2)
  k2 : PySem.W.kitOne K (.ref CN) (.ref c2) = some false
  g3 : mg "BadFile" = some (.ref c3)
  k3 : PySem.W.kitOne K (.ref CN) (.ref c3) = some false
  g4 : mg "BadCuts" = some (.ref c4)
  k4 : PySem.W.kitOne K (.ref CN) (.ref c4) = some false
  g5 : mg "BadChain" = some (.ref c5)
  k5 : PySem.W.kitOne K (.ref CN) (.ref c5) = some false
  g6 : mg "BadPaper" = some (.ref c6)
  k6 : PySem.W.kitOne K (.ref CN) (.ref c6) = some false
  g7 : mg "BadText" = some (.ref c7)
  k7 : PySem.W.kitOne K (.ref CN) (.ref c7) = some false
  g8 : mg "TooGreat" = some (.ref c8)
  k8 : PySem.W.kitOne K (.ref CN) (.ref c8) = some false
  g9 : mg "OutOfPlace" = some (.ref c9)
  k9 : PySem.W.kitOne K (.ref CN) (.ref c9) = some false
  a1 : PySem.W.exmAny K (.ref CN) [.ref c0, .ref c1, .ref c2, .ref c3, .ref c4, .ref c5] = some false
  a2 : PySem.W.exmAny K (.ref CN) [.ref c6, .ref c7, .ref c9, .ref c8, .ref CN] = some true
section
variable {P : Program} {w : World} {K : PySem.W.Frag} {mg : Str → Option Value} {base : Heap}
def spFault (CN : Addr) : Sp := fun vs H Q _ => ∃ a : Addr, vs = [.ref a] ∧ H a = some (exS a (.ref CN) none) ∧ ∀ H' p, Same H H' → H' p = some (.tup [.str "nothing", .non]) → Q (.ref p) H'
theorem ok_fault {f CN c0 c1 c2 c3 c4 c5 c6 c7 c8 c9 : Addr} {fd : FuncData} (F : Fun K "_law_fault" "_law_fault" sFault f fd) (B : Blt mg) (T : FaC K mg CN c0 c1 c2 c3 c4 c5 c6 c7 c8 c9) : FnOk P w K mg base CX0 1 f fd ["_law_e"] (spFault CN) := by
  refine F.ok scFault (fun vs H Q E h => ?_) (fun cdv A outer s H vs Q E hr h => ?_)
  · obtain ⟨a, rfl, _⟩ := h
    rfl
  · obtain ⟨a, rfl, ha, q⟩ := h
    refine ⟨_, pss_cons (ps_set (i := 1) scFault.nd rfl (.inl rfl) (pe_lst pa_nil))
      (pss_cons (ps_if (pt_val (pe_callB call_isS (by rfl) B.isinst (by decide +kernel) (pa_cons (pv 0) (pa_cons (pe_glob (v := .ref c0) (by rfl) T.g0 rfl) pa_nil)))) pss_never pss_nil)
      (pss_cons (ps_if (pt_val (pe_callB call_isS (by rfl) B.isinst (by decide +kernel) (pa_cons (pv 0) (pa_cons (pe_glob (v := .ref c1) (by rfl) T.g1 rfl) pa_nil)))) pss_never pss_nil)
      (pss_cons (ps_if (pt_val (pe_callB call_isS (by rfl) B.isinst (by decide +kernel) (pa_cons (pv 0) (pa_cons (pe_glob (v := .ref c2) (by rfl) T.g2 rfl) pa_nil)))) pss_never pss_nil)
      (pss_cons (ps_if (pt_val (pe_callB call_isS (by rfl) B.isinst (by decide +kernel) (pa_cons (pv 0) (pa_cons (pe_glob (v := .ref c3) (by rfl) T.g3 rfl) pa_nil)))) pss_never pss_nil)
      (pss_cons (ps_if (pt_val (pe_callB call_isS (by rfl) B.isinst (by decide +kernel) (pa_cons (pv 0) (pa_cons (pe_glob (v := .ref c4) (by rfl) T.g4 rfl) pa_nil)))) pss_never pss_nil)
      (pss_cons (ps_if (pt_val (pe_callB call_isS (by rfl) B.isinst (by decide +kernel) (pa_cons (pv 0) (pa_cons (pe_glob (v := .ref c5) (by rfl) T.g5 rfl) pa_nil)))) pss_never pss_nil)
      (pss_cons (ps_if (pt_val (pe_callB call_isS (by rfl) B.isinst (by decide +kernel) (pa_cons (pv 0) (pa_cons (pe_glob (v := .ref c6) (by rfl) T.g6 rfl) pa_nil)))) pss_never pss_nil)
      (pss_cons (ps_if (pt_val (pe_callB call_isS (by rfl) B.isinst (by decide +kernel) (pa_cons (pv 0) (pa_cons (pe_glob (v := .ref c7) (by rfl) T.g7 rfl) pa_nil)))) pss_never pss_nil)
      (pss_cons (ps_if (pt_val (pe_callB call_isS (by rfl) B.isinst (by decide +kernel) (pa_cons (pv 0) (pa_cons (pe_glob (v := .ref c8) (by rfl) T.g8 rfl) pa_nil)))) pss_never pss_nil)
      (pss_cons (ps_if (pt_val (pe_callB call_isS (by rfl) B.isinst (by decide +kernel) (pa_cons (pv 0) (pa_cons (pe_glob (v := .ref c9) (by rfl) T.g9 rfl) pa_nil)))) pss_never pss_nil)
      (pss_cons (ps_if (pt_val (pe_callB call_isS (by rfl) B.isinst (by decide +kernel) (pa_cons (pv 0) (pa_cons (pe_glob (v := .ref CN) (by rfl) T.gN rfl) pa_nil))))
          (pss_one (ps_expr (pe_bm PySem.F.plainAttrs_list PySem.F.slot_list_append PySem.F.type_list_append mt_append (pv 1) (pa_cons (pe_tup (pa_cons pe_str (pa_cons pe_non pa_nil))) pa_nil)))) pss_nil)
      (pss_one (ps_ret (pe_ifExp (pt_cmp (pc_eqI (pe_callB call_len_seq (by rfl) B.len PySem.boot_len (pa_cons (pv 1) pa_nil)) pe_int)) (pe_ix ix_list (pv 1) pe_int (fun _ _ => rfl)) (pe_tup (pa_cons pe_str (pa_cons (pe_callB call_len_seq (by rfl) B.len PySem.boot_len (pa_cons (pv 1) pa_nil)) pa_nil))))))))))))))))), ?_⟩
    refine ⟨Nat.zero_le _, fun l nl => ?_⟩
    have s1 : Same H (upd H l (.lst [])) := same_new nl
    have hl : (upd H l (.lst [])) l = some (.lst []) := upd_same
    generalize (upd H l (.lst [])) = H1 at s1 hl ⊢
    have ha1 := s1 _ _ ha
    refine ⟨_, rfl, a, CN, .ref c0, _, false, rfl, ha1, T.ex, (fun _ z => z), T.k0, _, rfl, iteF ?_⟩
    refine ⟨_, rfl, a, CN, .ref c1, _, false, rfl, ha1, T.ex, (fun _ z => z), T.k1, _, rfl, iteF ?_⟩
    refine ⟨_, rfl, a, CN, .ref c2, _, false, rfl, ha1, T.ex, (fun _ z => z), T.k2, _, rfl, iteF ?_⟩
    refine ⟨_, rfl, a, CN, .ref c3, _, false, rfl, ha1, T.ex, (fun _ z => z), T.k3, _, rfl, iteF ?_⟩
    refine ⟨_, rfl, a, CN, .ref c4, _, false, rfl, ha1, T.ex, (fun _ z => z), T.k4, _, rfl, iteF ?_⟩
    refine ⟨_, rfl, a, CN, .ref c5, _, false, rfl, ha1, T.ex, (fun _ z => z), T.k5, _, rfl, iteF ?_⟩
    refine ⟨_, rfl, a, CN, .ref c6, _, false, rfl, ha1, T.ex, (fun _ z => z), T.k6, _, rfl, iteF ?_⟩
    refine ⟨_, rfl, a, CN, .ref c7, _, false, rfl, ha1, T.ex, (fun _ z => z), T.k7, _, rfl, iteF ?_⟩
    refine ⟨_, rfl, a, CN, .ref c8, _, false, rfl, ha1, T.ex, (fun _ z => z), T.k8, _, rfl, iteF ?_⟩
    refine ⟨_, rfl, a, CN, .ref c9, _, false, rfl, ha1, T.ex, (fun _ z => z), T.k9, _, rfl, iteF ?_⟩
    refine ⟨_, rfl, a, CN, .ref CN, _, true, rfl, ha1, T.ex, (fun _ z => z), T.kN, _, rfl, iteT ?_⟩
    refine ⟨_, rfl, .inl ⟨rfl, _, .inl (.inl hl)⟩, by show 2 ≤ sizeLine; decide, fun t nt => ?_⟩
    have hl2 : (upd H1 t (.tup [.str "nothing", .non])) l = some (.lst []) := upd_at hl nt
    refine ⟨l, [], .ref t, rfl, rfl, hl2, smallLt (by show 0 ≤ 100000; decide), ?_⟩
    have e2 : (upd (upd H1 t (.tup [.str "nothing", .non])) l (.lst [.ref t])) l = some (.lst [.ref t]) := upd_same
    have e3 : (upd (upd H1 t (.tup [.str "nothing", .non])) l (.lst [.ref t])) t = some (.tup [.str "nothing", .non]) := by
      rw [upd_ne (ne_of_none hl nt).symm]
      exact upd_same
    have s2 : Same H (upd (upd H1 t (.tup [.str "nothing", .non])) l (.lst [.ref t])) := same_put (fun b o e => upd_at (s1 b o e) nt) nl
    refine ⟨_, rfl, l, _, rfl, .inl (.inl (.inl e2)), _, _, rfl, rfl, _, rfl, iteT ?_⟩
    exact ⟨_, rfl, l, _, 0, .ref t, rfl, rfl, .inl (.inl e2), rfl, q _ t s2 e3⟩
end
end Cap

set_option Elab.async false
set_option linter.all false
set_option maxRecDepth 100000
set_option maxHeartbeats 4000000
/-! _law_outcome, given a lambda that lets a Nothing out -/
namespace Cap
open PySem PySem.Spec PyProof.Rows L2 CapS LamX
abbrev sOut : Stmt := topS 36
abbrev nOut : List Str := ["_law_call", "_law_caught", "_law_found", "_law_e"]
theorem scOut : FnScope nOut ["_law_call"] (defScope sOut) := ⟨rfl, rfl, rfl, by decide +kernel, rfl, by decide +kernel, by decide +kernel⟩
def TTout (CN : Addr) : (XK → Hp → VK → Prop) → Hp → VK → Prop := fun tl H Q => ∀ (H0 : Hp) (Q1 : VK), Same H H0 → tl (fun cls d H' => cls = .ref CN ∧ d = none ∧ ∀ H'' p, Same H' H'' → H'' p = some (.tup [.str "nothing", .non]) → Q (.ref p) H'') H0 Q1
theorem four {α : Type} : ∀ l : List α, l.length = 4 → ∃ a b c d, l = [a, b, c, d]
  | [a, b, c, d], _ => ⟨a, b, c, d, rfl⟩
section
variable {X : Cx} {CN c0 c1 c2 c3 c4 c5 c6 c7 c8 c9 fF g : Addr} {fdF : FuncData} {cdg : Value} {q : Str}
theorem out_gives (hr : Room 2 X.A) (T : FaC X.K X.mg CN c0 c1 c2 c3 c4 c5 c6 c7 c8 c9) (B : Blt X.mg) (DF : Df X.K X.mg "_law_fault" sFault ["_law_e"] fF fdF) :
    GivesTo X nOut "_law_outcome" (defScope sOut) g cdg (defBody sOut) "_law_call" q (TTout CN) := by
  intro f c' s H Q tl act hc h
  have GF : FnOk X.prog X.w X.K X.mg X.base L2.CX0 1 fF fdF ["_law_e"] (spFault CN) := ok_fault DF.fn B T
  have hr1 : Room 1 (X.A.deeper (envOfC "_law_outcome" (defScope sOut) s.heap.objs.size g cdg)) := hr.deeper _
  have nm : ∀ {x : Str} {c : Addr}, X.mg x = some (.ref c) → (defScope sOut).names.lookup x = some .globalImplicit → (x == ("__debug__" : Str)) = false → Names (cxOf C8.CX0 X.prog X.w X.K X.mg X.base nOut "_law_outcome" (defScope sOut) g cdg X.A X.stack s H C8.E0).nox x (.ref c) := fun m l d => ⟨l, d, .inl m⟩
  refine ⟨_, pss_cons (ps_asg (pe_tup (pa_cons pe_non (pa_cons pe_non pa_nil))) (pg_tup rfl (pgs_cons (pg_name (i := 1) scOut.nd rfl (.inl rfl)) (pgs_cons (pg_name (i := 2) scOut.nd rfl (.inl rfl)) pgs_nil))))
    (pss_cons (ps_try_two (X := (cxOf C8.CX0 X.prog X.w X.K X.mg X.base nOut "_law_outcome" (defScope sOut) g cdg X.A X.stack s H C8.E0).nox) (i := 3)
        (c1 := [.ref c0, .ref c1, .ref c2, .ref c3, .ref c4, .ref c5]) (c2 := [.ref c6, .ref c7, .ref c9, .ref c8, .ref CN])
        (tb := fun W D σ H => ∃ Ech : XK, (∀ cls d σ' H', Ech cls d H' → W cls d σ' H') ∧ σ[0]? = some (some (.ref f)) ∧ H c' = some (CodeO c' q) ∧ tl Ech H (fun x H1 => gName 2 x σ H1 D.nx))
        rfl rfl rfl scOut.nd rfl rfl
        (.cons (nm T.g0 rfl rfl) (.cons (nm T.g1 rfl rfl) (.cons (nm T.g2 rfl rfl) (.cons (nm T.g3 rfl rfl) (.cons (nm T.g4 rfl rfl) (.cons (nm T.g5 rfl rfl) .nil))))))
        (.cons (nm T.g6 rfl rfl) (.cons (nm T.g7 rfl rfl) (.cons (nm T.g9 rfl rfl) (.cons (nm T.g8 rfl rfl) (.cons (nm T.gN rfl rfl) .nil)))))
        (by show 6 ≤ 100; decide) (by show 5 ≤ 100; decide) (fun W pn xe tk _ => ?_) (fun a oe cls d pn _ _ => pss_one (ps_set (i := 1) scOut.nd rfl (.inl rfl) (pv 3))))
    (pss_one (ps_ret (pe_ifExp (pt_cmp (pc_isN (pv 1))) (pe_lst (pa_cons (pv 2) pa_nil)) (pe_df DF GF hr1 pass0 (pa_cons (pv 1) pa_nil)))))), ?_⟩
  · refine ⟨fun pins s' σ H' D I h' => ?_⟩
    obtain ⟨Ech, hW, h1, h2, h3⟩ := h'
    refine PSs.run (pss_one (ps_set (i := 2) scOut.nd rfl (.inl rfl) (act W pn xe Ech _ _ tk hW))) pins s' σ H' D I ?_
    exact ⟨h1, h2, h3⟩
  · refine ⟨by show 2 ≤ sizeLine; decide, fun t nt => ⟨t, _, rfl, .inl (.inl upd_same), rfl, _, _, rfl, _, _, rfl, rfl, ?_⟩⟩
    refine ⟨fun cls d H' => cls = .ref CN ∧ d = none ∧ ∀ H'' p, Same H' H'' → H'' p = some (.tup [.str "nothing", .non]) → Q (.ref p) H'', fun cls d σ' H' hE hlen => ?_, rfl, upd_at hc nt, h _ _ (same_new nt)⟩
    obtain ⟨rfl, rfl, hq⟩ := hE
    refine ⟨T.a1, T.a2, fun a na => ?_⟩
    obtain ⟨y0, y1, y2, y3, rfl⟩ := four σ' hlen
    refine ⟨_, rfl, fun n8 => ?_⟩
    refine ⟨_, rfl, _, rfl, iteF ?_⟩
    exact ⟨_, rfl, a, rfl, upd_same, fun H'' p sm hp => hq H'' p (fun b o e => sm b o (upd_at e n8)) hp⟩
end
end Cap

set_option Elab.async false
set_option linter.all false
set_option maxRecDepth 100000
set_option maxHeartbeats 4000000
/-! repr of small data -/
namespace Cap
open PySem PySem.Spec PyProof.Rows L2
structure Rok (d : PyData) : Prop where
  can : d.canLay0 = true
  ish : d.intsShort 13 = true
  shw : d.showable = true
  wt : d.weight ≤ 1000000
  dep : d.depth ≤ 20
theorem log_forty {n : Nat} (h : n < 10 ^ 12) : n.log2 < 40 := by
  by_cases z : n = 0
  · rw [z]
    decide
  · exact (Nat.log2_lt z).2 (Nat.lt_trans h (show 10 ^ 12 < 2 ^ 40 by decide))
theorem wt_int {i : Int} (h : i.natAbs < 10 ^ 12) : PyData.weight (.int i) ≤ 41 := by
  have := log_forty h
  simp only [PyData.weight]
  split <;> omega
theorem log_small {n : Nat} (h : n < 10 ^ 12) : n.log2 < 1920 := by
  have := log_forty h
  omega
theorem shw_int {i : Int} (h : i.natAbs < 10 ^ 12) : PyData.showable (.int i) = true := by
  simp only [PyData.showable, decide_eq_true_eq]
  exact log_small h
theorem ish_int {i : Int} (h : i.natAbs < 10 ^ 12) : PyData.intsShort 13 (.int i) = true := by
  simp only [PyData.intsShort, decide_eq_true_eq]
  exact PyData.shown_int_le h
abbrev Sm (cs : List Cut) : Prop := ∀ c ∈ cs, c.1.natAbs < 10 ^ 12 ∧ c.2.natAbs < 10 ^ 12
theorem ish_pairs : ∀ cs : List Cut, Sm cs → PyData.intsShortAll 13 (cs.map dP) = true
  | [], _ => rfl
  | c :: r, h => by
    have hc := h c List.mem_cons_self
    simp only [List.map_cons, PyData.intsShortAll, Bool.and_eq_true]
    refine ⟨?_, ish_pairs r fun d hd => h d (List.mem_cons_of_mem _ hd)⟩
    simp only [dP, PyData.intsShort, PyData.intsShortAll, Bool.and_eq_true, decide_eq_true_eq]
    exact ⟨PyData.shown_int_le hc.1, PyData.shown_int_le hc.2, trivial⟩
theorem shw_pairs : ∀ cs : List Cut, Sm cs → PyData.showableAll (cs.map dP) = true
  | [], _ => rfl
  | c :: r, h => by
    have hc := h c List.mem_cons_self
    simp only [List.map_cons, PyData.showableAll, Bool.and_eq_true]
    refine ⟨?_, shw_pairs r fun d hd => h d (List.mem_cons_of_mem _ hd)⟩
    simp only [dP, PyData.showable, PyData.showableAll, Bool.and_eq_true, decide_eq_true_eq]
    exact ⟨log_small hc.1, log_small hc.2, trivial⟩
theorem wt_pairs : ∀ cs : List Cut, Sm cs → PyData.weightAll (cs.map dP) ≤ 90 * cs.length
  | [], _ => Nat.le_refl _
  | c :: r, h => by
    have hc := h c List.mem_cons_self
    have h1 := wt_int hc.1
    have h2 := wt_int hc.2
    have := wt_pairs r fun d hd => h d (List.mem_cons_of_mem _ hd)
    rw [List.map_cons, List.length_cons]
    show PyData.weightAll [.int c.1, .int c.2] + 1 + PyData.weightAll (r.map dP) ≤ _
    have e : PyData.weightAll [.int c.1, .int c.2] = PyData.weight (.int c.1) + 1 + (PyData.weight (.int c.2) + 1 + 0) := rfl
    omega
theorem ish_ints (ns : List Int) (h : ∀ n ∈ ns, n.natAbs < 10 ^ 12) : PyData.intsShortAll 13 (ns.map .int) = true := PyData.intsShortAll_ints ns h
theorem shw_ints : ∀ ns : List Int, (∀ n ∈ ns, n.natAbs < 10 ^ 12) → PyData.showableAll (ns.map PyData.int) = true
  | [], _ => rfl
  | n :: r, h => by
    simp only [List.map_cons, PyData.showableAll, Bool.and_eq_true]
    exact ⟨shw_int (h n List.mem_cons_self), shw_ints r fun d hd => h d (List.mem_cons_of_mem _ hd)⟩
theorem wt_ints : ∀ ns : List Int, (∀ n ∈ ns, n.natAbs < 10 ^ 12) → PyData.weightAll (ns.map PyData.int) ≤ 50 * ns.length
  | [], _ => Nat.le_refl _
  | n :: r, h => by
    have h1 := wt_int (h n List.mem_cons_self)
    have := wt_ints r fun d hd => h d (List.mem_cons_of_mem _ hd)
    rw [List.map_cons, List.length_cons]
    show PyData.weight (.int n) + 1 + PyData.weightAll (r.map PyData.int) ≤ _
    omega
/-- the first list told -/
def dTold (n : Int) (cs : List Cut) (fs : List Int) (b : Bool) : PyData := .list [.int n, .tuple (cs.map dP), .list (fs.map .int), .bool b]
/-- the second -/
def dTwo (cs ds : List Cut) : PyData := .list [.tuple (cs.map dP), .tuple (ds.map dP)]
theorem rok_told {n : Int} {cs : List Cut} {fs : List Int} {b : Bool} (hn : n.natAbs < 10 ^ 12) (hc : Sm cs) (hf : ∀ f ∈ fs, f.natAbs < 10 ^ 12) (l1 : cs.length ≤ 4000) (l2 : fs.length ≤ 4000) : Rok (dTold n cs fs b) := by
  have w1 := wt_pairs cs hc
  have w2 := wt_ints fs hf
  have w3 := wt_int hn
  have d1 := dep_pairs cs
  refine ⟨?_, ?_, ?_, ?_, ?_⟩
  · simp [dTold, PyData.canLay0, PyData.canLayAll0, can_pairs, can_ints]
  · simp only [dTold, PyData.intsShort, PyData.intsShortAll, Bool.and_eq_true]
    exact ⟨decide_eq_true (PyData.shown_int_le hn), ish_pairs cs hc, ish_ints fs hf, trivial, trivial⟩
  · simp only [dTold, PyData.showable, PyData.showableAll, Bool.and_eq_true]
    exact ⟨decide_eq_true (log_small hn), shw_pairs cs hc, shw_ints fs hf, trivial, trivial⟩
  · show PyData.weight (.int n) + 1 + (PyData.weightAll (cs.map dP) + 1 + (PyData.weightAll (fs.map PyData.int) + 1 + (0 + 1 + 0))) ≤ _
    omega
  · simp [dTold, PyData.depth, PyData.depthAll, dep_ints]
    omega
theorem rok_two {cs ds : List Cut} (hc : Sm cs) (hd : Sm ds) (l1 : cs.length ≤ 4000) (l2 : ds.length ≤ 4000) : Rok (dTwo cs ds) := by
  have w1 := wt_pairs cs hc
  have w2 := wt_pairs ds hd
  have d1 := dep_pairs cs
  have d2 := dep_pairs ds
  refine ⟨?_, ?_, ?_, ?_, ?_⟩
  · simp [dTwo, PyData.canLay0, PyData.canLayAll0, can_pairs]
  · simp only [dTwo, PyData.intsShort, PyData.intsShortAll, Bool.and_eq_true]
    exact ⟨ish_pairs cs hc, ish_pairs ds hd, trivial⟩
  · simp only [dTwo, PyData.showable, PyData.showableAll, Bool.and_eq_true]
    exact ⟨shw_pairs cs hc, shw_pairs ds hd, trivial⟩
  · show PyData.weightAll (cs.map dP) + 1 + (PyData.weightAll (ds.map dP) + 1 + 0) ≤ _
    omega
  · simp [dTwo, PyData.depth, PyData.depthAll]
    omega
def rRepr (K : PySem.W.Frag) : List V → Hp → VK → Prop := fun xs H Q => ∃ (a : Addr) (d : PyData), xs = [.ref a] ∧ Dp K H (.ref a) d ∧ Rok d ∧ Q (.str d.shown) H
theorem call_repr {X : Cx} (hg : X.A.guards = some []) (hu : X.A.units + 64 < cLine) : CallR X (.builtin "repr") (rRepr X.K) := by
  intro pins s σ H xs us Q I r h
  obtain ⟨a, d, rfl, hd, R, q⟩ := h
  have e := Vals.ref1 r
  subst e
  obtain ⟨as, r1⟩ := Dp.reads I d (.ref a) (.ref a) hd rfl
  have dep := R.dep
  refine repr_of_reads' r1 R.shw (PyData.noDict_hsm (PyData.hasDict_of_canLay d R.can)) hg (by omega) (fun _ _ e => e) (fun h' u tk hk => ⟨.str d.shown, H, I.kept hk, ⟨u, rfl⟩, q⟩)
    (PyData.shown_fits (B := 13) (by decide) (by decide) (PyData.leavesShort_of_canLay0 13 d R.can R.ish) (Nat.le_trans R.wt (by decide)))
end Cap

set_option Elab.async false
set_option linter.all false
set_option maxRecDepth 100000
set_option maxHeartbeats 4000000
/-! what _law_right leans on -/
namespace Cap
open PySem PySem.Spec PyProof.Rows L2 CapS LamX
abbrev sRight : Stmt := topS 41
abbrev nRight : List Str := ["_law_m", "_law_one", "_law_other", "_law_frames", "_law_far", "_law_told", "_law_k", "_law_last", "_law_due", "_law_more"]
theorem scRight : FnScope nRight ["_law_m", "_law_one", "_law_other"] (defScope sRight) := ⟨rfl, rfl, rfl, by decide +kernel, rfl, by decide +kernel, by decide +kernel⟩
/-- nothing comes out -/
theorem passX0 {X : Cx} {P : Program} {w : World} : Passes (L2.CX P w) X L2.E0 := fun _ _ _ _ _ _ _ c => by
  obtain ⟨_, _, _, _, _, _, _, _, _, _, _, _, z⟩ := c
  exact z.elim
/-- a def of the text, its code object at c -/
structure FunC (K : PySem.W.Frag) (x qual : Str) (st : Stmt) (f : Addr) (fd : FuncData) (c : Addr) : Prop where
  ex : ∃ (oc : Value) (od : Option Addr) (kV doc pm : Value) (an : Option Addr) (ct : Value) (osl : Array (Option Value)),
    fd = PySem.W.fnOf x qual (defArgs st) (defBody st) (defScope st) .none kV doc pm an (.ref c) ct ∧ K.lookup f = some ⟨oc, od, .func fd, osl⟩ ∧ PySem.W.codeIn K (.ref c) qual = true
  kp : PySem.W.keepIn K (.ref f) = true
/-- a promise of a def that is called where no guard stands -/
structure FnG (P : Program) (w : World) (K : PySem.W.Frag) (mg : Str → Option Value) (base : Heap) (k : Nat) (f : Addr) (fd : FuncData) (ps : List Str) (sp : Sp) : Prop where
  len : ∀ vs H Q E, sp vs H Q E → vs.length = ps.length
  run : ∀ (A : Around) (outer : List Env) (s : Shared) (H : Hp) (args : Args) (us : List Value) (vs : List V) (Q : VK) (E : XK), A.guards = some [] → Room k A → Env0 P w K mg base A outer s H → BindsTo s fd args (ps.zip us) → Vals vs us → sp vs H Q E →
    codeAny (model P w) A (.call (.ref f) args) (CR L2.CX0 outer P w H s Q E) s
theorem guards_deeper {A : Around} {env : Env} (h : A.guards = some []) : (A.deeper env).guards = some [] := h
section
variable {P : Program} {w : World} {K : PySem.W.Frag} {mg : Str → Option Value} {base : Heap}
theorem okG {x qual : Str} {st : Stmt} {f c : Addr} {fd : FuncData} {N ps : List Str} {k : Nat} {sp : Sp} (F : FunC K x qual st f fd c) (S : FnScope N ps (defScope st)) (len : ∀ vs H Q E, sp vs H Q E → vs.length = ps.length)
    (hbody : ∀ (A : Around) (outer : List Env) (s : Shared) (H : Hp) (vs : List V) (Q : VK) (E : XK), A.guards = some [] → Room k (A.deeper (envOfC qual (defScope st) s.heap.objs.size f (.ref c))) → sp vs H Q E →
      ∃ t, PSs (cxOf L2.CX0 P w K mg base N qual (defScope st) f (.ref c) A outer s H E).nox (defBody st) t ∧ t { nx := fun _ H' => Q .non H', rt := Q } (start N vs) H) : FnG P w K mg base (k + 1) f fd ps sp := by
  obtain ⟨oc, od, kV, doc, pm, an, ct, osl, rfl, lk, hcd⟩ := F.ex
  refine ⟨len, fun A outer s H args us vs Q E hg hr e0 hb r hsp => ?_⟩
  refine run_ofS lk hcd S hr e0 hb r (len _ _ _ _ hsp) fun hr' => ?_
  obtain ⟨t, h, q⟩ := hbody A outer s H vs Q E hg hr' hsp
  exact ⟨t, h.nox, q⟩
/-- as Df, by its code object -/
structure DfC (K : PySem.W.Frag) (mg : Str → Option Value) (x : Str) (st : Stmt) (ps : List Str) (f : Addr) (fd : FuncData) (c : Addr) : Prop where
  fn : FunC K x x st f fd c
  bd : Binds K fd ps []
  gl : mg x = some (.ref f)
end
section
variable {X : Cx} {k : Nat} {f c : Addr} {fd : FuncData} {ps : List Str} {sp : Sp} {x : Str} {st : Stmt} {p pos : Pos} {e : Expr} {es : List Expr} {t : TA}
theorem pe_G (D : DfC X.K X.mg x st ps f fd c) (G : FnG X.prog X.w X.K X.mg X.base k f fd ps sp) (hg : X.A.guards = some []) (hr : Room k X.A) (ha : PA X (e :: es) t) (hgl : Gl X x := by rfl) (hdb : (x == ("__debug__" : Str)) = false := by decide)
    (he : starEach (e :: es) X.env = (false, eval e X.env) :: starEach es X.env := by rfl) (hpl : (backTo pos (starEach es X.env)).any (·.1) = false := by rfl) :
    PE X (.Call (.Name x p) (e :: es) [] pos) (tCall sp [] L2.E0 t) := by
  refine ⟨fun pins s σ H Q I h => ?_⟩
  refine wpAny_Call_Name_kw (ld_glob I hgl D.gl ?_ hdb)
  refine PySem.W.callWith_K (h₀ := X.base) I.ok.mod.kin D.fn.kp (thn (ha.run pos pins s σ H _ I h) fun us s1 ⟨vs, H1, I1, r, q⟩ => ⟨I1.kIn, ?_⟩) he hpl
  show wpAny _ _ (call (.ref f) us) _ _ _
  have q : sp (vs ++ []) H1 Q L2.E0 := q
  rw [List.append_nil] at q
  have hl : us.length = ps.length := by rw [← r.length]; exact G.len _ _ _ _ q
  have b := D.bd s1 us I1.kIn (by rw [List.append_nil]; exact hl)
  rw [List.append_nil] at b
  refine wpAny_call (codeAny_mono (G.run X.A X.stack s1 H1 ⟨us, []⟩ us vs Q L2.E0 hg hr I1.env0 b r q) fun r s' hq => ?_)
  cases r with
  | error e => exact (show False from hq).elim
  | ok fl =>
    cases fl with
    | ret u => exact I1.after hq
    | next => exact False.elim hq
    | brk => exact False.elim hq
    | cont => exact False.elim hq
end
/-! ### the state of the walk -/
theorem Nx.tabs {m l l' : Addr} {H H' : Hp} {n : Int} {T : List (Addr × Str)} (h : MAt H m l n) (x : Nx m l l' H H') (t : Tabs T H) : Tabs T H' := fun p hp => by
  obtain ⟨lc, zs, ys, k, h1, h2, h3, _⟩ := h.ex
  obtain ⟨ps, t1, t2, t3⟩ := t p hp
  refine ⟨ps, x.keep _ _ t1 (fun z => by rw [z, h1] at t1; cases t1) (fun z => by rw [z, h3] at t1; cases t1), t2, fun pos cv hc => ?_⟩
  obtain ⟨c, e1, e2⟩ := t3 pos cv hc
  have n1 : ∀ o, H c = some o → o = CodeO c p.2 := fun o e => by
    rw [e] at e2
    exact Option.some.inj e2
  refine ⟨c, e1, x.keep _ _ e2 (fun z => ?_) (fun z => ?_)⟩
  · have := n1 _ (by rw [z]; exact h1)
    unfold CodeO MD at this
    cases this
  · have := n1 _ (by rw [z]; exact h3)
    unfold CodeO at this
    cases this
theorem Ap.new {H H' : Hp} {m l b : Addr} {n : Int} (h : MAt H m l n) (s : Same H H') (e : H b = none) : Ap H' m l b := by
  obtain ⟨a1, a2⟩ := h.ne_m e
  obtain ⟨lc, zs, ys, k, h1, h2, h3, r⟩ := h.ex
  refine ⟨a1, a2, fun lc' k' q => ?_⟩
  rw [s _ _ h1] at q
  obtain ⟨rfl, _⟩ := MD.inj q
  exact (ne_of_none h2 e).symm
structure Sg (H0 : Hp) (m a b : Addr) (cs ds : List Cut) (T : List (Addr × Str)) (fr : Addr) (n : Int) (l : Addr) (H : Hp) : Prop where
  M : MAt H m l n
  T : Tabs T H
  A : CutsT H a cs
  B : CutsT H b ds
  F : H fr = some (.lst ((srcs cs).map V.int))
  P : Ap H m l fr
  K : TK H0 H
section
variable {H0 H H' : Hp} {m a b fr l l' : Addr} {cs ds : List Cut} {T : List (Addr × Str)} {n n' : Int}
theorem Sg.same (g : Sg H0 m a b cs ds T fr n l H) (s : Same H H') : Sg H0 m a b cs ds T fr n l H' :=
  ⟨g.M.same s, g.T.ext s, g.A.keep (TK.of s), g.B.keep (TK.of s), s _ _ g.F, g.P.same g.M s, g.K.trans (TK.of s)⟩
theorem Sg.next (g : Sg H0 m a b cs ds T fr n l H) (M' : MAt H' m l' n') (x : Nx m l l' H H') : Sg H0 m a b cs ds T fr n' l' H' := by
  obtain ⟨e, P'⟩ := g.P.step g.M x g.F
  exact ⟨M', x.tabs g.M g.T, g.A.keep (x.tk g.M), g.B.keep (x.tk g.M), e, P', g.K.trans (x.tk g.M)⟩
theorem Sg.ext (g : Sg H0 m a b cs ds T fr n l H) (e : ExtN H H') (t : Tabs T H') : Sg H0 m a b cs ds T fr n l H' := by
  have tk : TK H H' := fun c xs h => e c _ h fun ps z => by cases z
  obtain ⟨lc, zs, ys, k, h1, h2, h3, r⟩ := g.M.ex
  have h1' := e _ _ h1 fun ps z => by unfold MD at z; cases z
  have h2' := e _ _ h2 fun ps z => by cases z
  have h3' := e _ _ h3 fun ps z => by cases z
  have hF := e _ _ g.F fun ps z => by cases z
  refine ⟨⟨lc, zs, ys, k, h1', h2', h3', r⟩, t, g.A.keep tk, g.B.keep tk, hF, ⟨g.P.nm, g.P.nl, fun lc' k' q => ?_⟩, g.K.trans tk⟩
  rw [h1'] at q
  obtain ⟨rfl, _⟩ := MD.inj q
  exact g.P.nc _ _ h1
end
/-! ### plain facts -/
abbrev Bb (B : Int) (cs : List Cut) : Prop := ∀ c ∈ cs, 0 ≤ c.1 ∧ c.1 ≤ B ∧ 0 ≤ c.2 ∧ c.2 ≤ B
theorem bb_step {B : Int} {acc : List Cut} {c : Cut} (h : Bb B acc) (hc : 0 ≤ c.1 ∧ c.1 ≤ B ∧ 0 ≤ c.2 ∧ c.2 ≤ B) : Bb B (plainStep acc c) := by
  rcases list_cases acc with rfl | ⟨r, l, rfl⟩
  · rw [step_nil]
    intro d hd
    rw [List.mem_singleton.mp hd]
    exact hc
  · rw [step_snoc]
    have hl := h l (List.mem_append_right _ List.mem_cons_self)
    split
    · intro d hd
      rcases List.mem_append.mp hd with hd | hd
      · exact h d (List.mem_append_left _ hd)
      · rw [List.mem_singleton.mp hd]
        exact ⟨hl.1, hl.2.1, hc.2.2.1, hc.2.2.2⟩
    · intro d hd
      rcases List.mem_append.mp hd with hd | hd
      · exact h d hd
      · rw [List.mem_singleton.mp hd]
        exact hc
theorem bb_fold {B : Int} : ∀ (cs acc : List Cut), Bb B acc → Bb B cs → Bb B (cs.foldl plainStep acc)
  | [], _, h, _ => h
  | c :: r, acc, h, hc => bb_fold r (plainStep acc c) (bb_step h (hc c List.mem_cons_self)) fun d hd => hc d (List.mem_cons_of_mem _ hd)
theorem sm_plain {cs : List Cut} (g : Good cs) : Sm (plainL cs) := fun c hc => by
  have := bb_fold (B := 200) cs [] (fun _ z => nomatch z) (fun d hd => by have := g.ok d hd; omega) c hc
  omega
theorem sm_stret {fs : List Int} (h : ∀ f ∈ fs, 0 ≤ f ∧ f ≤ 1000) : Sm (stretL fs) := fun c hc => by
  have := bb_fold (B := 1001) (fs.map fun f => (f, f + 1)) [] (fun _ z => nomatch z) (fun d hd => by
    obtain ⟨f, hf, rfl⟩ := List.mem_map.mp hd
    have := h f hf
    show 0 ≤ f ∧ f ≤ 1001 ∧ 0 ≤ f + 1 ∧ f + 1 ≤ 1001
    omega) c hc
  omega
theorem srcs_bd {cs : List Cut} (g : Good cs) : ∀ f ∈ srcs cs, 0 ≤ f ∧ f ≤ 1000 := fun f hf => by
  obtain ⟨c, hc, hm⟩ := List.mem_flatMap.mp hf
  obtain ⟨h1, h2⟩ := mem_rng.mp hm
  have := g.ok c hc
  omega
theorem srcs_few {cs : List Cut} (g : Good cs) : ((srcs cs).length : Int) = total cs ∧ (srcs cs).length ≤ 3200 := by
  have h1 := srcs_len g.le
  have h2 := g.tot
  exact ⟨h1, by omega⟩
theorem stret_len (fs : List Int) : (stretL fs).length ≤ fs.length := by
  have := plainL_len (fs.map fun f => ((f, f + 1) : Cut))
  rw [List.length_map] at this
  exact this
theorem inV_ints (k : Int) : ∀ fs : List Int, inV (.int k) (fs.map V.int) = decide (k ∈ fs)
  | [] => by simp [inV]
  | f :: r => by
    have ih := inV_ints k r
    unfold inV at ih ⊢
    rw [List.map_cons, List.any_cons, ih]
    have e : eqV (.int f) (.int k) = decide (f = k) := by
      simp [eqV]
      rw [Bool.eq_iff_iff, beq_iff_eq, decide_eq_true_eq]
    rw [e, Bool.eq_iff_iff, Bool.or_eq_true, decide_eq_true_eq, decide_eq_true_eq, decide_eq_true_eq, List.mem_cons]
    constructor
    · rintro (z | z)
      · exact .inl z.symm
      · exact .inr z
    · rintro (z | z)
      · exact .inl z.symm
      · exact .inr z
theorem flat_ints : ∀ fs : List Int, (fs.map V.int).all flatV = true
  | [] => rfl
  | f :: r => by rw [List.map_cons, List.all_cons, flat_ints r]; rfl
theorem notin_cnt (cs : List Cut) (k : Int) : (!inV (.int k) ((srcs cs).map V.int)) = decide (cnt cs k = 0) := by
  rw [inV_ints, ← cnt_count cs k]
  by_cases h : k ∈ srcs cs
  · have := List.count_pos_iff.mpr h
    rw [decide_eq_true h, decide_eq_false (by omega)]
    rfl
  · rw [decide_eq_false h, decide_eq_true (List.count_eq_zero.mpr h)]
    rfl
theorem sh_no : SeqAt.shaped (.tuple [.str "nothing", .none]) = true := by decide +kernel
theorem eq_no : (!PyData.eqv (.tuple [.str "nothing", .none]) (.tuple [.str "nothing", .none])) = false := by decide +kernel
theorem rng_pre (n : Int) : rng 0 n = (List.range n.toNat).map fun (i : Nat) => (0 : Int) + (i : Int) := by
  unfold rng
  rw [Int.sub_zero]
theorem pre_step (i : Nat) (p : Int → Bool) : (((List.range (i + 1)).map fun (j : Nat) => (0 : Int) + (j : Int)).filter p) = (((List.range i).map fun (j : Nat) => (0 : Int) + (j : Int)).filter p) ++ if p ((0 : Int) + (i : Int)) = true then [(0 : Int) + (i : Int)] else [] := by
  rw [List.range_succ, List.map_append, List.filter_append]
  congr 1
  rw [List.map_singleton, List.filter_cons]
  rfl
theorem pre_len (i : Nat) (p : Int → Bool) : (((List.range i).map fun (j : Nat) => (0 : Int) + (j : Int)).filter p).length ≤ i := by
  refine Nat.le_trans (List.length_filter_le _ _) ?_
  rw [List.length_map, List.length_range]
  exact Nat.le_refl _
theorem pre_mem {i : Nat} {p : Int → Bool} {f : Int} (h : f ∈ ((List.range i).map fun (j : Nat) => (0 : Int) + (j : Int)).filter p) : 0 ≤ f ∧ f < i := by
  obtain ⟨h1, _⟩ := List.mem_filter.mp h
  obtain ⟨j, hj, rfl⟩ := List.mem_map.mp h1
  have := List.mem_range.mp hj
  omega
theorem told_eq {cs ds : List Cut} (g : Good cs) (gd : Good ds) : dTold (total cs) (plainL cs) (srcs cs) (decide (plainL cs = plainL ds)) = dTold ((srcs cs).length : Int) (stretL (srcs cs)) (srcs cs) (decide (srcs cs = srcs ds)) := by
  rw [(srcs_few g).1, plain_stret g.lt]
  congr 1
  rw [Bool.eq_iff_iff, decide_eq_true_eq, decide_eq_true_eq, ← plain_stret g.lt]
  exact alike_iff g.lt gd.lt
end Cap

set_option Elab.async false
set_option linter.all false
set_option maxRecDepth 100000
set_option maxHeartbeats 8000000
/-! _law_right -/
namespace Cap
open PySem PySem.Spec PyProof.Rows L2 CapS LamX
/-- where the defs and the classes stand -/
structure Ads where
  fW : Addr
  fdW : FuncData
  fS : Addr
  fdS : FuncData
  fC : Addr
  fdC : FuncData
  fN : Addr
  fdN : FuncData
  fF : Addr
  fdF : FuncData
  fLI : Addr
  fdLI : FuncData
  fLe : Addr
  fdLe : FuncData
  fPs : Addr
  fdPs : FuncData
  fSo : Addr
  fdSo : FuncData
  fPI : Addr
  fdPI : FuncData
  fPl : Addr
  fdPl : FuncData
  fAl : Addr
  fdAl : FuncData
  fTi : Addr
  fdTi : FuncData
  fTw : Addr
  fdTw : FuncData
  fLo : Addr
  fdLo : FuncData
  fxBe : Addr
  fdxBe : FuncData
  fxNe : Addr
  fdxNe : FuncData
  fxOf : Addr
  fdxOf : FuncData
  fxOu : Addr
  fdxOu : FuncData
  fxFa : Addr
  fdxFa : FuncData
  fxCu : Addr
  fdxCu : FuncData
  fxSo : Addr
  fdxSo : FuncData
  fxSt : Addr
  fdxSt : FuncData
  fxOt : Addr
  fdxOt : FuncData
  fRi : Addr
  fdRi : FuncData
  cR : Addr
  pR : Addr
  CN : Addr
  fI : Addr
  c0 : Addr
  c1 : Addr
  c2 : Addr
  c3 : Addr
  c4 : Addr
  c5 : Addr
  c6 : Addr
  c7 : Addr
  c8 : Addr
  c9 : Addr
structure TxR (P : Program) (K : PySem.W.Frag) (mg : Str → Option Value) (d : Ads) : Prop where
  B : Blt mg
  W : Df K mg "is_whole" sWhole ["thing", "least", "most"] d.fW d.fdW
  S : Df K mg "is_stretch" sStretch ["begin", "end"] d.fS d.fdS
  C : Df K mg "is_cut" sIsCut ["thing"] d.fC d.fdC
  N : Df K mg "need_cuts" sNeedCuts ["thing"] d.fN d.fdN
  F : Df K mg "need_frame" sNeedFrame ["frame"] d.fF d.fdF
  LI : Df K mg "length_in" sLenIn ["cuts"] d.fLI d.fdLI
  Le : Df K mg "length" sLength ["cuts"] d.fLe d.fdLe
  Ps : Df K mg "places_of" sPlaces ["cuts"] d.fPs d.fdPs
  So : Df K mg "source" sSource ["cuts", "frame"] d.fSo d.fdSo
  PI : Df K mg "plain_in" sPlainIn ["cuts"] d.fPI d.fdPI
  Pl : Df K mg "plain" sPlain ["cuts"] d.fPl d.fdPl
  Al : Df K mg "alike_cuts" sAlike ["one", "other"] d.fAl d.fdAl
  Ti : Df K mg "times_shown" sTimes ["cuts", "end"] d.fTi d.fdTi
  Tw : Df K mg "twice" sTwice ["cuts"] d.fTw d.fdTw
  Lo : Df K mg "lost" sLost ["cuts", "end"] d.fLo d.fdLo
  xBe : Df K mg "_law_begun" sBegun ["_law_script"] d.fxBe d.fdxBe
  xNe : Df K mg "_law_next" sNext ["_law_m", "_law_total"] d.fxNe d.fdxNe
  xOf : Df K mg "_law_of" sOf ["_law_m", "_law_some"] d.fxOf d.fdxOf
  xOu : Df K mg "_law_outcome" sOut ["_law_call"] d.fxOu d.fdxOu
  xFa : Df K mg "_law_fault" sFault ["_law_e"] d.fxFa d.fdxFa
  xCu : Df K mg "_law_cuts" sCuts ["_law_m", "_law_most", "_law_far"] d.fxCu d.fdxCu
  xSo : Df K mg "_law_sources" sSources ["_law_cuts_here"] d.fxSo d.fdxSo
  xSt : Df K mg "_law_stretches" sStretches ["_law_frames"] d.fxSt d.fdxSt
  xOt : Df K mg "_law_otherwise" sOther ["_law_m", "_law_cuts_here"] d.fxOt d.fdxOt
  Ri : DfC K mg "_law_right" sRight ["_law_m", "_law_one", "_law_other"] d.fRi d.fdRi d.cR
  NT : NtC P K d.CN d.fI
  FA : FaC K mg d.CN d.c0 d.c1 d.c2 d.c3 d.c4 d.c5 d.c6 d.c7 d.c8 d.c9
  su : mg "super" = none
  Lf : ∃ t, mg "LAST_FRAME" = some (.int 1000000000000 t)
  Mc : ∃ t, mg "MOST_CUTS" = some (.int 60 t)
abbrev qR : Str := ("_law_right" : Str) ++ ".<locals>." ++ "<lambda>"
section
variable {P : Program} {w : World} {K : PySem.W.Frag} {mg : Str → Option Value} {base : Heap} {d : Ads}
theorem TxR.C' (T : TxR P K mg d) : TxC K mg d.fW d.fS d.fC d.fN d.fF d.fdW d.fdS d.fdC d.fdN d.fdF := ⟨T.B, T.W, T.S, T.C, T.N, T.F, T.Lf, T.Mc⟩
def rLenS (K : PySem.W.Frag) : List V → Hp → VK → Prop := fun xs H Q => ∃ p ys, xs = [.ref p] ∧ (SqL K H p ys ∨ SqT K H p ys) ∧ Q (.int ys.length) H
def tLamB (K : PySem.W.Frag) (CN : Addr) (E : XK) : TE := tCall (spSource CN) [] E (tCons (tVar 1) (tCons (tOp (rI0 fun i j => .int (i + j)) (tCB (rLenS K) (tCons (tVar 3) tNil)) (tCall spNext [] L2.E0 (tCons (tVar 0) (tCons (tC (.int 3)) tNil)))) tNil))
def ttCount (K : PySem.W.Frag) : TT := tTest (tOp (rI0 fun i j => .bl (decide (j < i))) (tBM K "list" (rCntI K) (tVar 3) (tCons (tVar 6) tNil)) (tC (.int 1)))
def spRight (pR : Addr) : Sp := fun vs H Q _ => ∃ (m l a b : Addr) (n : Int) (cs ds : List Cut), vs = [.ref m, .ref a, .ref b] ∧ MAt H m l n ∧ n < 900000 ∧ CutsT H a cs ∧ Good cs ∧ CutsT H b ds ∧ Good ds ∧ Tabs [(pR, qR)] H ∧
  ∀ H' l', MAt H' m l' (n + 10) → TK H H' → Tabs [(pR, qR)] H' → Q (.bl true) H'
theorem ok_right (T : TxR P K mg d) (TB : TabB base mg d.cR d.pR) : FnG P w K mg base 8 d.fRi d.fdRi ["_law_m", "_law_one", "_law_other"] (spRight d.pR) := by
  have TC := T.C'
  have GNe : FnOk P w K mg base L2.CX0 1 d.fxNe d.fdxNe ["_law_m", "_law_total"] spNext := ok_next T.xNe.fn T.B
  have GSo : FnOk P w K mg base L2.CX0 1 d.fxSo d.fdxSo ["_law_cuts_here"] spSources := ok_sources T.xSo.fn T.B
  have GSt : FnOk P w K mg base L2.CX0 1 d.fxSt d.fdxSt ["_law_frames"] (spStretches K) := ok_stretches T.xSt.fn T.B
  have GLe : FnOk P w K mg base L2.CX0 5 d.fLe d.fdLe ["cuts"] spLength := ok_length T.Le.fn TC T.LI
  have GPl : FnOk P w K mg base L2.CX0 5 d.fPl d.fdPl ["cuts"] spPlainOf := ok_plain T.Pl.fn TC T.PI
  have GAl : FnOk P w K mg base L2.CX0 5 d.fAl d.fdAl ["one", "other"] spAlike := ok_alike T.Al.fn TC T.PI
  have GTw : FnOk P w K mg base L2.CX0 5 d.fTw d.fdTw ["cuts"] spTwice := ok_twice T.Tw.fn TC T.PI T.Ti
  have GLo : FnOk P w K mg base L2.CX0 5 d.fLo d.fdLo ["cuts", "end"] spLost := ok_lost T.Lo.fn TC T.PI T.Ti
  have GSr : FnOk P w K mg base (L2.CX P w) 5 d.fSo d.fdSo ["cuts", "frame"] (spSource d.CN) := ok_source T.So.fn TC T.Ps T.NT T.FA.gN T.su
  obtain ⟨oc, od, kV, doc, pm, an, cdv, ct, osl, efd, lk, hcg⟩ := T.xOu.fn.ex
  have hbO := T.xOu.bd
  rw [efd] at lk hbO
  refine okG T.Ri.fn scRight (fun vs H Q E h => ?_) (fun A outer s H vs Q E hg hr h => ?_)
  · obtain ⟨m, l, a, b, n, cs, ds, rfl, _⟩ := h
    rfl
  · obtain ⟨m, l, a, b, n, cs, ds, rfl, hM, hn, hA, gc, hB, gd, hT, q⟩ := h
    have hr1 := hr.mono (show 1 ≤ 7 by decide)
    have hr5 := hr.mono (show 5 ≤ 7 by decide)
    have hu := hr.units
    refine ⟨_, pss_cons (ps_asg (pe_tup (pa_cons (pe_df T.xSo GSo hr1 pass0 (pa_cons (pv 1) pa_nil)) (pa_cons (pe_df T.xSo GSo hr1 pass0 (pa_cons (pv 2) pa_nil)) pa_nil))) (pg_tup rfl (pgs_cons (pg_name (i := 3) scRight.nd rfl (.inr rfl)) (pgs_cons (pg_name (i := 4) scRight.nd rfl (.inl rfl)) pgs_nil))))
      (pss_cons (ps_set (i := 5) scRight.nd rfl (.inl rfl) (pe_lst (pa_cons (pe_df T.Le GLe hr5 pass0 (pa_cons (pv 1) pa_nil)) (pa_cons (pe_df T.Pl GPl hr5 pass0 (pa_cons (pv 1) pa_nil)) (pa_cons
          (pe_lc (own := [("_law_k", 6)]) (g := gName 6) (tt := tYes) (te := tCall (spSource d.CN) [] L2.E0 (tCons (tVar 1) (tCons (tVar 6) tNil))) rfl scRight.nd (pi_range1 (by rfl) T.B.range (pa_cons (pe_callB call_len_seq (by rfl) T.B.len PySem.boot_len (pa_cons (pv 3) pa_nil)) pa_nil))
            (blkOk_by (own := [("_law_k", 6)]) (N := nRight) (sc := defScope sRight) (by decide +kernel)) (fun _ _ _ _ _ => pg_name (i := 6) scRight.nd rfl (Or.inl rfl)) (fun _ _ _ _ _ => pts_nil)
            (fun _ _ _ _ _ => pe_df T.So GSr hr5 passX0 (pa_cons (pv 1) (pa_cons (pv 6) pa_nil))))
          (pa_cons (pe_df T.Al GAl hr5 pass0 (pa_cons (pv 1) (pa_cons (pv 2) pa_nil))) pa_nil))))))
      (pss_cons (ps_if (pt_cmpR op_ne (pe_callB (call_repr hg hu) (by rfl) T.B.repr (by decide +kernel) (pa_cons (pv 5) pa_nil))
          (pe_callB (call_repr hg hu) (by rfl) T.B.repr (by decide +kernel) (pa_cons (pe_lst (pa_cons (pe_callB call_len_seq (by rfl) T.B.len PySem.boot_len (pa_cons (pv 3) pa_nil)) (pa_cons (pe_df T.xSt GSt hr1 pass0 (pa_cons (pv 3) pa_nil)) (pa_cons (pv 3) (pa_cons (pe_cmpR (op_eqD hu) (pv 3) (pv 4) (nomark _)) pa_nil))))) pa_nil)) (nomark _)) pss_never pss_nil)
      (pss_cons (ps_if (pt_cmpR (op_neD hu) (pe_lamcall (T := [(d.pR, qR)]) (TT := TTout d.CN) (k := 5) (t := tLamB K d.CN) (Ng := nOut) (a := "_law_call") (by rfl) T.xOu.gl T.xOu.fn.kp lk hcg hbO scOut rfl (.inl rfl)
            (out_gives (hr.mono (show 2 ≤ 7 by decide)) T.FA T.B T.xFa) TB rfl (List.mem_singleton.mpr rfl) (fun p hp _ => by rw [List.mem_singleton.mp hp]; rfl) hr (lamS_by (sc := defScope sRight) (by decide +kernel)) rfl (fun _ _ _ _ _ => rfl)
            (fun A outer s H E f c' hr2 => pe_df T.So GSr hr2 (passes_call (takes_of rfl rfl rfl rfl) (fun _ _ _ _ z => z)) (pa_cons (pv 1) (pa_cons (pe_op op_add (pe_callB call_len_seq (by rfl) T.B.len PySem.boot_len (pa_cons (pv 3) pa_nil)) (pe_df T.xNe GNe (hr2.mono (by decide)) pass0 (pa_cons (pv 0) (pa_cons pe_int pa_nil)))) pa_nil))))
          (pe_tup (pa_cons pe_str (pa_cons pe_non pa_nil))) (nomark _)) pss_never pss_nil)
      (pss_cons (ps_set (i := 7) scRight.nd rfl (.inl rfl) (pe_df T.xNe GNe hr1 pass0 (pa_cons (pv 0) (pa_cons pe_int pa_nil))))
      (pss_cons (ps_set (i := 8) scRight.nd rfl (.inl rfl) (pe_df T.xSt GSt hr1 pass0 (pa_cons
          (pe_lc (own := [("_law_k", 6)]) (g := gName 6) (tt := tTest (tOp (rIn K true) (tVar 6) (tVar 3))) (te := tVar 6) rfl scRight.nd (pi_range1 (by rfl) T.B.range (pa_cons (pv 7) pa_nil)) (blkOk_by (own := [("_law_k", 6)]) (N := nRight) (sc := defScope sRight) (by decide +kernel))
            (fun _ _ _ _ _ => pg_name (i := 6) scRight.nd rfl (Or.inl rfl)) (fun _ _ _ _ _ => pts_one (pt_cmpR op_notIn_seq (pv 6) (pv 3) (by with_unfolding_all rfl))) (fun _ _ _ _ _ => pv 6)) pa_nil)))
      (pss_cons (ps_set (i := 9) scRight.nd rfl (.inl rfl) (pe_df T.xSt GSt hr1 pass0 (pa_cons
          (pe_lc (own := [("_law_k", 6)]) (g := gName 6) (tt := ttCount K) (te := tVar 6) rfl scRight.nd (pi_range1 (by rfl) T.B.range (pa_cons pe_int pa_nil)) (blkOk_by (own := [("_law_k", 6)]) (N := nRight) (sc := defScope sRight) (by decide +kernel))
            (fun _ _ _ _ _ => pg_name (i := 6) scRight.nd rfl (Or.inl rfl)) (fun _ _ _ _ _ => pts_one (pt_cmpR op_gt (pe_bm PySem.F.plainAttrs_list PySem.F.slot_list_count PySem.F.type_list_count mt_lcount (pv 3) (pa_cons (pv 6) pa_nil)) pe_int (nomark _))) (fun _ _ _ _ _ => pv 6)) pa_nil)))
      (pss_one (ps_ret (pe_cmpR op_eq (pe_callB (call_repr hg hu) (by rfl) T.B.repr (by decide +kernel) (pa_cons (pe_lst (pa_cons (pe_df T.Lo GLo hr5 pass0 (pa_cons (pv 1) (pa_cons (pv 7) pa_nil))) (pa_cons (pe_df T.Tw GTw hr5 pass0 (pa_cons (pv 1) pa_nil)) pa_nil))) pa_nil))
          (pe_callB (call_repr hg hu) (by rfl) T.B.repr (by decide +kernel) (pa_cons (pe_lst (pa_cons (pv 8) (pa_cons (pv 9) pa_nil))) pa_nil)) (nomark _)))))))))), ?_⟩
    have few := srcs_few gc
    have tot := gc.tot
    refine ⟨_, rfl, a, cs, rfl, hA, gc, fun H1 fr s1 nfr hfr => ⟨_, rfl, b, ds, rfl, hB.keep (TK.of s1), gd, fun H2 fa s2 nfa hfa => ⟨by show 2 ≤ sizeLine; decide, fun t nt => ?_⟩⟩⟩
    have s02 : Same H (upd H2 t (.tup [.ref fr, .ref fa])) := fun b o z => upd_at (s2 _ _ (s1 b o z)) nt
    have g0 : Sg H m a b cs ds [(d.pR, qR)] fr n l (upd H2 t (.tup [.ref fr, .ref fa])) := ⟨hM.same s02, hT.ext s02, hA.keep (TK.of s02), hB.keep (TK.of s02), upd_at (s2 _ _ hfr) nt, Ap.new hM s02 nfr, TK.of s02⟩
    have f0 : (upd H2 t (.tup [.ref fr, .ref fa])) fa = some (.lst ((srcs ds).map V.int)) := upd_at hfa nt
    refine ⟨t, _, rfl, .inl (.inl upd_same), rfl, _, _, rfl, _, _, rfl, rfl, ?_⟩
    clear hA hB hT s1 s2 hfr hfa nfr nfa s02
    generalize (upd H2 t (.tup [.ref fr, .ref fa])) = G0 at g0 f0 ⊢
    refine ⟨_, rfl, a, cs, rfl, g0.A, gc, fun G1 s1 => ⟨_, rfl, a, cs, rfl, (g0.same s1).A, gc, fun G2 p s2 np hp => ?_⟩⟩
    have g2 := (g0.same s1).same s2
    have f2 := s2 _ _ (s1 _ _ f0)
    refine ⟨_, rfl, fr, _, rfl, .inl (.inl (.inl g2.F)), _, rfl, by rw [List.length_map]; omega, by rw [List.length_map]; omega, fun D nD => lc_range (lo := 0) (fun i H' => Same G2 H' ∧ H' D = some (.lst (((srcs cs).take i).map V.int))) ⟨same_new nD, upd_same⟩ ?_ ?_⟩
    · rintro i H3 hi ⟨s3, hD⟩
      have hi2 : i < (srcs cs).length := by
        rw [List.length_map] at hi
        omega
      refine ⟨rfl, yes ?_⟩
      refine ⟨_, rfl, _, rfl, a, cs, _, rfl, (g2.same s3).A, gc, by omega, by omega, fun z hz H4 s4 => ⟨_, s4 _ _ hD, ?_, same_put (fun b o e => s4 _ _ (s3 b o e)) nD, ?_⟩, fun le => absurd le (by omega)⟩
      · rw [List.length_map, List.length_take]
        exact smallLt (by omega)
      · have hz2 : (srcs cs)[i]? = some z := by
          rw [show ((0 : Int) + (i : Nat)).toNat = i by omega] at hz
          exact hz
        rw [upd_same, take_snoc hz2, List.map_append]
        rfl
    · rintro H3 ⟨s3, hD⟩
      rw [List.length_map, Int.toNat_natCast, List.take_length] at hD
      have g3 := g2.same s3
      refine ⟨_, rfl, _, rfl, a, b, cs, ds, rfl, g3.A, gc, g3.B, gd, fun G4 s4 => ⟨by show 4 ≤ sizeLine; decide, fun o no => ?_⟩⟩
      have g5 := (g3.same s4).same (same_new (o := .lst [.int (total cs), .ref p, .ref D, .bl (decide (plainL cs = plainL ds))]) no)
      have f5 : (upd G4 o (.lst [.int (total cs), .ref p, .ref D, .bl (decide (plainL cs = plainL ds))])) fa = _ := upd_at (s4 _ _ (s3 _ _ f2)) no
      have o5 : (upd G4 o (.lst [.int (total cs), .ref p, .ref D, .bl (decide (plainL cs = plainL ds))])) o = _ := upd_same
      have p5 := CutsT.keep (TK.of (fun b z e => upd_at (o := .lst [.int (total cs), .ref p, .ref D, .bl (decide (plainL cs = plainL ds))]) (s4 _ _ (s3 b z e)) no)) hp
      have d5 : (upd G4 o (.lst [.int (total cs), .ref p, .ref D, .bl (decide (plainL cs = plainL ds))])) D = some (.lst ((srcs cs).map V.int)) := upd_at (s4 _ _ hD) no
      clear hD np nD s4 s3 hp f2 g2 s2 s1 g0 f0
      generalize (upd G4 o (.lst [.int (total cs), .ref p, .ref D, .bl (decide (plainL cs = plainL ds))])) = G5 at g5 f5 o5 p5 d5 ⊢
      obtain ⟨pp, hpp, hpr⟩ := p5
      have R : Rok (dTold (total cs) (plainL cs) (srcs cs) (decide (plainL cs = plainL ds))) := rok_told (by omega) (sm_plain gc) (fun f hf => by have := srcs_bd gc f hf; omega) (Nat.le_trans (plainL_len cs) (by have := gc.few; omega)) (by omega)
      refine ⟨_, rfl, o, dTold (total cs) (plainL cs) (srcs cs) (decide (plainL cs = plainL ds)), rfl, .lst (.inl (.inl o5)) (.cons (.int _) (.cons (.tup (.inl (.inl hpp)) (dp_prs hpr)) (.cons (.lst (.inl (.inl d5)) (dp_ints _)) (.cons (.bl _) .nil)))), R, ?_⟩
      refine ⟨_, rfl, fr, _, rfl, .inl (.inl (.inl g5.F)), _, rfl, fr, srcs cs, rfl, .inl (.inl g5.F), by omega, fun G6 p2 s6 np2 hp2 => ?_⟩
      have g6 := g5.same s6
      refine ⟨_, rfl, _, rfl, _, rfl, .list ((srcs cs).map .int), .list ((srcs ds).map .int), .lst (.inl (.inl g6.F)) (dp_ints _), .lst (.inl (.inl (s6 _ _ f5))) (dp_ints _), sh_ints _, sh_ints _, by show 4 ≤ sizeLine; decide, fun o2 no2 => ?_⟩
      rw [List.length_map]
      have e7 : PyData.eqv (.list ((srcs cs).map .int)) (.list ((srcs ds).map .int)) = decide (srcs cs = srcs ds) := eqv_ints _ _
      rw [e7]
      have g7 := g6.same (same_new (o := .lst [.int ((srcs cs).length : Int), .ref p2, .ref fr, .bl (decide (srcs cs = srcs ds))]) no2)
      have o7 : (upd G6 o2 (.lst [.int ((srcs cs).length : Int), .ref p2, .ref fr, .bl (decide (srcs cs = srcs ds))])) o2 = _ := upd_same
      obtain ⟨pp2, hpp2, hpr2⟩ := hp2.keep (TK.new (o := .lst [.int ((srcs cs).length : Int), .ref p2, .ref fr, .bl (decide (srcs cs = srcs ds))]) no2)
      generalize (upd G6 o2 (.lst [.int ((srcs cs).length : Int), .ref p2, .ref fr, .bl (decide (srcs cs = srcs ds))])) = G7 at g7 o7 hpp2 hpr2 ⊢
      refine ⟨o2, dTold ((srcs cs).length : Int) (stretL (srcs cs)) (srcs cs) (decide (srcs cs = srcs ds)), rfl, .lst (.inl (.inl o7)) (.cons (.int _) (.cons (.tup (.inl (.inl hpp2)) (dp_prs hpr2)) (.cons (.lst (.inl (.inl g7.F)) (dp_ints _)) (.cons (.bl _) .nil)))), by rw [← told_eq gc gd]; exact R, rfl, _, rfl, ?_⟩
      rw [told_eq gc gd]
      refine ite0 (by rw [decide_eq_true (rfl : V.str _ = V.str _)]; rfl) ?_
      -- the outcome
      refine ⟨g7.T, fun G8 e8 t8 G9 Q1 s9 => ?_⟩
      have g9 := (g7.ext e8 t8).same s9
      refine ⟨_, rfl, _, rfl, fr, _, rfl, .inl (.inl (.inl g9.F)), _, rfl, m, l, n, 3, rfl, g9.M, by omega, by decide, by decide, fun G10 l10 r M10 x10 r0 r1 => ?_⟩
      have g10 := g9.next M10 x10
      rw [List.length_map]
      refine ⟨_, _, rfl, rfl, a, cs, _, rfl, g10.A, gc, by omega, by omega, fun z hz => ?_, fun _ G11 s11 => ⟨rfl, rfl, fun G12 t12 s12 ht12 => ?_⟩⟩
      · rw [List.getElem?_eq_none (by omega)] at hz
        cases hz
      have g12 := (g10.same s11).same s12
      refine ⟨by show 2 ≤ sizeLine; decide, fun t13 nt13 => ?_⟩
      have g13 := g12.same (same_new (o := .tup [.str "nothing", .non]) nt13)
      have h13 := upd_at (o := .tup [.str "nothing", .non]) ht12 nt13
      have h13b : (upd G12 t13 (.tup [.str "nothing", .non])) t13 = _ := upd_same
      generalize (upd G12 t13 (.tup [.str "nothing", .non])) = G13 at g13 h13 h13b ⊢
      refine ⟨.tuple [.str "nothing", .none], .tuple [.str "nothing", .none], .tup (.inl (.inl h13)) (.cons (.str _) (.cons .non .nil)), .tup (.inl (.inl h13b)) (.cons (.str _) (.cons .non .nil)), sh_no, sh_no, _, rfl, ite0 eq_no ?_⟩
      refine ⟨_, rfl, m, l10, _, 30, rfl, g13.M, by omega, by decide, by decide, fun G14 l14 last M14 x14 la0 la1 => ?_⟩
      have g14 := g13.next M14 x14
      have l14n : last.toNat ≤ 30 := by omega
      refine ⟨_, rfl, last, rfl, by omega, by omega, fun D nD => lc_range (lo := 0) (fun i H' => Same G14 H' ∧ H' D = some (.lst ((((List.range i).map fun (j : Nat) => (0 : Int) + (j : Int)).filter fun k => decide (cnt cs k = 0)).map V.int))) ⟨same_new nD, upd_same⟩ ?_ ?_⟩
      · rintro i H' hi ⟨s', hD⟩
        have hl := pre_len i fun k => decide (cnt cs k = 0)
        refine ⟨rfl, _, rfl, _, rfl, fr, _, rfl, .inl (.inl (.inl (g14.same s').F)), rfl, flat_ints _, _, rfl, ?_⟩
        rw [pre_step]
        by_cases c : cnt cs ((0 : Int) + (i : Int)) = 0
        · refine ite1 ((notin_cnt cs _).trans (decide_eq_true c)) ?_
          rw [if_pos (decide_eq_true c)]
          refine ⟨_, rfl, _, hD, by rw [List.length_map]; exact smallLt (by omega), same_put s' nD, ?_⟩
          rw [upd_same, List.map_append]
          rfl
        · refine ite0 ((notin_cnt cs _).trans (decide_eq_false c)) ?_
          rw [if_neg (by rw [decide_eq_false c]; exact Bool.false_ne_true), List.append_nil]
          exact ⟨s', hD⟩
      · rintro G15 ⟨s15, hD⟩
        have g15 := g14.same s15
        rw [← rng_pre] at hD
        have l15 : ((rng 0 last).filter fun k => decide (cnt cs k = 0)).length ≤ 30 := by
          rw [rng_pre]
          exact Nat.le_trans (pre_len _ _) l14n
        have b15 : Sm (stretL ((rng 0 last).filter fun k => decide (cnt cs k = 0))) := sm_stret fun f hf => by
          rw [rng_pre] at hf
          have := pre_mem hf
          omega
        refine ⟨D, _, rfl, .inl (.inl hD), by omega, fun G16 p16 s16 np16 hp16 => ?_⟩
        have g16 := g15.same s16
        refine ⟨200, rfl, by decide, by decide, fun D2 nD2 => lc_range (lo := 0) (fun i H' => Same G16 H' ∧ H' D2 = some (.lst ((((List.range i).map fun (j : Nat) => (0 : Int) + (j : Int)).filter fun k => decide (1 < cnt cs k)).map V.int))) ⟨same_new nD2, upd_same⟩ ?_ ?_⟩
        · rintro i H' hi ⟨s', hD2⟩
          have hi2 : i < 200 := hi
          have hl := pre_len i fun k => decide (1 < cnt cs k)
          refine ⟨rfl, _, rfl, .inl ⟨rfl, _, .inl (.inl (g16.same s').F)⟩, _, rfl, fr, srcs cs, _, rfl, rfl, .inl (.inl (g16.same s').F), _, _, rfl, rfl, _, rfl, ?_⟩
          rw [cnt_count, pre_step]
          by_cases c : 1 < cnt cs ((0 : Int) + (i : Int))
          · refine ite1 (decide_eq_true (show (1 : Int) < ((cnt cs ((0 : Int) + (i : Int)) : Nat) : Int) by omega)) ?_
            rw [if_pos (decide_eq_true c)]
            refine ⟨_, rfl, _, hD2, by rw [List.length_map]; exact smallLt (by omega), same_put s' nD2, ?_⟩
            rw [upd_same, List.map_append]
            rfl
          · refine ite0 (decide_eq_false (show ¬ (1 : Int) < ((cnt cs ((0 : Int) + (i : Int)) : Nat) : Int) by omega)) ?_
            rw [if_neg (by rw [decide_eq_false c]; exact Bool.false_ne_true), List.append_nil]
            exact ⟨s', hD2⟩
        · rintro G17 ⟨s17, hD2⟩
          have g17 := g16.same s17
          have e200 : rng 0 200 = (List.range (200 : Int).toNat).map fun (i : Nat) => (0 : Int) + (i : Int) := rng_pre 200
          rw [← e200] at hD2
          have l17 : ((rng 0 200).filter fun k => decide (1 < cnt cs k)).length ≤ 200 := by
            rw [e200]
            exact pre_len _ _
          have b17 : Sm (stretL ((rng 0 200).filter fun k => decide (1 < cnt cs k))) := sm_stret fun f hf => by
            rw [e200] at hf
            have := pre_mem hf
            have e : ((200 : Int).toNat : Int) = 200 := rfl
            omega
          refine ⟨D2, _, rfl, .inl (.inl hD2), by omega, fun G18 p18 s18 np18 hp18 => ?_⟩
          have g18 := g17.same s18
          refine ⟨_, rfl, _, rfl, a, cs, last, rfl, g18.A, gc, la0, by omega, fun G19 p19 s19 np19 hp19 => ⟨_, rfl, a, cs, rfl, (g18.same s19).A, gc, fun G20 p20 s20 np20 hp20 => ⟨by show 2 ≤ sizeLine; decide, fun o3 no3 => ?_⟩⟩⟩
          have g20 := (g18.same s19).same s20
          have g21 := g20.same (same_new (o := .lst [.ref p19, .ref p20]) no3)
          have h21 : (upd G20 o3 (.lst [.ref p19, .ref p20])) o3 = _ := upd_same
          obtain ⟨q19, a19, b19⟩ := (hp19.keep (TK.of s20)).keep (TK.new (o := .lst [.ref p19, .ref p20]) no3)
          obtain ⟨q20, a20, b20⟩ := hp20.keep (TK.new (o := .lst [.ref p19, .ref p20]) no3)
          have c16 : CutsT (upd G20 o3 (.lst [.ref p19, .ref p20])) p16 (stretL ((rng 0 last).filter fun k => decide (cnt cs k = 0))) := hp16.keep (TK.of fun b z e => upd_at (s20 _ _ (s19 _ _ (s18 _ _ (s17 b z e)))) no3)
          have c18 : CutsT (upd G20 o3 (.lst [.ref p19, .ref p20])) p18 (stretL ((rng 0 200).filter fun k => decide (1 < cnt cs k))) := hp18.keep (TK.of fun b z e => upd_at (s20 _ _ (s19 b z e)) no3)
          generalize (upd G20 o3 (.lst [.ref p19, .ref p20])) = G21 at g21 h21 a19 b19 a20 b20 c16 c18 ⊢
          have R2 : Rok (dTwo (stretL ((rng 0 last).filter fun k => decide (cnt cs k = 0))) (stretL ((rng 0 200).filter fun k => decide (1 < cnt cs k)))) := rok_two b15 b17 (Nat.le_trans (stret_len _) (by omega)) (Nat.le_trans (stret_len _) (by omega))
          refine ⟨o3, _, rfl, .lst (.inl (.inl h21)) (.cons (.tup (.inl (.inl a19)) (dp_prs b19)) (.cons (.tup (.inl (.inl a20)) (dp_prs b20)) .nil)), R2, ?_⟩
          refine ⟨_, rfl, _, rfl, by show 2 ≤ sizeLine; decide, fun o4 no4 => ?_⟩
          have g22 := g21.same (same_new (o := .lst [.ref p16, .ref p18]) no4)
          have h22 : (upd G21 o4 (.lst [.ref p16, .ref p18])) o4 = _ := upd_same
          obtain ⟨q16, a16, b16⟩ := c16.keep (TK.new (o := .lst [.ref p16, .ref p18]) no4)
          obtain ⟨q18, a18, b18⟩ := c18.keep (TK.new (o := .lst [.ref p16, .ref p18]) no4)
          refine ⟨o4, _, rfl, .lst (.inl (.inl h22)) (.cons (.tup (.inl (.inl a16)) (dp_prs b16)) (.cons (.tup (.inl (.inl a18)) (dp_prs b18)) .nil)), R2, rfl, ?_⟩
          exact bt (decide_eq_true rfl) (q _ l14 (g22.M.mono (by omega)) g22.K g22.T)

end
end Cap

set_option Elab.async false
set_option linter.all false
set_option maxRecDepth 100000
set_option maxHeartbeats 4000000
/-! t[::-1] of a tuple -/
namespace Cap
open PySem PySem.Spec PyProof.Rows L2 HT
theorem rev_pick (xs : Array Value) : ((List.range xs.size).filterMap fun (k : Nat) => xs[((xs.size : Int) - 1 + (k : Int) * (-1)).toNat]?) = xs.toList.reverse := by
  have e : (fun (k : Nat) => xs[((xs.size : Int) - 1 + (k : Int) * (-1)).toNat]?) = (xs[·]?) ∘ fun k => xs.size - 1 - k := by
    funext k
    show xs[((xs.size : Int) - 1 + (k : Int) * (-1)).toNat]? = xs[xs.size - 1 - k]?
    have : ((xs.size : Int) - 1 + (k : Int) * (-1)).toNat = xs.size - 1 - k := by omega
    rw [this]
  rw [e, ← List.filterMap_map, PySem.W.krv_range, List.filterMap_reverse, PySem.W.krv_all]
theorem adj_rev (n : Nat) : Builtin.Slice.sliceAdjust none none (-1) (n : Int) = ((n : Int) - 1, -1) := rfl
theorem pl_rev (n : Nat) : Builtin.Slice.slicePlaces ((n : Int) - 1) (-1) (-1) = n := by
  unfold Builtin.Slice.slicePlaces
  rw [if_neg (by decide)]
  by_cases h : n = 0
  · subst h
    rfl
  · rw [if_pos (by omega)]
    have : ((n : Int) - 1 - -1 - 1) / -(-1) = (n : Int) - 1 := by
      rw [show (-(-1) : Int) = 1 by decide, Int.ediv_one]
      omega
    rw [this]
    omega
section
variable {prog : Program} {w : World} {A : Around} {E : Value → Shared → Prop} {s : Shared}
theorem getItem_tuple_rev {t sl : Addr} {items : Array Value} {vs : Value} {Q : Value → Shared → Prop} (ht : IsTup s.heap t items) (hs : s.heap.IsSliceOf sl .none .none vs) (ps : IsPart vs (some (-1)))
    (h : Q (.ref s.heap.objs.size) { s with heap := s.heap.push { cls := .type "tuple", data := .seq items.toList.reverse.toArray } }) (hsz : items.size ≤ sizeLine) : wpAny (model prog w) A (getItem (.ref t) (.ref sl)) Q E s := by
  have htake : sizeOk (.seq items.toList.reverse.toArray) := by
    show items.toList.reverse.toArray.size ≤ sizeLine
    rw [List.size_toArray, List.length_reverse, Array.length_toList]
    exact hsz
  obtain ⟨os, hos, hcs, hds⟩ := id hs
  have hTs : s.TypeIs (.ref sl) "slice" := ⟨os, hos, hcs⟩
  unfold getItem
  try with_reducible refine wpAny_holding ?_
  first | refine wpAny_bind (wpAny_pure ?_) | skip
  refine wpAny_bind (wpAny_sequenceKey ht.typeIs (by decide) ?_)
  refine wpAny_bind (wpAny_callSpecial?_slot (name := Str.ofString "__getitem__") ht.typeIs PyProof.Rows.slot_tuple_getitem
    (wpAny_call_entry PyProof.Rows.slot_tuple_getitem ht.typeIs entry_tuple_getitem ?_ (args_tuple_getitem _ _)))
  show wpAny _ _ (Builtin.Tuple.tupleItemsOf (.ref t) >>= _) _ _ s
  refine wpAny_bind (tupleItemsOf_ ht ?_)
  refine wpAny_bind (wpAny_typeOf hTs ?_)
  rw [if_pos (by decide)]
  refine wpAny_bind ?_
  unfold Builtin.Slice.sliceApplied Builtin.Slice.sliceFields
  refine wpAny_bind (wpAny_bind (wpAny_field hos hds (x := .none) rfl (wpAny_bind (wpAny_field hos hds (x := .none) rfl (wpAny_bind (wpAny_field hos hds (x := vs) rfl (wpAny_pure ?_)))))))
  refine wpAny_bind (slicePart_ ps ?_)
  show wpAny _ _ (if ((-1 : Int) == 0) = true then _ else _) _ _ s
  rw [if_neg (by decide)]
  refine wpAny_bind (slicePart_none (wpAny_bind (slicePart_none (wpAny_bind (wpAny_pure ?_)))))
  show wpAny _ _ (match Builtin.Slice.sliceAdjust none none (-1) (items.size : Int) with | (lo, hi) => pure (lo, (-1 : Int), Builtin.Slice.slicePlaces lo hi (-1))) _ _ s
  rw [adj_rev]
  show wpAny _ _ (pure ((items.size : Int) - 1, (-1 : Int), Builtin.Slice.slicePlaces ((items.size : Int) - 1) (-1) (-1))) _ _ s
  rw [pl_rev]
  refine wpAny_pure ?_
  have hno : ¬ ((((items.size : Int) - 1) == 0 && (-1 : Int) == 1 && items.size == items.size) = true) := by
    rw [show ((-1 : Int) == 1) = false by decide, Bool.and_false, Bool.false_and]
    exact Bool.false_ne_true
  show wpAny _ _ (if (((items.size : Int) - 1) == 0 && (-1 : Int) == 1 && items.size == items.size) = true then _ else _) _ _ s
  rw [if_neg hno, rev_pick]
  first
    | exact wpAny_bind (m := Builtin.Tuple.tupleExact _) (wpAny_newObj_type (wpAny_pure ⟨_, rfl, wpAny_pure h⟩) htake)
    | exact wpAny_bind (m := Builtin.Tuple.tupleExact _) (wpAny_newObj_type (wpAny_bind (wpAny_pure (wpAny_pure ⟨_, rfl, wpAny_pure h⟩))) htake)
    | exact wpAny_bind (wpAny_bind (m := Builtin.Tuple.tupleExact _) (wpAny_newObj_type (wpAny_pure (wpAny_pure ⟨_, rfl, wpAny_pure h⟩)) htake))
    | exact wpAny_bind (wpAny_bind (m := Builtin.Tuple.tupleExact _) (wpAny_newObj_type (wpAny_pure ⟨_, rfl, wpAny_pure h⟩) htake))
end
section
variable {X : Cx}
def tRevT (K : PySem.W.Frag) (te : TE) : TE := fun σ H Q => te σ H fun x H1 => ∃ a xs, x = .ref a ∧ SqT K H1 a xs ∧ ∀ p, H1 p = none → Q (.ref p) (upd H1 p (.tup xs.reverse))
theorem pe_revT {e : Expr} {te : TE} {k : Nat} {p1 p2 p3 pos : Pos} (he : PE X e te) : PE X (.Subscript e (.Slice none none (some (.UnaryOp .USub (.Constant (.int 1) k p1) p2)) p3) pos) (tRevT X.K te) := by
  refine ⟨fun pins s σ H Q I h => ?_⟩
  refine Subscript_ (thn (he.run pins s σ H _ I h) fun v s1 ⟨x, H1, I1, r1, q1⟩ => ?_)
  obtain ⟨a, xs, ex, hx, q⟩ := q1
  subst ex
  cases r1
  have hst : PO X (some (.UnaryOp .USub (.Constant (.int 1) k p1) p2)) (tPart (tUn (rU fun i => .int (-i)) (tC (.int 1)))) := po_some (pe_un un_neg pe_int)
  refine wpAny_Slice ?_
  rw [evalPart_none]
  refine wpAny_pure (wpAny_pure ?_)
  refine thn (hst.run pins s1 σ H1 (fun o H4 => o = some (-1) ∧ H4 = H1) I1 ⟨1, rfl, -1, rfl, rfl, rfl⟩) fun vs s4 ⟨o, H4, I4, ps, eo, e4⟩ => ?_
  subst eo e4
  have I5 : Inv X pins σ H4 { s4 with heap := s4.heap.push { cls := .type "slice", data := .fields #[.none, .none, vs] } } := I4.kept (t' := s4.toks) fun b ob q => Heap.get?_push_of_some _ q
  obtain ⟨its, r, ht, hz⟩ := I5.tuple hx
  have hlen := r.length
  show wpAny (model X.prog X.w) X.A (subscriptTail e (.Slice none none (some (.UnaryOp .USub (.Constant (.int 1) k p1) p2)) p3) (.ref a) (.ref s4.heap.objs.size)) (EP X pins σ Q) X.xe { s4 with heap := s4.heap.push { cls := .type "slice", data := .fields #[.none, .none, vs] } }
  refine tail_any (ops := [.ref a, .ref s4.heap.objs.size]) ht.typeIs PyProof.Rows.slot_tuple_getitem.lookup ?_ (by with_unfolding_all rfl)
  refine getItem_tuple_rev ht (Heap.IsSliceOf.new _ .none .none vs) ps ?_ (by rw [List.size_toArray]; omega)
  refine ⟨.ref _, _, I5.laid (t' := s4.toks) (o := .tup xs.reverse) (fun b ob q => Heap.get?_push_of_some _ q) (Nat.le_refl _) ?_, rfl, q _ (I5.hok.fresh (Nat.le_refl _))⟩
  exact ⟨by rw [List.length_reverse]; exact hz, _, r.reverse, IsTup.new _ _⟩
end
end Cap

set_option Elab.async false
set_option linter.all false
set_option maxRecDepth 100000
set_option maxHeartbeats 8000000
/-! law -/
namespace Cap
open PySem PySem.Spec PyProof.Rows L2 CapS LamX
abbrev sLaw : Stmt := topS 43
theorem scLaw : FnScope ["_law_script", "_law_m", "_law_turn", "_law_one", "_law_other"] ["_law_script"] (defScope sLaw) := ⟨rfl, rfl, rfl, by decide +kernel, rfl, by decide +kernel, by decide +kernel⟩
def spLaw (K : PySem.W.Frag) (pR : Addr) : Sp := fun vs H Q _ => ∃ (a : Addr) (ns : List Int), vs = [.ref a] ∧ SqL K H a (ns.map V.int) ∧ ns.length ≤ 63 ∧ Tabs [(pR, qR)] H ∧ ∀ H', Q (.bl true) H'
theorem good_rev {cs : List Cut} (g : Good cs) : Good cs.reverse := ⟨by rw [List.length_reverse]; exact g.few, fun c hc => g.ok c (List.mem_reverse.mp hc)⟩
theorem good_two {cs : List Cut} (h : cs.length ≤ 8) (bd : Bd cs) : Good (cs ++ cs) := ⟨by rw [List.length_append]; omega, fun c hc => by
  have hc' : c ∈ cs := by
    rcases List.mem_append.mp hc with z | z <;> exact z
  have := bd c hc'
  omega⟩
theorem last_plain : plainL [(0, 5), (5, 9), (2, 4)] = [(0, 9), (2, 4)] := by decide +kernel
section
variable {P : Program} {w : World} {K : PySem.W.Frag} {mg : Str → Option Value} {base : Heap} {d : Ads}
theorem ok_law {fL cL : Addr} {fdL : FuncData} (F : FunC K "law" "law" sLaw fL fdL cL) (T : TxR P K mg d) (TB : TabB base mg d.cR d.pR) : FnG P w K mg base 9 fL fdL ["_law_script"] (spLaw K d.pR) := by
  have TC := T.C'
  have GBe : FnOk P w K mg base L2.CX0 1 d.fxBe d.fdxBe ["_law_script"] (spBegun K) := ok_begun T.xBe.fn T.B
  have GCu : FnOk P w K mg base L2.CX0 3 d.fxCu d.fdxCu ["_law_m", "_law_most", "_law_far"] spCuts := ok_cuts T.xCu.fn T.B T.xNe T.xOf
  have GOt : FnOk P w K mg base L2.CX0 6 d.fxOt d.fdxOt ["_law_m", "_law_cuts_here"] spOther := ok_other T.xOt.fn TC T.PI T.Pl T.xNe
  have GPl : FnOk P w K mg base L2.CX0 5 d.fPl d.fdPl ["cuts"] spPlainOf := ok_plain T.Pl.fn TC T.PI
  have GRi : FnG P w K mg base 8 d.fRi d.fdRi ["_law_m", "_law_one", "_law_other"] (spRight d.pR) := ok_right T TB
  refine okG F scLaw (fun vs H Q E h => ?_) (fun A outer s H vs Q E hg hr h => ?_)
  · obtain ⟨a, ns, rfl, _⟩ := h
    rfl
  · obtain ⟨a, ns, rfl, ha, hn, hT, q⟩ := h
    have hr1 := hr.mono (show 1 ≤ 8 by decide)
    have hr3 := hr.mono (show 3 ≤ 8 by decide)
    have hr5 := hr.mono (show 5 ≤ 8 by decide)
    have hr6 := hr.mono (show 6 ≤ 8 by decide)
    have hu := hr.units
    refine ⟨_, pss_cons (ps_set (i := 1) scLaw.nd rfl (.inl rfl) (pe_df T.xBe GBe hr1 pass0 (pa_cons (pv 0) pa_nil)))
      (pss_cons (ps_for PassesOwn.never rfl (pi_range1 (by rfl) T.B.range (pa_cons (pe_op op_add pe_int (pe_callB (call_min2 rfl) (by rfl) T.B.min (by decide +kernel) (pa_cons (pe_callB call_len_seq (by rfl) T.B.len PySem.boot_len (pa_cons (pv 0) pa_nil)) (pa_cons pe_int pa_nil)))) pa_nil)) (pg_name (i := 2) scLaw.nd rfl (.inl rfl))
        (pss_cons (ps_set (i := 3) scLaw.nd rfl (.inl rfl) (pe_df T.xCu GCu hr3 pass0 (pa_cons (pv 1) (pa_cons pe_int (pa_cons pe_int pa_nil)))))
        (pss_one (ps_for PassesOwn.never rfl (pi_tup (pe_tup (pa_cons (pe_df T.xOt GOt hr6 pass0 (pa_cons (pv 1) (pa_cons (pv 3) pa_nil))) (pa_cons (pe_df T.xCu GCu hr3 pass0 (pa_cons (pv 1) (pa_cons pe_int (pa_cons pe_int pa_nil)))) (pa_cons (pe_revT (pv 3)) (pa_cons (pe_op op_catA (pv 3) (pv 3)) pa_nil)))))) (pg_name (i := 4) scLaw.nd rfl (.inl rfl))
          (pss_one (ps_if (PW.pt (pw_or (pt_not (pt_val (pe_G T.Ri GRi hg hr (pa_cons (pv 1) (pa_cons (pv 3) (pa_cons (pv 4) pa_nil)))))) (pw_or1 (pt_not (pt_val (pe_G T.Ri GRi hg hr (pa_cons (pv 1) (pa_cons (pv 4) (pa_cons (pv 3) pa_nil))))))))) pss_never pss_nil))))))
      (pss_one (ps_ret (pe_cmpR (op_eqD hu) (pe_df T.Pl GPl hr5 pass0 (pa_cons (pe_tup (pa_cons (pe_tup (pa_cons pe_int (pa_cons pe_int pa_nil))) (pa_cons (pe_tup (pa_cons pe_int (pa_cons pe_int pa_nil))) (pa_cons (pe_tup (pa_cons pe_int (pa_cons pe_int pa_nil))) pa_nil)))) pa_nil))
          (pe_tup (pa_cons (pe_tup (pa_cons pe_int (pa_cons pe_int pa_nil))) (pa_cons (pe_tup (pa_cons pe_int (pa_cons pe_int pa_nil))) pa_nil))) (nomark _))))), ?_⟩
    refine ⟨_, rfl, a, ns, rfl, ha, hn, fun H1 m l1 s1 nm M1 => ?_⟩
    have T1 := hT.ext s1
    refine ⟨_, rfl, a, _, rfl, .inl (SqL_keep s1 ha), _, _, rfl, _, _, rfl, rfl, _, rfl, ?_, ?_, ?_⟩
    · split <;> omega
    · rw [List.length_map]
      split <;> omega
    have hj : (5 + if (8 : Int) < ((ns.map V.int).length : Int) then (8 : Int) else ((ns.map V.int).length : Int)).toNat ≤ 13 := by
      split <;> omega
    generalize (5 + if (8 : Int) < ((ns.map V.int).length : Int) then (8 : Int) else ((ns.map V.int).length : Int)).toNat = N at hj ⊢
    refine for_range (lo := 0) (fun i σ H' => ∃ y2 y3 y4 l, σ = [some (.ref a), some (.ref m), y2, y3, y4] ∧ MAt H' m l (1000 * (i : Nat)) ∧ Tabs [(d.pR, qR)] H') ⟨none, none, none, l1, rfl, M1.mono (by omega), T1⟩ ?_ ?_
    · rintro i σ H2 hi ⟨y2, y3, y4, l2, rfl, M2, T2⟩
      refine ⟨_, rfl, m, l2, _, 8, 20, rfl, M2, by omega, by decide, by decide, by decide, by decide, fun H3 l3 p cs M3 x3 A3 few bd => ?_⟩
      have T3 := x3.tabs M2 T2
      refine ⟨_, rfl, _, rfl, m, l3, p, _, cs, rfl, M3, by omega, A3, few, bd, fun H4 l4 p4 ds4 M4 x4 A4 few4 bd4 => ?_⟩
      have T4 := x4.tabs M3 T3
      refine ⟨_, rfl, m, l4, _, 3, 9, rfl, M4, by omega, by decide, by decide, by decide, by decide, fun H5 l5 p5 ds5 M5 x5 A5 few5 bd5 => ?_⟩
      have T5 := x5.tabs M4 T4
      have A5o := (A3.keep (x4.tk M3)).keep (x5.tk M4)
      have A54 := A4.keep (x5.tk M4)
      obtain ⟨ps, hps, hpr⟩ := A5o
      refine ⟨_, rfl, p, ps, rfl, .inl (.inl hps), fun p6 np6 => ?_⟩
      have s6 : Same H5 (upd H5 p6 (.tup ps.reverse)) := same_new np6
      have e6 : (upd H5 p6 (.tup ps.reverse)) p6 = some (.tup ps.reverse) := upd_same
      generalize (upd H5 p6 (.tup ps.reverse)) = H6 at s6 e6 ⊢
      have hlen : ps.length = cs.length := Paired.length hpr
      refine ⟨_, rfl, _, rfl, cat_read (s6 _ _ hps) (s6 _ _ hps) (small (by omega)) fun H7 p7 s7 hp7 => ?_⟩
      have s57 : Same H5 H7 := fun b o z => s7 _ _ (s6 b o z)
      refine ⟨by show 4 ≤ sizeLine; decide, fun t nt => ?_⟩
      have s58 : Same H5 (upd H7 t (.tup [.ref p4, .ref p5, .ref p6, .ref p7])) := fun b o z => upd_at (s57 b o z) nt
      have e8 : (upd H7 t (.tup [.ref p4, .ref p5, .ref p6, .ref p7])) t = some (.tup [.ref p4, .ref p5, .ref p6, .ref p7]) := upd_same
      have k6 := upd_at (o := .tup [.ref p4, .ref p5, .ref p6, .ref p7]) (s7 _ _ e6) nt
      have k7 := upd_at (o := .tup [.ref p4, .ref p5, .ref p6, .ref p7]) hp7 nt
      generalize (upd H7 t (.tup [.ref p4, .ref p5, .ref p6, .ref p7])) = H8 at s58 e8 k6 k7 ⊢
      have pr8 := Prs.keep (TK.of s58) hpr
      have One : CutsT H8 p cs := ⟨ps, s58 _ _ hps, pr8⟩
      have gOne : Good cs := Bd.good bd (by omega)
      have all : ∀ (j : Nat) (x : V), [V.ref p4, .ref p5, .ref p6, .ref p7][j]? = some x → ∃ q ds, x = .ref q ∧ CutsT H8 q ds ∧ Good ds := fun j x hx => by
        match j, hx with
        | 0, hx => exact ⟨p4, ds4, (Option.some.inj hx).symm, A54.keep (TK.of s58), Bd.good bd4 (by omega)⟩
        | 1, hx => exact ⟨p5, ds5, (Option.some.inj hx).symm, A5.keep (TK.of s58), Bd.good bd5 (by omega)⟩
        | 2, hx => exact ⟨p6, cs.reverse, (Option.some.inj hx).symm, ⟨_, k6, Pd.rev pr8⟩, good_rev gOne⟩
        | 3, hx => exact ⟨p7, cs ++ cs, (Option.some.inj hx).symm, ⟨_, k7, Pd.app pr8 pr8⟩, good_two few bd⟩
      refine ⟨t, rfl, ⟨_, .inl (.inl e8)⟩, for_tup (xs := [.ref p4, .ref p5, .ref p6, .ref p7]) (fun j σ H' => ∃ y4 l, σ = [some (.ref a), some (.ref m), some (.int ((0 : Int) + (i : Nat))), some (.ref p), y4] ∧ MAt H' m l (1000 * (i : Nat) + 200 + 20 * (j : Nat)) ∧ TK H8 H' ∧ Tabs [(d.pR, qR)] H')
        ⟨_, l5, rfl, (M5.same s58).mono (by omega), TK.refl _, T5.ext s58⟩ (fun j σ H' _ ⟨_, _, _, _, tk, _⟩ => .inl (.inl (tk _ _ e8))) ?_ ?_⟩
      · rintro j x σ H9 hx ⟨y4, l9, rfl, M9, tk9, T9⟩
        have hj4 : j < 4 := by
          rcases Nat.lt_or_ge j 4 with z | z
          · exact z
          · rw [List.getElem?_eq_none z] at hx
            cases hx
        obtain ⟨o, ds, rfl, Ao, go⟩ := all j x hx
        refine ⟨_, rfl, _, rfl, _, rfl, m, l9, p, o, _, cs, ds, rfl, M9, by omega, One.keep tk9, gOne, Ao.keep tk9, go, T9, fun H10 l10 M10 tk10 T10 => ⟨_, rfl, iteF ?_⟩⟩
        have tk810 := tk9.trans tk10
        refine ⟨_, rfl, _, rfl, _, rfl, m, l10, o, p, _, ds, cs, rfl, M10, by omega, Ao.keep tk810, go, One.keep tk810, gOne, T10, fun H11 l11 M11 tk11 T11 => ⟨_, rfl, iteF ?_⟩⟩
        exact ⟨_, l11, rfl, M11.mono (by omega), tk810.trans tk11, T11⟩
      · rintro σ H9 ⟨y4, l9, rfl, M9, tk9, T9⟩
        have e4 : (([V.ref p4, .ref p5, .ref p6, .ref p7].length : Nat) : Int) = 4 := rfl
        exact ⟨_, _, _, l9, rfl, M9.mono (by omega), T9⟩
    · rintro σ H2 ⟨y2, y3, y4, l2, rfl, M2, T2⟩
      refine ⟨by show 2 ≤ sizeLine; decide, fun t1 n1 => ⟨by show 2 ≤ sizeLine; decide, fun t2 n2 => ⟨by show 2 ≤ sizeLine; decide, fun t3 n3 => ⟨by show 3 ≤ sizeLine; decide, fun t4 n4 => ?_⟩⟩⟩⟩
      refine ⟨t4, [(0, 5), (5, 9), (2, 4)], rfl, ⟨[.ref t1, .ref t2, .ref t3], upd_same, .cons ⟨t1, rfl, upd_at (upd_at (upd_at upd_same n2) n3) n4⟩ (.cons ⟨t2, rfl, upd_at (upd_at upd_same n3) n4⟩ (.cons ⟨t3, rfl, upd_at upd_same n4⟩ .nil))⟩, ⟨by decide, by decide⟩, fun H3 p s3 np hp => ?_⟩
      rw [last_plain] at hp
      refine ⟨by show 2 ≤ sizeLine; decide, fun u1 m1 => ⟨by show 2 ≤ sizeLine; decide, fun u2 m2 => ⟨by show 2 ≤ sizeLine; decide, fun u3 m3 => ?_⟩⟩⟩
      obtain ⟨ps, hps, hpr⟩ := ((hp.keep (TK.new (o := .tup [.int 0, .int 9]) m1)).keep (TK.new (o := .tup [.int 2, .int 4]) m2)).keep (TK.new (o := .tup [.ref u1, .ref u2]) m3)
      refine ⟨.tuple (([(0, 9), (2, 4)] : List Cut).map dP), .tuple (([(0, 9), (2, 4)] : List Cut).map dP), .tup (.inl (.inl hps)) (dp_prs hpr), .tup (.inl (.inl upd_same)) (dp_prs (.cons ⟨u1, rfl, upd_at (upd_at upd_same m2) m3⟩ (.cons ⟨u2, rfl, upd_at upd_same m3⟩ .nil))), sh_tup _, sh_tup _, ?_⟩
      refine bt ?_ (q _)
      exact (eqv_pairs [(0, 9), (2, 4)] [(0, 9), (2, 4)]).trans (decide_eq_true rfl)
end
end Cap

set_option Elab.async false
set_option linter.all false
set_option maxRecDepth 100000
set_option maxHeartbeats 4000000
/-! the end of the row: one table, a promise that holds where no guard stands -/
namespace Cap
open PySem PySem.Spec PyProof.Rows L2 CapS LamX
abbrev noTab : Obj := { cls := .none, data := .fields #[] }
/-- the caller's view: what is told of the heap before the call -/
structure Seen (K : PySem.W.Frag) (h : Heap) (a p : Addr) (H : Hp) (vs : List Value) (ns : List Int) : Prop where
  tab : H p = some (.tbl #[])
  rest : ∀ b o, H b = some o → b = p ∨ (b = a ∧ o = .frz { cls := .type "list", data := .seq vs.toArray } (.lst (ns.map V.int)) ∧ K.lookup a = none)
  isK : SqL K H a (ns.map V.int)
theorem seen_of {K : PySem.W.Frag} {h : Heap} {a p : Addr} {vs : List Value} {ns : List Int} (KX : K.In h) (ha : h.get? a = some { cls := .type "list", data := .seq vs.toArray }) (hp : h.get? p = some noTab) (hi : IntsAre vs ns) (hl : ns.length ≤ sizeLine) : ∃ H, Seen K h a p H vs ns := by
  have ne : a ≠ p := fun z => by
    rw [z, hp] at ha
    cases ha
  cases hk : K.lookup a with
  | some o =>
    have e := KX a o hk
    rw [ha] at e
    cases e
    have rv := vals_ints hi
    refine ⟨upd (fun _ => none) p (.tbl #[]), upd_same, fun b o q => .inl ?_, .inr ⟨_, vs.toArray, _, hk, rfl, rfl, rfl, by rw [List.size_toArray, hi.length]; exact hl, by simpa using rv⟩⟩
    by_cases z : b = p
    · exact z
    · rw [upd_ne z] at q
      cases q
  | none =>
    refine ⟨upd (upd (fun _ => none) p (.tbl #[])) a (.frz { cls := .type "list", data := .seq vs.toArray } (.lst (ns.map V.int))), ?_, fun b o q => ?_, .inl (.inr ⟨_, upd_same⟩)⟩
    · rw [upd_ne ne.symm]
      exact upd_same
    · by_cases z : b = a
      · rw [z, upd_same] at q
        exact .inr ⟨z, (Option.some.inj q).symm, hk⟩
      · rw [upd_ne z] at q
        by_cases z2 : b = p
        · exact .inl z2
        · rw [upd_ne z2] at q
          cases q
/-- what the call needs to know of the heap it starts from -/
structure Floor (K : PySem.W.Frag) (mg mb : Str → Option Value) (h : Heap) (c p : Addr) : Prop where
  kin : K.In h
  g : h.Ns mainGlobals mg
  b : h.Ns builtinsNs mb
  bb : ∀ x : Str, x ≠ "__name__" → mb x = bootBuiltins x
  lim : h.NoLimit
  tab : h.get? p = some noTab
  off : K.lookup p = none
  code : PySem.W.CodeHd h c p
  bm : ∃ (bm : Addr) (ob : Obj), mg "__builtins__" = some (.ref bm) ∧ bm ≠ builtinsNs ∧ h.get? bm = some ob ∧ ob.cls = .type "module" ∧ ob.dict = some builtinsNs ∧ ob.data = .plain
section
variable {P : Program} {w : World} {K : PySem.W.Frag} {mg mb : Str → Option Value} {k : Nat} {fa a c p : Addr} {fd : FuncData} {x : Str} {sp : Sp} {s : Shared} {vs : List Value} {ns : List Int} {H : Hp}
/-- an object of another make than the list's and the table's is not told of -/
theorem Seen.hid (S : Seen K s.heap a p H vs ns) (ha : s.heap.get? a = some { cls := .type "list", data := .seq vs.toArray }) (ht : s.heap.get? p = some noTab) {b : Addr} {o : Obj} (e : s.heap.get? b = some o)
    (h1 : ∀ us n, o.data ≠ .seq us n) (h2 : o.data ≠ .fields #[]) : (hidT s.heap H).get? b = some o := by
  refine hidT_get e ?_
  cases q : H b with
  | none => rfl
  | some u =>
    rcases S.rest b u q with z | ⟨z, _⟩
    · rw [z, ht] at e
      cases e
      exact (h2 rfl).elim
    · rw [z, ha] at e
      cases e
      exact (h1 _ _ rfl).elim
theorem Seen.nsp (S : Seen K s.heap a p H vs ns) (ha : s.heap.get? a = some { cls := .type "list", data := .seq vs.toArray }) (ht : s.heap.get? p = some noTab) {b : Addr} {m : Str → Option Value} (g : s.heap.Ns b m) : (hidT s.heap H).Ns b m := by
  obtain ⟨o, es, ep, e, d, r⟩ := g
  refine ⟨o, es, ep, S.hid ha ht e (fun us n z => ?_) (fun z => ?_), d, r⟩
  · rw [d] at z
    cases z
  · rw [d] at z
    cases z
theorem Seen.kin (S : Seen K s.heap a p H vs ns) (F : Floor K mg mb s.heap c p) : K.In (hidT s.heap H) := fun b o e => by
  refine hidT_get (F.kin b o e) ?_
  cases q : H b with
  | none => rfl
  | some u =>
    rcases S.rest b u q with z | ⟨z, _, n⟩
    · rw [z, F.off] at e
      cases e
    · rw [z, n] at e
      cases e
theorem Seen.tabB (S : Seen K s.heap a p H vs ns) (F : Floor K mg mb s.heap c p) (ha : s.heap.get? a = some { cls := .type "list", data := .seq vs.toArray }) : TabB (hidT s.heap H) mg c p := by
  have gp : mainGlobals ≠ p := fun z => by
    obtain ⟨o, es, ep, e, d, _⟩ := F.g
    rw [z, F.tab] at e
    cases e
    cases d
  refine ⟨?_, ?_, gp⟩
  · obtain ⟨o, us, file, tf, flags, tg, inF, text, tt, e1, r1, r2, r3, r⟩ := F.code
    refine ⟨o, us, file, tf, flags, tg, inF, text, tt, S.hid ha F.tab e1 (fun _ n z => ?_) (fun z => ?_), r1, r2, r3, r⟩
    · rw [r2] at z
      cases z
    · rw [r2] at z
      cases z
      simp at r3
  · obtain ⟨bm, ob, b1, b2, b3, b4, b5, b6⟩ := F.bm
    have nG : bm ≠ mainGlobals := fun q => by
      obtain ⟨o, es, ep, e, d, _⟩ := F.g
      rw [q, e] at b3
      cases b3
      rw [d] at b6
      cases b6
    have nP : bm ≠ p := fun q => by
      rw [q, F.tab] at b3
      cases b3
      cases b6
    refine ⟨bm, ob, b1, b2, nG, nP, S.hid ha F.tab b3 (fun _ n z => ?_) (fun z => ?_), b4, b5, b6⟩
    · rw [b6] at z
      cases z
    · rw [b6] at z
      cases z
theorem law_callG (F : Floor K mg mb s.heap c p) (hg : s.gens = #[]) (ha : s.heap.get? a = some { cls := .type "list", data := .seq vs.toArray }) (hi : IntsAre vs ns) (hl : ns.length ≤ sizeLine) (hr : Room k callerA)
    (G : ∀ base : Heap, TabB base mg c p → FnG P w K mg base k fa fd [x] sp) (hbind : ∀ (s : Shared) (u : Value), BindsTo s fd ⟨[u], []⟩ [(x, u)])
    (hsp : ∀ H : Hp, H p = some (.tbl #[]) → SqL K H a (ns.map V.int) → sp [.ref a] H (fun v _ => v = .bl true) fun _ _ _ => False) :
    codeAny (model P w) callerA (.call (.ref fa) ⟨[.ref a], []⟩) (fun r s' => r = .ok (.ret (.bool true)) ∧ OldK s.heap s'.heap ∧ s'.os = s.os ∧ AllBare s'.gens) s := by
  obtain ⟨H, S⟩ := seen_of F.kin ha F.tab hi hl
  have hok : HOk P w H s.heap := fun b o q => by
    rcases S.rest b o q with z | ⟨z, e, _⟩
    · rw [z, S.tab] at q
      cases q
      rw [z]
      exact F.tab
    · rw [z, e]
      exact ⟨ha, by rw [List.length_map]; exact hl, vs, _, vals_ints hi, ha⟩
  have hM : L2.Mod K mg (hidT s.heap H) := ⟨S.kin F, S.nsp ha F.tab F.g, ⟨mb, S.nsp ha F.tab F.b, F.bb⟩, let ⟨mc, h1, h2⟩ := F.lim; ⟨mc, S.nsp ha F.tab h1, h2⟩⟩
  have e0 : Env0 P w K mg (hidT s.heap H) callerA [] s H := ⟨rfl, hM, fun b o e => of_hidT e, Nat.le_of_eq (hidT_size _ _), trivial, fun b hb => absurd (show b ∈ ([] : List Addr) from hb) (by simp), hok, .of_eq hg⟩
  refine codeAny_mono ((G _ (S.tabB F ha)).run callerA [] s H ⟨[.ref a], []⟩ [.ref a] [.ref a] _ _ rfl hr e0 (hbind s (.ref a)) (.cons rfl .nil) (hsp H S.tab S.isK)) fun r s' h => ?_
  cases r with
  | error e => exact (show False from h).elim
  | ok fl =>
    cases fl with
    | next => exact False.elim h
    | brk => exact False.elim h
    | cont => exact False.elim h
    | ret u =>
      obtain ⟨v, H', os, bare, un, hok', r', q⟩ := h
      have q' : v = .bl true := q
      subst q'
      obtain rfl : u = Value.bool true := r'
      obtain ⟨more, tm⟩ := un.tbls p #[] S.tab
      have pm : s'.heap.get? p = some { cls := .none, data := .fields (#[] ++ more) } := hok' p _ tm
      have key : ∀ b o, b ≠ p → s.heap.get? b = some o → s'.heap.get? b = some o := fun b o nb e => by
        cases q : H b with
        | none => exact un.keep b o e q (by intro z; exact absurd (show b ∈ ([] : List Addr) from z) (by simp)) (by simp)
        | some u =>
          rcases S.rest b u q with z | ⟨z, eu, _⟩
          · exact absurd z nb
          · rw [eu] at q
            obtain ⟨e1, _⟩ := hok b _ q
            obtain ⟨e2, _⟩ := hok' b _ (un.frzs b _ _ q)
            rw [e] at e1
            cases e1
            exact e2
      refine ⟨rfl, ⟨fun b o e => ?_, fun b o e => ?_⟩, os, bare⟩
      · by_cases hb : b = p
        · rw [hb] at e ⊢
          rw [F.tab] at e
          cases e
          exact .inr (.inl ⟨(F.code.tab F.tab).isCodeTable, rfl, #[], more, rfl, pm⟩)
        · exact .inl (key b o hb e)
      · by_cases hb : b = p
        · rw [hb]
          exact ⟨_, pm⟩
        · exact ⟨o, key b o hb e⟩
end
/-- the row's goal behind the head, from what the head has left -/
theorem walk_G {l : PySem.W.OpenLaw} {n k : Nat} {q : Program} {loose : List Str} {XP : (Str → Option Value) → Heap → Prop} {YP : World → Heap → Prop} {d : DefRec} {K : Params → PySem.W.Frag} {x : Str}
    (hn : l.most = some n) (hn2 : n ≤ sizeLine) (hdf : d.params.defaults = []) (hr : Room k callerA) (hY : ∀ (w : World) (h : Heap), YP w h → (K w.params).In h)
    (F : ∀ (w : World) (mg : Str → Option Value) (fa : Addr) (h : Heap), YP w h → (K w.params).In h → h.Ns mainGlobals mg → mg d.name = some (.ref fa) →
      ∃ (c p : Addr) (fd : FuncData) (sp : Sp), h.get? p = some noTab ∧ (K w.params).lookup p = none ∧ PySem.W.CodeHd h c p ∧ (∀ (s : Shared) (u : Value), BindsTo s fd ⟨[u], []⟩ [(x, u)]) ∧
        (∀ (H : Hp) (a : Addr) (ns : List Int), ns.length ≤ n → H p = some (.tbl #[]) → SqL (K w.params) H a (ns.map V.int) → sp [.ref a] H (fun v _ => v = .bl true) fun _ _ _ => False) ∧
        ∀ base : Heap, TabB base mg c p → FnG l.prog w (K w.params) mg base k fa fd [x] sp) :
    PySem.W.WalkO q loose XP YP l.row.toRowW d [] (fun f vs => PySem.call f vs) := by
  refine Att.attach_callB hn hdf fun w s₀ s₁ mg mb fa o pm cd doc a vs ns G Y ho hd hcd hmg hobj hints hlen hbits hg => ?_
  have KX := hY w _ Y
  obtain ⟨c, p, fd, sp, hT, nT, C, hb, hsp, hF⟩ := F w mg fa _ Y KX G.T.g hmg
  exact law_callG ⟨KX, G.T.g, G.T.b, G.T.builtins, G.T.nolimit, hT, nT, C, G.T.bmain⟩ hg hobj hints (Nat.le_trans hlen hn2) hr hF hb fun H hH hS => hsp H a ns hlen hH hS
/-! ### the facts -/
theorem df_mk {K : PySem.W.Frag} {h : Heap} {mg : Str → Option Value} (X : K.In h) (G : h.Ns mainGlobals mg) {x : Str} {st : Stmt} {ps : List Str} {f : Addr} {oc kV doc pm cd ct : Value} {od an : Option Addr} {sl : Array (Option Value)}
    (n : PySem.W.nsIn K mainGlobals x = some (some (.ref f))) (l : K.lookup f = some ⟨oc, od, .func (PySem.W.fnOf x x (defArgs st) (defBody st) (defScope st) .none kV doc pm an cd ct), sl⟩) (c : PySem.W.codeIn K cd x = true) (k : PySem.W.keepIn K (.ref f) = true)
    (b : ∀ fd, Fun K x x st f fd → Binds K fd ps []) : ∃ f fd, Df K mg x st ps f fd :=
  ⟨f, _, fun_mk l c k, b _ (fun_mk l c k), PySem.W.mg_of X G n⟩
theorem dfc_mk {K : PySem.W.Frag} {h : Heap} {mg : Str → Option Value} (X : K.In h) (G : h.Ns mainGlobals mg) {x : Str} {st : Stmt} {ps : List Str} {f cc : Addr} {oc kV doc pm ct : Value} {od an : Option Addr} {sl : Array (Option Value)}
    (n : PySem.W.nsIn K mainGlobals x = some (some (.ref f))) (l : K.lookup f = some ⟨oc, od, .func (PySem.W.fnOf x x (defArgs st) (defBody st) (defScope st) .none kV doc pm an (.ref cc) ct), sl⟩) (c : PySem.W.codeIn K (.ref cc) x = true) (k : PySem.W.keepIn K (.ref f) = true)
    (b : ∀ fd, Fun K x x st f fd → Binds K fd ps []) : ∃ fd, DfC K mg x st ps f fd cc :=
  ⟨_, ⟨⟨_, _, _, _, _, _, _, _, rfl, l, c⟩, k⟩, b _ (fun_mk l c k), PySem.W.mg_of X G n⟩
end Cap

set_option Elab.async false
set_option linter.all false
set_option maxRecDepth 100000
set_option maxHeartbeats 4000000
/-! what the head leaves, gathered (printed by genhd.py) -/
namespace Cap
open PySem PySem.Spec PyProof.Rows L2 CapS LamX
section
variable {P : Program} {w : World} {K : PySem.W.Frag} {mg : Str → Option Value} {h : Heap}
theorem blt_mk (X : K.In h) (G : h.Ns mainGlobals mg) (n0 : PySem.W.nsIn K mainGlobals "isinstance" = some none) (n1 : PySem.W.nsIn K mainGlobals "int" = some none) (n2 : PySem.W.nsIn K mainGlobals "bool" = some none) (n3 : PySem.W.nsIn K mainGlobals "tuple" = some none) (n4 : PySem.W.nsIn K mainGlobals "list" = some none) (n5 : PySem.W.nsIn K mainGlobals "len" = some none) (n6 : PySem.W.nsIn K mainGlobals "sum" = some none) (n7 : PySem.W.nsIn K mainGlobals "max" = some none) (n8 : PySem.W.nsIn K mainGlobals "min" = some none) (n9 : PySem.W.nsIn K mainGlobals "sorted" = some none) (n10 : PySem.W.nsIn K mainGlobals "zip" = some none) (n11 : PySem.W.nsIn K mainGlobals "range" = some none) (n12 : PySem.W.nsIn K mainGlobals "repr" = some none) (n13 : PySem.W.nsIn K mainGlobals "enumerate" = some none) : Blt mg :=
  ⟨PySem.W.mg_none_of X G n0, PySem.W.mg_none_of X G n1, PySem.W.mg_none_of X G n2, PySem.W.mg_none_of X G n3, PySem.W.mg_none_of X G n4, PySem.W.mg_none_of X G n5, PySem.W.mg_none_of X G n6, PySem.W.mg_none_of X G n7, PySem.W.mg_none_of X G n8, PySem.W.mg_none_of X G n9, PySem.W.mg_none_of X G n10, PySem.W.mg_none_of X G n11, PySem.W.mg_none_of X G n12, PySem.W.mg_none_of X G n13⟩
theorem m_W (X : K.In h) (G : h.Ns mainGlobals mg) {f : Addr} {oc kV doc pm cd ct : Value} {od an : Option Addr} {sl : Array (Option Value)} (n : PySem.W.nsIn K mainGlobals "is_whole" = some (some (.ref f))) (l : K.lookup f = some ⟨oc, od, .func (PySem.W.fnOf "is_whole" "is_whole" (defArgs sWhole) (defBody sWhole) (defScope sWhole) .none kV doc pm an cd ct), sl⟩) (c : PySem.W.codeIn K cd "is_whole" = true) (k : PySem.W.keepIn K (.ref f) = true) : ∃ f fd, Df K mg "is_whole" sWhole ["thing", "least", "most"] f fd :=
  df_mk X G n l c k fun _ F => F.binds fun _ _ _ _ _ _ us hl => match us, hl with | [_, _, _], _ => rfl
theorem m_S (X : K.In h) (G : h.Ns mainGlobals mg) {f : Addr} {oc kV doc pm cd ct : Value} {od an : Option Addr} {sl : Array (Option Value)} (n : PySem.W.nsIn K mainGlobals "is_stretch" = some (some (.ref f))) (l : K.lookup f = some ⟨oc, od, .func (PySem.W.fnOf "is_stretch" "is_stretch" (defArgs sStretch) (defBody sStretch) (defScope sStretch) .none kV doc pm an cd ct), sl⟩) (c : PySem.W.codeIn K cd "is_stretch" = true) (k : PySem.W.keepIn K (.ref f) = true) : ∃ f fd, Df K mg "is_stretch" sStretch ["begin", "end"] f fd :=
  df_mk X G n l c k fun _ F => F.binds fun _ _ _ _ _ _ us hl => match us, hl with | [_, _], _ => rfl
theorem m_C (X : K.In h) (G : h.Ns mainGlobals mg) {f : Addr} {oc kV doc pm cd ct : Value} {od an : Option Addr} {sl : Array (Option Value)} (n : PySem.W.nsIn K mainGlobals "is_cut" = some (some (.ref f))) (l : K.lookup f = some ⟨oc, od, .func (PySem.W.fnOf "is_cut" "is_cut" (defArgs sIsCut) (defBody sIsCut) (defScope sIsCut) .none kV doc pm an cd ct), sl⟩) (c : PySem.W.codeIn K cd "is_cut" = true) (k : PySem.W.keepIn K (.ref f) = true) : ∃ f fd, Df K mg "is_cut" sIsCut ["thing"] f fd :=
  df_mk X G n l c k fun _ F => F.binds fun _ _ _ _ _ _ us hl => match us, hl with | [_], _ => rfl
theorem m_N (X : K.In h) (G : h.Ns mainGlobals mg) {f : Addr} {oc kV doc pm cd ct : Value} {od an : Option Addr} {sl : Array (Option Value)} (n : PySem.W.nsIn K mainGlobals "need_cuts" = some (some (.ref f))) (l : K.lookup f = some ⟨oc, od, .func (PySem.W.fnOf "need_cuts" "need_cuts" (defArgs sNeedCuts) (defBody sNeedCuts) (defScope sNeedCuts) .none kV doc pm an cd ct), sl⟩) (c : PySem.W.codeIn K cd "need_cuts" = true) (k : PySem.W.keepIn K (.ref f) = true) : ∃ f fd, Df K mg "need_cuts" sNeedCuts ["thing"] f fd :=
  df_mk X G n l c k fun _ F => F.binds fun _ _ _ _ _ _ us hl => match us, hl with | [_], _ => rfl
theorem m_F (X : K.In h) (G : h.Ns mainGlobals mg) {f : Addr} {oc kV doc pm cd ct : Value} {od an : Option Addr} {sl : Array (Option Value)} (n : PySem.W.nsIn K mainGlobals "need_frame" = some (some (.ref f))) (l : K.lookup f = some ⟨oc, od, .func (PySem.W.fnOf "need_frame" "need_frame" (defArgs sNeedFrame) (defBody sNeedFrame) (defScope sNeedFrame) .none kV doc pm an cd ct), sl⟩) (c : PySem.W.codeIn K cd "need_frame" = true) (k : PySem.W.keepIn K (.ref f) = true) : ∃ f fd, Df K mg "need_frame" sNeedFrame ["frame"] f fd :=
  df_mk X G n l c k fun _ F => F.binds fun _ _ _ _ _ _ us hl => match us, hl with | [_], _ => rfl
theorem m_LI (X : K.In h) (G : h.Ns mainGlobals mg) {f : Addr} {oc kV doc pm cd ct : Value} {od an : Option Addr} {sl : Array (Option Value)} (n : PySem.W.nsIn K mainGlobals "length_in" = some (some (.ref f))) (l : K.lookup f = some ⟨oc, od, .func (PySem.W.fnOf "length_in" "length_in" (defArgs sLenIn) (defBody sLenIn) (defScope sLenIn) .none kV doc pm an cd ct), sl⟩) (c : PySem.W.codeIn K cd "length_in" = true) (k : PySem.W.keepIn K (.ref f) = true) : ∃ f fd, Df K mg "length_in" sLenIn ["cuts"] f fd :=
  df_mk X G n l c k fun _ F => F.binds fun _ _ _ _ _ _ us hl => match us, hl with | [_], _ => rfl
theorem m_Le (X : K.In h) (G : h.Ns mainGlobals mg) {f : Addr} {oc kV doc pm cd ct : Value} {od an : Option Addr} {sl : Array (Option Value)} (n : PySem.W.nsIn K mainGlobals "length" = some (some (.ref f))) (l : K.lookup f = some ⟨oc, od, .func (PySem.W.fnOf "length" "length" (defArgs sLength) (defBody sLength) (defScope sLength) .none kV doc pm an cd ct), sl⟩) (c : PySem.W.codeIn K cd "length" = true) (k : PySem.W.keepIn K (.ref f) = true) : ∃ f fd, Df K mg "length" sLength ["cuts"] f fd :=
  df_mk X G n l c k fun _ F => F.binds fun _ _ _ _ _ _ us hl => match us, hl with | [_], _ => rfl
theorem m_Ps (X : K.In h) (G : h.Ns mainGlobals mg) {f : Addr} {oc kV doc pm cd ct : Value} {od an : Option Addr} {sl : Array (Option Value)} (n : PySem.W.nsIn K mainGlobals "places_of" = some (some (.ref f))) (l : K.lookup f = some ⟨oc, od, .func (PySem.W.fnOf "places_of" "places_of" (defArgs sPlaces) (defBody sPlaces) (defScope sPlaces) .none kV doc pm an cd ct), sl⟩) (c : PySem.W.codeIn K cd "places_of" = true) (k : PySem.W.keepIn K (.ref f) = true) : ∃ f fd, Df K mg "places_of" sPlaces ["cuts"] f fd :=
  df_mk X G n l c k fun _ F => F.binds fun _ _ _ _ _ _ us hl => match us, hl with | [_], _ => rfl
theorem m_So (X : K.In h) (G : h.Ns mainGlobals mg) {f : Addr} {oc kV doc pm cd ct : Value} {od an : Option Addr} {sl : Array (Option Value)} (n : PySem.W.nsIn K mainGlobals "source" = some (some (.ref f))) (l : K.lookup f = some ⟨oc, od, .func (PySem.W.fnOf "source" "source" (defArgs sSource) (defBody sSource) (defScope sSource) .none kV doc pm an cd ct), sl⟩) (c : PySem.W.codeIn K cd "source" = true) (k : PySem.W.keepIn K (.ref f) = true) : ∃ f fd, Df K mg "source" sSource ["cuts", "frame"] f fd :=
  df_mk X G n l c k fun _ F => F.binds fun _ _ _ _ _ _ us hl => match us, hl with | [_, _], _ => rfl
theorem m_PI (X : K.In h) (G : h.Ns mainGlobals mg) {f : Addr} {oc kV doc pm cd ct : Value} {od an : Option Addr} {sl : Array (Option Value)} (n : PySem.W.nsIn K mainGlobals "plain_in" = some (some (.ref f))) (l : K.lookup f = some ⟨oc, od, .func (PySem.W.fnOf "plain_in" "plain_in" (defArgs sPlainIn) (defBody sPlainIn) (defScope sPlainIn) .none kV doc pm an cd ct), sl⟩) (c : PySem.W.codeIn K cd "plain_in" = true) (k : PySem.W.keepIn K (.ref f) = true) : ∃ f fd, Df K mg "plain_in" sPlainIn ["cuts"] f fd :=
  df_mk X G n l c k fun _ F => F.binds fun _ _ _ _ _ _ us hl => match us, hl with | [_], _ => rfl
theorem m_Pl (X : K.In h) (G : h.Ns mainGlobals mg) {f : Addr} {oc kV doc pm cd ct : Value} {od an : Option Addr} {sl : Array (Option Value)} (n : PySem.W.nsIn K mainGlobals "plain" = some (some (.ref f))) (l : K.lookup f = some ⟨oc, od, .func (PySem.W.fnOf "plain" "plain" (defArgs sPlain) (defBody sPlain) (defScope sPlain) .none kV doc pm an cd ct), sl⟩) (c : PySem.W.codeIn K cd "plain" = true) (k : PySem.W.keepIn K (.ref f) = true) : ∃ f fd, Df K mg "plain" sPlain ["cuts"] f fd :=
  df_mk X G n l c k fun _ F => F.binds fun _ _ _ _ _ _ us hl => match us, hl with | [_], _ => rfl
theorem m_Al (X : K.In h) (G : h.Ns mainGlobals mg) {f : Addr} {oc kV doc pm cd ct : Value} {od an : Option Addr} {sl : Array (Option Value)} (n : PySem.W.nsIn K mainGlobals "alike_cuts" = some (some (.ref f))) (l : K.lookup f = some ⟨oc, od, .func (PySem.W.fnOf "alike_cuts" "alike_cuts" (defArgs sAlike) (defBody sAlike) (defScope sAlike) .none kV doc pm an cd ct), sl⟩) (c : PySem.W.codeIn K cd "alike_cuts" = true) (k : PySem.W.keepIn K (.ref f) = true) : ∃ f fd, Df K mg "alike_cuts" sAlike ["one", "other"] f fd :=
  df_mk X G n l c k fun _ F => F.binds fun _ _ _ _ _ _ us hl => match us, hl with | [_, _], _ => rfl
theorem m_Ti (X : K.In h) (G : h.Ns mainGlobals mg) {f : Addr} {oc kV doc pm cd ct : Value} {od an : Option Addr} {sl : Array (Option Value)} (n : PySem.W.nsIn K mainGlobals "times_shown" = some (some (.ref f))) (l : K.lookup f = some ⟨oc, od, .func (PySem.W.fnOf "times_shown" "times_shown" (defArgs sTimes) (defBody sTimes) (defScope sTimes) .none kV doc pm an cd ct), sl⟩) (c : PySem.W.codeIn K cd "times_shown" = true) (k : PySem.W.keepIn K (.ref f) = true) : ∃ f fd, Df K mg "times_shown" sTimes ["cuts", "end"] f fd :=
  df_mk X G n l c k fun _ F => F.binds fun _ _ _ _ _ _ us hl => match us, hl with | [_, _], _ => rfl
theorem m_Tw (X : K.In h) (G : h.Ns mainGlobals mg) {f : Addr} {oc kV doc pm cd ct : Value} {od an : Option Addr} {sl : Array (Option Value)} (n : PySem.W.nsIn K mainGlobals "twice" = some (some (.ref f))) (l : K.lookup f = some ⟨oc, od, .func (PySem.W.fnOf "twice" "twice" (defArgs sTwice) (defBody sTwice) (defScope sTwice) .none kV doc pm an cd ct), sl⟩) (c : PySem.W.codeIn K cd "twice" = true) (k : PySem.W.keepIn K (.ref f) = true) : ∃ f fd, Df K mg "twice" sTwice ["cuts"] f fd :=
  df_mk X G n l c k fun _ F => F.binds fun _ _ _ _ _ _ us hl => match us, hl with | [_], _ => rfl
theorem m_Lo (X : K.In h) (G : h.Ns mainGlobals mg) {f : Addr} {oc kV doc pm cd ct : Value} {od an : Option Addr} {sl : Array (Option Value)} (n : PySem.W.nsIn K mainGlobals "lost" = some (some (.ref f))) (l : K.lookup f = some ⟨oc, od, .func (PySem.W.fnOf "lost" "lost" (defArgs sLost) (defBody sLost) (defScope sLost) .none kV doc pm an cd ct), sl⟩) (c : PySem.W.codeIn K cd "lost" = true) (k : PySem.W.keepIn K (.ref f) = true) : ∃ f fd, Df K mg "lost" sLost ["cuts", "end"] f fd :=
  df_mk X G n l c k fun _ F => F.binds fun _ _ _ _ _ _ us hl => match us, hl with | [_, _], _ => rfl
theorem m_xBe (X : K.In h) (G : h.Ns mainGlobals mg) {f : Addr} {oc kV doc pm cd ct : Value} {od an : Option Addr} {sl : Array (Option Value)} (n : PySem.W.nsIn K mainGlobals "_law_begun" = some (some (.ref f))) (l : K.lookup f = some ⟨oc, od, .func (PySem.W.fnOf "_law_begun" "_law_begun" (defArgs sBegun) (defBody sBegun) (defScope sBegun) .none kV doc pm an cd ct), sl⟩) (c : PySem.W.codeIn K cd "_law_begun" = true) (k : PySem.W.keepIn K (.ref f) = true) : ∃ f fd, Df K mg "_law_begun" sBegun ["_law_script"] f fd :=
  df_mk X G n l c k fun _ F => F.binds fun _ _ _ _ _ _ us hl => match us, hl with | [_], _ => rfl
theorem m_xNe (X : K.In h) (G : h.Ns mainGlobals mg) {f : Addr} {oc kV doc pm cd ct : Value} {od an : Option Addr} {sl : Array (Option Value)} (n : PySem.W.nsIn K mainGlobals "_law_next" = some (some (.ref f))) (l : K.lookup f = some ⟨oc, od, .func (PySem.W.fnOf "_law_next" "_law_next" (defArgs sNext) (defBody sNext) (defScope sNext) .none kV doc pm an cd ct), sl⟩) (c : PySem.W.codeIn K cd "_law_next" = true) (k : PySem.W.keepIn K (.ref f) = true) : ∃ f fd, Df K mg "_law_next" sNext ["_law_m", "_law_total"] f fd :=
  df_mk X G n l c k fun _ F => F.binds fun _ _ _ _ _ _ us hl => match us, hl with | [_, _], _ => rfl
theorem m_xOf (X : K.In h) (G : h.Ns mainGlobals mg) {f : Addr} {oc kV doc pm cd ct : Value} {od an : Option Addr} {sl : Array (Option Value)} (n : PySem.W.nsIn K mainGlobals "_law_of" = some (some (.ref f))) (l : K.lookup f = some ⟨oc, od, .func (PySem.W.fnOf "_law_of" "_law_of" (defArgs sOf) (defBody sOf) (defScope sOf) .none kV doc pm an cd ct), sl⟩) (c : PySem.W.codeIn K cd "_law_of" = true) (k : PySem.W.keepIn K (.ref f) = true) : ∃ f fd, Df K mg "_law_of" sOf ["_law_m", "_law_some"] f fd :=
  df_mk X G n l c k fun _ F => F.binds fun _ _ _ _ _ _ us hl => match us, hl with | [_, _], _ => rfl
theorem m_xOu (X : K.In h) (G : h.Ns mainGlobals mg) {f : Addr} {oc kV doc pm cd ct : Value} {od an : Option Addr} {sl : Array (Option Value)} (n : PySem.W.nsIn K mainGlobals "_law_outcome" = some (some (.ref f))) (l : K.lookup f = some ⟨oc, od, .func (PySem.W.fnOf "_law_outcome" "_law_outcome" (defArgs sOut) (defBody sOut) (defScope sOut) .none kV doc pm an cd ct), sl⟩) (c : PySem.W.codeIn K cd "_law_outcome" = true) (k : PySem.W.keepIn K (.ref f) = true) : ∃ f fd, Df K mg "_law_outcome" sOut ["_law_call"] f fd :=
  df_mk X G n l c k fun _ F => F.binds fun _ _ _ _ _ _ us hl => match us, hl with | [_], _ => rfl
theorem m_xFa (X : K.In h) (G : h.Ns mainGlobals mg) {f : Addr} {oc kV doc pm cd ct : Value} {od an : Option Addr} {sl : Array (Option Value)} (n : PySem.W.nsIn K mainGlobals "_law_fault" = some (some (.ref f))) (l : K.lookup f = some ⟨oc, od, .func (PySem.W.fnOf "_law_fault" "_law_fault" (defArgs sFault) (defBody sFault) (defScope sFault) .none kV doc pm an cd ct), sl⟩) (c : PySem.W.codeIn K cd "_law_fault" = true) (k : PySem.W.keepIn K (.ref f) = true) : ∃ f fd, Df K mg "_law_fault" sFault ["_law_e"] f fd :=
  df_mk X G n l c k fun _ F => F.binds fun _ _ _ _ _ _ us hl => match us, hl with | [_], _ => rfl
theorem m_xCu (X : K.In h) (G : h.Ns mainGlobals mg) {f : Addr} {oc kV doc pm cd ct : Value} {od an : Option Addr} {sl : Array (Option Value)} (n : PySem.W.nsIn K mainGlobals "_law_cuts" = some (some (.ref f))) (l : K.lookup f = some ⟨oc, od, .func (PySem.W.fnOf "_law_cuts" "_law_cuts" (defArgs sCuts) (defBody sCuts) (defScope sCuts) .none kV doc pm an cd ct), sl⟩) (c : PySem.W.codeIn K cd "_law_cuts" = true) (k : PySem.W.keepIn K (.ref f) = true) : ∃ f fd, Df K mg "_law_cuts" sCuts ["_law_m", "_law_most", "_law_far"] f fd :=
  df_mk X G n l c k fun _ F => F.binds fun _ _ _ _ _ _ us hl => match us, hl with | [_, _, _], _ => rfl
theorem m_xSo (X : K.In h) (G : h.Ns mainGlobals mg) {f : Addr} {oc kV doc pm cd ct : Value} {od an : Option Addr} {sl : Array (Option Value)} (n : PySem.W.nsIn K mainGlobals "_law_sources" = some (some (.ref f))) (l : K.lookup f = some ⟨oc, od, .func (PySem.W.fnOf "_law_sources" "_law_sources" (defArgs sSources) (defBody sSources) (defScope sSources) .none kV doc pm an cd ct), sl⟩) (c : PySem.W.codeIn K cd "_law_sources" = true) (k : PySem.W.keepIn K (.ref f) = true) : ∃ f fd, Df K mg "_law_sources" sSources ["_law_cuts_here"] f fd :=
  df_mk X G n l c k fun _ F => F.binds fun _ _ _ _ _ _ us hl => match us, hl with | [_], _ => rfl
theorem m_xSt (X : K.In h) (G : h.Ns mainGlobals mg) {f : Addr} {oc kV doc pm cd ct : Value} {od an : Option Addr} {sl : Array (Option Value)} (n : PySem.W.nsIn K mainGlobals "_law_stretches" = some (some (.ref f))) (l : K.lookup f = some ⟨oc, od, .func (PySem.W.fnOf "_law_stretches" "_law_stretches" (defArgs sStretches) (defBody sStretches) (defScope sStretches) .none kV doc pm an cd ct), sl⟩) (c : PySem.W.codeIn K cd "_law_stretches" = true) (k : PySem.W.keepIn K (.ref f) = true) : ∃ f fd, Df K mg "_law_stretches" sStretches ["_law_frames"] f fd :=
  df_mk X G n l c k fun _ F => F.binds fun _ _ _ _ _ _ us hl => match us, hl with | [_], _ => rfl
theorem m_xOt (X : K.In h) (G : h.Ns mainGlobals mg) {f : Addr} {oc kV doc pm cd ct : Value} {od an : Option Addr} {sl : Array (Option Value)} (n : PySem.W.nsIn K mainGlobals "_law_otherwise" = some (some (.ref f))) (l : K.lookup f = some ⟨oc, od, .func (PySem.W.fnOf "_law_otherwise" "_law_otherwise" (defArgs sOther) (defBody sOther) (defScope sOther) .none kV doc pm an cd ct), sl⟩) (c : PySem.W.codeIn K cd "_law_otherwise" = true) (k : PySem.W.keepIn K (.ref f) = true) : ∃ f fd, Df K mg "_law_otherwise" sOther ["_law_m", "_law_cuts_here"] f fd :=
  df_mk X G n l c k fun _ F => F.binds fun _ _ _ _ _ _ us hl => match us, hl with | [_, _], _ => rfl
theorem m_Ri (X : K.In h) (G : h.Ns mainGlobals mg) {f cc : Addr} {oc kV doc pm ct : Value} {od an : Option Addr} {sl : Array (Option Value)} (n : PySem.W.nsIn K mainGlobals "_law_right" = some (some (.ref f))) (l : K.lookup f = some ⟨oc, od, .func (PySem.W.fnOf "_law_right" "_law_right" (defArgs sRight) (defBody sRight) (defScope sRight) .none kV doc pm an (.ref cc) ct), sl⟩) (c : PySem.W.codeIn K (.ref cc) "_law_right" = true) (k : PySem.W.keepIn K (.ref f) = true) : ∃ f fd, DfC K mg "_law_right" sRight ["_law_m", "_law_one", "_law_other"] f fd cc :=
  let ⟨fd, D⟩ := dfc_mk X G n l c k fun _ F => F.binds fun _ _ _ _ _ _ us hl => match us, hl with | [_, _, _], _ => rfl
  ⟨f, fd, D⟩
theorem m_NT (X : K.In h) {C fI : Addr} {oc : Value} {od : Option Addr} {osl : Array (Option Value)} {kV doc pm : Value} {an : Option Addr} {ct : Value} {cda cc : Addr} {vs : Array Value} {file : Str} {tf : Tok} {ccl : Value} {cdd : Option Addr} {ccs : Array (Option Value)} {cl : Value} {cld : Option Addr} {csl : Array (Option Value)} {cdD : PySem.ClassData}
    (aN : PySem.W.nsIn K mainGlobals "Nothing" = some (some (.ref C)))
    (ini : PySem.W.excInitIn K C luMro "LookupError.__new__" = true) (iC : PySem.W.findIn K (.ref C) "__init__" = some (some (.ref fI))) (tI : PySem.W.typeIn K (.ref fI) = some (.type "function"))
    (l : K.lookup fI = some ⟨oc, od, .func (PySem.W.ksFn "__init__" "Nothing.__init__" (defArgs initS) (defBody initS) (defScope initS) .none kV doc pm an (.ref cda) ct cc), osl⟩) (c : PySem.W.codeIn K (.ref cda) "Nothing.__init__" = true)
    (l2 : K.lookup cda = some ⟨ccl, cdd, .fields vs, ccs⟩) (hv : vs[2]? = some (.str file tf)) (hf : ((P.main.file : Str) == file) = true) (l3 : K.lookup cc = some ⟨cl, cld, .cell (some (.ref C)), csl⟩) (hD : PySem.W.clsIn K C = some cdD)
    (mr : PySem.W.mroIn K C (.ref C) = some true) (al : PySem.W.ks_superIn K C C "__init__" = some (some (.builtin "LookupError.__init__"))) (sb : PySem.W.subIn K (.ref C) (.type "LookupError") = some true) (opq : PySem.W.nsIn K cStatics "thirdparty.any" = some none)
    (exC : PySem.W.subIn K (.ref C) (.type "BaseException") = some true) (tyC : PySem.W.typeIn K (.ref C) = some (.type "type")) (kC : PySem.W.keepIn K (.ref C) = true) (top : (P.main.scope.names.lookup ("super" : Str)).isSome = false) : ∃ fI, NtC P K C fI :=
  ⟨fI, ini, iC, tI, ⟨oc, od, osl, kV, doc, pm, an, ct, cda, cc, vs, file, tf, ccl, cdd, ccs, cl, cld, csl, cdD, l, c, l2, hv, hf, l3, hD⟩, mr, al, sb, opq, exC, tyC, kC, top⟩
theorem m_FA (X : K.In h) (G : h.Ns mainGlobals mg) {c0 c1 c2 c3 c4 c5 c6 c7 c8 c9 c10 : Addr}
    (n0 : PySem.W.nsIn K mainGlobals "Nothing" = some (some (.ref c0))) (n1 : PySem.W.nsIn K mainGlobals "BadWords" = some (some (.ref c1))) (n2 : PySem.W.nsIn K mainGlobals "BadSpoken" = some (some (.ref c2))) (n3 : PySem.W.nsIn K mainGlobals "BadRules" = some (some (.ref c3))) (n4 : PySem.W.nsIn K mainGlobals "BadFile" = some (some (.ref c4))) (n5 : PySem.W.nsIn K mainGlobals "BadCuts" = some (some (.ref c5))) (n6 : PySem.W.nsIn K mainGlobals "BadChain" = some (some (.ref c6))) (n7 : PySem.W.nsIn K mainGlobals "BadPaper" = some (some (.ref c7))) (n8 : PySem.W.nsIn K mainGlobals "BadText" = some (some (.ref c8))) (n9 : PySem.W.nsIn K mainGlobals "TooGreat" = some (some (.ref c9))) (n10 : PySem.W.nsIn K mainGlobals "OutOfPlace" = some (some (.ref c10)))
    (ex : ExcC K c0) (k0 : PySem.W.kitOne K (.ref c0) (.ref c0) = some true) (k1 : PySem.W.kitOne K (.ref c0) (.ref c1) = some false) (k2 : PySem.W.kitOne K (.ref c0) (.ref c2) = some false) (k3 : PySem.W.kitOne K (.ref c0) (.ref c3) = some false) (k4 : PySem.W.kitOne K (.ref c0) (.ref c4) = some false) (k5 : PySem.W.kitOne K (.ref c0) (.ref c5) = some false) (k6 : PySem.W.kitOne K (.ref c0) (.ref c6) = some false) (k7 : PySem.W.kitOne K (.ref c0) (.ref c7) = some false) (k8 : PySem.W.kitOne K (.ref c0) (.ref c8) = some false) (k9 : PySem.W.kitOne K (.ref c0) (.ref c9) = some false) (k10 : PySem.W.kitOne K (.ref c0) (.ref c10) = some false)
    (a1 : PySem.W.exmAny K (.ref c0) [.ref c1, .ref c2, .ref c3, .ref c4, .ref c5, .ref c6] = some false) (a2 : PySem.W.exmAny K (.ref c0) [.ref c7, .ref c8, .ref c10, .ref c9, .ref c0] = some true) : ∃ d0 d1 d2 d3 d4 d5 d6 d7 d8 d9, FaC K mg c0 d0 d1 d2 d3 d4 d5 d6 d7 d8 d9 :=
  ⟨c1, c2, c3, c4, c5, c6, c7, c8, c9, c10, ex, PySem.W.mg_of X G n0, k0, PySem.W.mg_of X G n1, k1, PySem.W.mg_of X G n2, k2, PySem.W.mg_of X G n3, k3, PySem.W.mg_of X G n4, k4, PySem.W.mg_of X G n5, k5, PySem.W.mg_of X G n6, k6, PySem.W.mg_of X G n7, k7, PySem.W.mg_of X G n8, k8, PySem.W.mg_of X G n9, k9, PySem.W.mg_of X G n10, k10, a1, a2⟩
theorem tx_mk {CN cR pR : Addr} (B : Blt mg)
    (HW : ∃ f fd, Df K mg "is_whole" sWhole ["thing", "least", "most"] f fd)
    (HS : ∃ f fd, Df K mg "is_stretch" sStretch ["begin", "end"] f fd)
    (HC : ∃ f fd, Df K mg "is_cut" sIsCut ["thing"] f fd)
    (HN : ∃ f fd, Df K mg "need_cuts" sNeedCuts ["thing"] f fd)
    (HF : ∃ f fd, Df K mg "need_frame" sNeedFrame ["frame"] f fd)
    (HLI : ∃ f fd, Df K mg "length_in" sLenIn ["cuts"] f fd)
    (HLe : ∃ f fd, Df K mg "length" sLength ["cuts"] f fd)
    (HPs : ∃ f fd, Df K mg "places_of" sPlaces ["cuts"] f fd)
    (HSo : ∃ f fd, Df K mg "source" sSource ["cuts", "frame"] f fd)
    (HPI : ∃ f fd, Df K mg "plain_in" sPlainIn ["cuts"] f fd)
    (HPl : ∃ f fd, Df K mg "plain" sPlain ["cuts"] f fd)
    (HAl : ∃ f fd, Df K mg "alike_cuts" sAlike ["one", "other"] f fd)
    (HTi : ∃ f fd, Df K mg "times_shown" sTimes ["cuts", "end"] f fd)
    (HTw : ∃ f fd, Df K mg "twice" sTwice ["cuts"] f fd)
    (HLo : ∃ f fd, Df K mg "lost" sLost ["cuts", "end"] f fd)
    (HxBe : ∃ f fd, Df K mg "_law_begun" sBegun ["_law_script"] f fd)
    (HxNe : ∃ f fd, Df K mg "_law_next" sNext ["_law_m", "_law_total"] f fd)
    (HxOf : ∃ f fd, Df K mg "_law_of" sOf ["_law_m", "_law_some"] f fd)
    (HxOu : ∃ f fd, Df K mg "_law_outcome" sOut ["_law_call"] f fd)
    (HxFa : ∃ f fd, Df K mg "_law_fault" sFault ["_law_e"] f fd)
    (HxCu : ∃ f fd, Df K mg "_law_cuts" sCuts ["_law_m", "_law_most", "_law_far"] f fd)
    (HxSo : ∃ f fd, Df K mg "_law_sources" sSources ["_law_cuts_here"] f fd)
    (HxSt : ∃ f fd, Df K mg "_law_stretches" sStretches ["_law_frames"] f fd)
    (HxOt : ∃ f fd, Df K mg "_law_otherwise" sOther ["_law_m", "_law_cuts_here"] f fd)
    (HRi : ∃ f fd, DfC K mg "_law_right" sRight ["_law_m", "_law_one", "_law_other"] f fd cR) (HNT : ∃ fI, NtC P K CN fI) (HFA : ∃ d0 d1 d2 d3 d4 d5 d6 d7 d8 d9, FaC K mg CN d0 d1 d2 d3 d4 d5 d6 d7 d8 d9)
    (su : mg "super" = none) (Lf : ∃ t, mg "LAST_FRAME" = some (.int 1000000000000 t)) (Mc : ∃ t, mg "MOST_CUTS" = some (.int 60 t)) : ∃ d : Ads, d.cR = cR ∧ d.pR = pR ∧ TxR P K mg d := by
  obtain ⟨fW, fdW, pW⟩ := HW
  obtain ⟨fS, fdS, pS⟩ := HS
  obtain ⟨fC, fdC, pC⟩ := HC
  obtain ⟨fN, fdN, pN⟩ := HN
  obtain ⟨fF, fdF, pF⟩ := HF
  obtain ⟨fLI, fdLI, pLI⟩ := HLI
  obtain ⟨fLe, fdLe, pLe⟩ := HLe
  obtain ⟨fPs, fdPs, pPs⟩ := HPs
  obtain ⟨fSo, fdSo, pSo⟩ := HSo
  obtain ⟨fPI, fdPI, pPI⟩ := HPI
  obtain ⟨fPl, fdPl, pPl⟩ := HPl
  obtain ⟨fAl, fdAl, pAl⟩ := HAl
  obtain ⟨fTi, fdTi, pTi⟩ := HTi
  obtain ⟨fTw, fdTw, pTw⟩ := HTw
  obtain ⟨fLo, fdLo, pLo⟩ := HLo
  obtain ⟨fxBe, fdxBe, pxBe⟩ := HxBe
  obtain ⟨fxNe, fdxNe, pxNe⟩ := HxNe
  obtain ⟨fxOf, fdxOf, pxOf⟩ := HxOf
  obtain ⟨fxOu, fdxOu, pxOu⟩ := HxOu
  obtain ⟨fxFa, fdxFa, pxFa⟩ := HxFa
  obtain ⟨fxCu, fdxCu, pxCu⟩ := HxCu
  obtain ⟨fxSo, fdxSo, pxSo⟩ := HxSo
  obtain ⟨fxSt, fdxSt, pxSt⟩ := HxSt
  obtain ⟨fxOt, fdxOt, pxOt⟩ := HxOt
  obtain ⟨fRi, fdRi, pRi⟩ := HRi
  obtain ⟨fI, pNT⟩ := HNT
  obtain ⟨c0, c1, c2, c3, c4, c5, c6, c7, c8, c9, pNF⟩ := HFA
  exact ⟨{ fW := fW, fdW := fdW, fS := fS, fdS := fdS, fC := fC, fdC := fdC, fN := fN, fdN := fdN, fF := fF, fdF := fdF, fLI := fLI, fdLI := fdLI, fLe := fLe, fdLe := fdLe, fPs := fPs, fdPs := fdPs, fSo := fSo, fdSo := fdSo, fPI := fPI, fdPI := fdPI, fPl := fPl, fdPl := fdPl, fAl := fAl, fdAl := fdAl, fTi := fTi, fdTi := fdTi, fTw := fTw, fdTw := fdTw, fLo := fLo, fdLo := fdLo, fxBe := fxBe, fdxBe := fdxBe, fxNe := fxNe, fdxNe := fdxNe, fxOf := fxOf, fdxOf := fdxOf, fxOu := fxOu, fdxOu := fdxOu, fxFa := fxFa, fdxFa := fdxFa, fxCu := fxCu, fdxCu := fdxCu, fxSo := fxSo, fdxSo := fdxSo, fxSt := fxSt, fdxSt := fdxSt, fxOt := fxOt, fdxOt := fdxOt, fRi := fRi, fdRi := fdRi, cR := cR, pR := pR, CN := CN, fI := fI, c0 := c0, c1 := c1, c2 := c2, c3 := c3, c4 := c4, c5 := c5, c6 := c6, c7 := c7, c8 := c8, c9 := c9 }, rfl, rfl, B, pW, pS, pC, pN, pF, pLI, pLe, pPs, pSo, pPI, pPl, pAl, pTi, pTw, pLo, pxBe, pxNe, pxOf, pxOu, pxFa, pxCu, pxSo, pxSt, pxOt, pRi, pNT, pNF, su, Lf, Mc⟩
theorem law_end {fa fL cL cR pR : Addr} {oc kV doc pm ct : Value} {od an : Option Addr} {sl : Array (Option Value)} (X : K.In h) (G : h.Ns mainGlobals mg) (hfa : mg "law" = some (.ref fa))
    (n : PySem.W.nsIn K mainGlobals "law" = some (some (.ref fL))) (l : K.lookup fL = some ⟨oc, od, .func (PySem.W.fnOf "law" "law" (defArgs sLaw) (defBody sLaw) (defScope sLaw) .none kV doc pm an (.ref cL) ct), sl⟩) (c : PySem.W.codeIn K (.ref cL) "law" = true) (k : PySem.W.keepIn K (.ref fL) = true)
    (HT : ∃ d : Ads, d.cR = cR ∧ d.pR = pR ∧ TxR P K mg d) (hT : h.get? pR = some noTab) (off : K.lookup pR = none) (C : PySem.W.CodeHd h cR pR) :
    ∃ (c p : Addr) (fd : FuncData) (sp : Sp), h.get? p = some noTab ∧ K.lookup p = none ∧ PySem.W.CodeHd h c p ∧ (∀ (s : Shared) (u : Value), BindsTo s fd ⟨[u], []⟩ [("_law_script", u)]) ∧
        (∀ (H : Hp) (a : Addr) (ns : List Int), ns.length ≤ 63 → H p = some (.tbl #[]) → SqL K H a (ns.map V.int) → sp [.ref a] H (fun v _ => v = .bl true) fun _ _ _ => False) ∧
        ∀ base : Heap, TabB base mg c p → FnG P w K mg base 9 fa fd ["_law_script"] sp := by
  obtain ⟨d, e1, e2, T⟩ := HT
  have e := hfa.symm.trans (PySem.W.mg_of X G n)
  cases e
  refine ⟨cR, pR, PySem.W.fnOf "law" "law" (defArgs sLaw) (defBody sLaw) (defScope sLaw) .none kV doc pm an (.ref cL) ct, spLaw K pR, hT, off, C, fun s u => ?_, fun H a ns hl hp hS => ⟨a, ns, rfl, hS, hl, fun q hq => ?_, fun _ => rfl⟩, fun base TB => ?_⟩
  · exact .of_eq rfl
  · rw [List.mem_singleton.mp hq]
    exact TabS.nil hp
  · subst e1
    subst e2
    exact ok_law ⟨⟨_, _, _, _, _, _, _, _, rfl, l, c⟩, k⟩ T TB
end
end Cap

set_option Elab.async false
set_option linter.all false
set_option maxRecDepth 100000
open PySem PySem.W PyProof.Rows
set_option maxRecDepth 100000 in
set_option maxHeartbeats 0 in
theorem PySem.Challenge.cw_captionhouse_k63_whole_cuts_shown_holds : PySem.Challenge.rw_captionhouse_k63_whole_cuts_shown.Holds := by
  w_on; o_law; k_head; (case hw => w_witness2)
  k_fill
  refine Cap.walk_G (l := PySem.Challenge.rw_captionhouse_k63_whole_cuts_shown) (n := 63) (k := 9) (x := "_law_script") (by rfl) (by decide) (by rfl) ⟨rfl, by decide, by decide⟩ (fun w h Y => PySem.W.km_in_of Y) ?F
  intro w mg fa h Y KX G hmg
  have hT := PySem.W.km_tabs_of Y _ (List.Mem.head _)
  have B : Cap.Blt mg := Cap.blt_mk KX G (by first | k_is | kernel_rfl) (by first | k_is | kernel_rfl) (by first | k_is | kernel_rfl) (by first | k_is | kernel_rfl) (by first | k_is | kernel_rfl) (by first | k_is | kernel_rfl) (by first | k_is | kernel_rfl) (by first | k_is | kernel_rfl) (by first | k_is | kernel_rfl) (by first | k_is | kernel_rfl) (by first | k_is | kernel_rfl) (by first | k_is | kernel_rfl) (by first | k_is | kernel_rfl) (by first | k_is | kernel_rfl)
  have HW := Cap.m_W KX G (by k_is) (by k_is) (by k_is) (by k_is)
  have HS := Cap.m_S KX G (by k_is) (by k_is) (by k_is) (by k_is)
  have HC := Cap.m_C KX G (by k_is) (by k_is) (by k_is) (by k_is)
  have HN := Cap.m_N KX G (by k_is) (by k_is) (by k_is) (by k_is)
  have HF := Cap.m_F KX G (by k_is) (by k_is) (by k_is) (by k_is)
  have HLI := Cap.m_LI KX G (by k_is) (by k_is) (by k_is) (by k_is)
  have HLe := Cap.m_Le KX G (by k_is) (by k_is) (by k_is) (by k_is)
  have HPs := Cap.m_Ps KX G (by k_is) (by k_is) (by k_is) (by k_is)
  have HSo := Cap.m_So KX G (by k_is) (by k_is) (by k_is) (by k_is)
  have HPI := Cap.m_PI KX G (by k_is) (by k_is) (by k_is) (by k_is)
  have HPl := Cap.m_Pl KX G (by k_is) (by k_is) (by k_is) (by k_is)
  have HAl := Cap.m_Al KX G (by k_is) (by k_is) (by k_is) (by k_is)
  have HTi := Cap.m_Ti KX G (by k_is) (by k_is) (by k_is) (by k_is)
  have HTw := Cap.m_Tw KX G (by k_is) (by k_is) (by k_is) (by k_is)
  have HLo := Cap.m_Lo KX G (by k_is) (by k_is) (by k_is) (by k_is)
  have HxBe := Cap.m_xBe KX G (by k_is) (by k_is) (by k_is) (by k_is)
  have HxNe := Cap.m_xNe KX G (by k_is) (by k_is) (by k_is) (by k_is)
  have HxOf := Cap.m_xOf KX G (by k_is) (by k_is) (by k_is) (by k_is)
  have HxOu := Cap.m_xOu KX G (by k_is) (by k_is) (by k_is) (by k_is)
  have HxFa := Cap.m_xFa KX G (by k_is) (by k_is) (by k_is) (by k_is)
  have HxCu := Cap.m_xCu KX G (by k_is) (by k_is) (by k_is) (by k_is)
  have HxSo := Cap.m_xSo KX G (by k_is) (by k_is) (by k_is) (by k_is)
  have HxSt := Cap.m_xSt KX G (by k_is) (by k_is) (by k_is) (by k_is)
  have HxOt := Cap.m_xOt KX G (by k_is) (by k_is) (by k_is) (by k_is)
  have HRi := Cap.m_Ri KX G (by k_is) (by k_is) (by k_is) (by k_is)
  have HNT := Cap.m_NT (P := (PySem.Challenge.rw_captionhouse_k63_whole_cuts_shown).prog) KX (by k_is) (by kernel_rfl) (by k_is) (by k_is) (by k_is) (by k_is) (by k_is) (by rfl) (by rfl) (by k_is) (by k_is) (by k_is) (by first | ks_is | kernel_rfl) (by k_is) (by k_is) (by k_is) (by k_is) (by k_is) (by rfl)
  have HFA := Cap.m_FA KX G (by k_is) (by k_is) (by k_is) (by k_is) (by k_is) (by k_is) (by k_is) (by k_is) (by k_is) (by k_is) (by k_is) (by refine ⟨?_, ?_, ?_, ?_, ?_, ?_, ?_, ?_⟩ <;> k_is) (by kernel_rfl) (by kernel_rfl) (by kernel_rfl) (by kernel_rfl) (by kernel_rfl) (by kernel_rfl) (by kernel_rfl) (by kernel_rfl) (by kernel_rfl) (by kernel_rfl) (by kernel_rfl) (by kernel_rfl) (by kernel_rfl)
  have su : mg "super" = none := PySem.W.mg_none_of KX G (by k_is)
  have Lf : ∃ t, mg "LAST_FRAME" = some (.int 1000000000000 t) := ⟨_, PySem.W.mg_of KX G (by k_is)⟩
  have Mc : ∃ t, mg "MOST_CUTS" = some (.int 60 t) := ⟨_, PySem.W.mg_of KX G (by k_is)⟩
  exact Cap.law_end KX G hmg (by k_is) (by k_is) (by k_is) (by k_is) (Cap.tx_mk B HW HS HC HN HF HLI HLe HPs HSo HPI HPl HAl HTi HTw HLo HxBe HxNe HxOf HxOu HxFa HxCu HxSo HxSt HxOt HRi HNT HFA su Lf Mc) hT (by kernel_rfl) (PySem.W.codeHd_of_K KX (by kernel_rfl))

