import PyProof.Rows.All
import Wide.All
import OpenK.AllK
import Wide.FinOn
import HandS.ForMost
import HandS.Walk
import KE.GoesEnum
import HandS.IsInst
import HandS.TupAny
import HandS.Conv
import HandS.TupSets
import KE.KExcSuper
import HandS.Exc
import HandS.ForSpec
import HandS.Dict
import KE.KDictDisplayH
import HandS.TupMul
import HandS.SetBool
import HandS.SortInts
import PyProof.ReprRoads
import PyProof.ReprBulk
import PyProof.Rows.ReprShort
import HandS.Lambda
import HandS.EndTab
import HandS.Deep
import HandS.Style
import KE.KExcIs
import KE.KNestM
import PySem.Challenge.RW_endsandround_k02_whole_effects_and_first
set_option Elab.async false
set_option linter.all false
set_option maxRecDepth 100000
set_option maxHeartbeats 4000000
/-! enumerate(t), t a tuple, in a for -/
namespace K02
open PySem PySem.Spec PyProof.Rows L2
theorem meets_enum1 {v : Value} {o : Obj} {S0 : Heap → Prop} (B : Begins v o S0) :
    Meets (Builtin.«enumerate.__new__» ⟨[.type "enumerate", v], []⟩) (fun _ R s => S0 s.heap ∧
      R (.ok (.ret (.ref (s.heap.objs.size + 1)))) { s with heap := (s.heap.push o).push { cls := .type "enumerate", data := .fields #[.none, .bool false, .ref s.heap.objs.size, rawInt 0, .none, .none] } }) :=
  .of_wp fun prog w A R s h => by
    obtain ⟨hp, g, d, tk, os⟩ := s
    obtain ⟨h1, h⟩ := h
    have hsub := sub_enumerate
    have hz : (hp.push o).objs.size = hp.objs.size + 1 := Heap.size_push ..
    have go : ∀ {A' : Around} {E : Value → Shared → Prop} {Q : Value → Shared → Prop}, Q (.ref hp.objs.size) ⟨hp.push o, g, d, tk, os⟩ → wpAny (model prog w) A' (pyIter v) Q E ⟨hp, g, d, tk, os⟩ :=
      fun q => B.iter prog w _ _ ⟨hp, g, d, tk, os⟩ _ h1 q
    rw [← hz] at h
    wp_walk using go
    refine wpAny_stack_any fun st => wpAny_pure ?_
    split
    · rename_i c _ _ _ _ _
      cases (c == Value.type "enumerate")
      · wp_walk using go
        exact ⟨_, rfl, h⟩
      · wp_walk using go
        exact ⟨_, rfl, h⟩
    · wp_walk using go
      exact ⟨_, rfl, h⟩
section
variable {prog : Program} {w : World} {A : Around} {E : Value → Shared → Prop} {s : Shared}
theorem call_enum1 {v : Value} {o : Obj} {S0 : Heap → Prop} {Q : Value → Shared → Prop} (B : Begins v o S0) (h1 : S0 s.heap)
    (h : ∀ h', IsEnum h' (s.heap.objs.size + 1) s.heap.objs.size 0 .none → h'.get? s.heap.objs.size = some o → (∀ b u, s.heap.get? b = some u → h'.get? b = some u) → Q (.ref (s.heap.objs.size + 1)) { s with heap := h' }) :
    wpAny (model prog w) A (call (.type "enumerate") [v]) Q E s := by
  have hz : (s.heap.push o).objs.size = s.heap.objs.size + 1 := Heap.size_push ..
  have he : IsEnum ((s.heap.push o).push { cls := .type "enumerate", data := .fields #[.none, .bool false, .ref s.heap.objs.size, rawInt 0, .none, .none] }) (s.heap.objs.size + 1) s.heap.objs.size 0 .none := by
    rw [← hz]
    exact Heap.get?_push_size _ rfl
  exact callType_new F.called_enumerate (by decide) (F.typeCall_enumerate_1 _) (F.newCall_enumerate_1 _) (fun obj => F.args_object_init_2 obj _) F.entry_enumerate_new (meets_enum1 B)
    ⟨h1, ⟨_, he, rfl⟩, h _ he (Heap.get?_push_of_some _ (Heap.get?_push_size _ B.free)) fun b u x => Heap.get?_push_of_some _ (Heap.get?_push_of_some _ x)⟩
end
/-- the tuple at a as it stands at each turn, each item in a new pair -/
def ItE (K : PySem.W.Frag) (a : Addr) : It where
  go i H := ∃ (xs : List V) (x : V), SqT K H a xs ∧ xs[i]? = some x
  yld i H v H' := ∃ T x, v = .ref T ∧ H T = none ∧ H' = upd H T (.tup [.int (i : Nat), x]) ∧ ∀ xs, SqT K H a xs → xs[i]? = some x
  stop i H := ∃ xs : List V, SqT K H a xs ∧ xs.length = i
theorem walk_enumT {K : PySem.W.Frag} {a : Addr} {xs : List V} : Walk (ItE K a) xs.length (fun H => SqT K H a xs) (YPair (fun i => some (.int (i : Nat))) (fun i => xs[i]?)) where
  goes i H hi q := ⟨xs, xs[i], q, by simp [hi]⟩
  stops H q := ⟨xs, q, rfl⟩
  yields i H v H' hi q y := by
    obtain ⟨T, x, h1, h2, h3, h4⟩ := y
    exact ⟨T, _, x, h1, h2, h3, rfl, h4 xs q⟩
theorem turn_enumT {P : Program} {w : World} {K : PySem.W.Frag} {elts : List Expr} {kk : Nat} {tpos : Pos} (a e it : Addr) (hea : e ≠ a) (hia : a ≠ it) :
    Turn P w K (.Tuple elts kk tpos) (ItE K a) [e, it] e (fun i h => (∃ old, IsEnum h e it ((i : Nat) : Int) old) ∧ h.IsTupleIter it a i ∧ e ≠ it) where
  mem := List.mem_cons_self
  obj i h st b hb := by
    obtain ⟨⟨old, he⟩, ⟨o, ho, hc, hd⟩, _⟩ := st
    rcases List.mem_cons.mp hb with z | z
    · rw [z]
      exact ⟨_, he, fun v q => nomatch q⟩
    · rw [List.mem_singleton.mp z]
      exact ⟨o, ho, fun v q => by rw [hd] at q; cases q⟩
  keep i h h' st k := by
    obtain ⟨⟨old, he⟩, hi, hne⟩ := st
    exact ⟨⟨old, k e List.mem_cons_self _ he⟩, hi.at fun o q => k it (List.mem_cons_of_mem _ List.mem_cons_self) o q, hne⟩
  item := by
    intro X hP hw hK hc i pins s σ H E I hf st hg
    subst hP hw hK
    obtain ⟨⟨old, he⟩, hit, hne⟩ := st
    obtain ⟨xs, x, hq, hx⟩ := hg
    obtain ⟨its, rv, p, hz⟩ := I.tuple hq
    obtain ⟨u, hu, ru⟩ := rv.get hx
    have hlt : i < its.toArray.size := by
      have := (List.getElem?_eq_some_iff.mp hu).1
      simpa using this
    have hel : e < s.heap.objs.size := Heap.lt_size he
    have hil : it < s.heap.objs.size := by
      obtain ⟨_, q, _⟩ := id hit
      exact Heap.lt_size q
    have nm : e ∉ [it, a] := fun z => by
      rcases List.mem_cons.mp z with z | z
      · exact hne z
      · exact hea (List.mem_singleton.mp z)
    refine wpAny_pyNext_enum_itemD (Draws.tuple (A := X.A.in1) (I.ok.hd hc) it a hia its.toArray) he ⟨hit, p⟩ hlt hne nm fun y h' tk hy ho hst hT hsz hk => ?_
    have ey : y = u := by
      have : its.toArray[i]? = some y := hy
      rw [List.getElem?_toArray, hu] at this
      exact (Option.some.inj this).symm
    subst ey
    refine ⟨_, rfl, wpAny_letOwnedTupleGo_enum (s := { s with heap := h', toks := tk + 1 }) ho fun h'' he' sb => ?_⟩
    have hT2 : h''.get? s.heap.objs.size = some { cls := .type "tuple", data := .seq #[.int i tk, y] } := (sb.2 _ (Nat.ne_of_gt hel)).trans hT
    have two : 2 ≤ sizeLine := by decide
    have new : ObjOk X.prog X.w (upd H s.heap.objs.size (.tup [.int (i : Nat), x])) h'' s.heap.objs.size (.tup [.int (i : Nat), x]) :=
      ⟨two, [.int i tk, y], .cons ⟨_, rfl⟩ (.cons ru .nil), ⟨_, hT2, rfl, _, rfl⟩⟩
    have I1 : Inv X pins σ (upd H s.heap.objs.size (.tup [.int (i : Nat), x])) { s with heap := h'', toks := tk + 1 } :=
      I.turnedNew (ch := [e, it]) (fun b ob hb q => by
        have b1 : b ≠ e := fun z => hb (z ▸ List.mem_cons_self)
        have b2 : b ≠ it := fun z => hb (z ▸ List.mem_cons_of_mem _ List.mem_cons_self)
        exact (sb.2 b b1).trans (hk b ob b1 b2 q)) hf (Nat.le_refl _) new
    refine ⟨.ref s.heap.objs.size, _, I1, rfl, ⟨_, x, rfl, I.hok.fresh (Nat.le_refl _), rfl, fun ys hy => ?_⟩, ⟨⟨y, ?_⟩, hst.1.at fun o q => (sb.2 it (Ne.symm hne)).trans q, hne⟩, fun b hb => ?_⟩
    · rw [I.tuple_inj hy hq]
      exact hx
    · have e1 : ((i + 1 : Nat) : Int) = (i : Int) + 1 := by omega
      rw [e1]
      exact he'
    · have hb' : b < s.heap.objs.size := by
        rcases List.mem_cons.mp hb with z | z
        · rw [z]; exact hel
        · rw [List.mem_singleton.mp z]; exact hil
      rw [upd_ne (Nat.ne_of_lt hb')]
      exact (hf b hb).1
  done := by
    intro X hP hw hK hc i pins s σ H E I hf st hg
    subst hP hw hK
    obtain ⟨⟨old, he⟩, hit, hne⟩ := st
    obtain ⟨xs, hq, hx⟩ := hg
    obtain ⟨its, rv, p, hz⟩ := I.tuple hq
    obtain ⟨f0, f1, f2, f3, f4, f5⟩ := hf it (List.mem_cons_of_mem _ List.mem_cons_self)
    subst hx
    have hl : its.toArray.size = xs.length := by rw [List.size_toArray, ← rv.length]
    exact wpAny_pyNext_enum_endD (Draws.tuple (A := X.A.in1) (I.ok.hd hc) it a hia its.toArray) he (by rw [hl]; exact ⟨hit, p⟩) fun h' eb => ⟨rfl, I.turned (t' := s.toks) (fun b o hb q => eb b o hb q) f0 f1 f3 f4 f5⟩
  self A i s Q E st h := by
    obtain ⟨⟨_, he⟩, _⟩ := st
    exact wpAny_pyIter_enum he h
def iEnumT (K : PySem.W.Frag) (ta : TA) : TI := fun σ H R => ta σ H fun vs H1 => ∃ a xs, vs = [.ref a] ∧ SqT K H1 a xs ∧ R (ItE K a) H1
theorem pi_enumT {X : Cx} {e : Expr} {ta : TA} {p pos tpos : Pos} {elts : List Expr} {kk : Nat} (hg : Gl X "enumerate") (hm : X.mg "enumerate" = none) (ha : PA X [e] ta) (hs : starEach [e] X.env = [(false, eval e X.env)] := by rfl) :
    PI X (.Tuple elts kk tpos) (.Call (.Name "enumerate" p) [e] [] pos) (iEnumT X.K ta) where
  run pins s σ H R I h := by
    refine Call_ (ld_blt I hg hm boot_enumerate (PyProof.Rows.callWith_type1 (thn (ha.run pos pins s σ H _ I h) fun us s1 ⟨vs, H1, I1, r1, a, xs, ex, hq, q⟩ => ?_) hs rfl))
    subst ex
    cases r1 with
    | cons r rr =>
      cases rr
      cases r
      obtain ⟨its, rv, p', hz⟩ := I1.tuple hq
      have hal : a < s1.heap.objs.size := p'.lt
      refine call_enum1 (begins_tuple a its.toArray) p' fun h' he hit hk => wpAny_pyIter_enum he ?_
      have n1 : s1.heap.objs.size + 1 ≠ a := fun z => by
        have : s1.heap.objs.size + 1 < s1.heap.objs.size := by rw [← z] at hal; exact hal
        omega
      refine ⟨s1.heap.objs.size + 1, [s1.heap.objs.size + 1, s1.heap.objs.size], _, ItE X.K a, H1, rfl, I1.kept (t' := s1.toks) hk, turn_enumT a (s1.heap.objs.size + 1) s1.heap.objs.size n1 (Nat.ne_of_lt hal), ⟨⟨.none, he⟩, ⟨_, hit, rfl, rfl⟩, Nat.succ_ne_self _⟩, fun b hb => ?_, q⟩
      have hle : s1.heap.objs.size ≤ b := by
        rcases List.mem_cons.mp hb with z | z
        · rw [z]; exact Nat.le_succ _
        · rw [List.mem_singleton.mp z]; exact Nat.le_refl _
      exact I1.fpOk hle (I1.hok.fresh hle)
end K02

set_option linter.all false
namespace K02
abbrev Row := List Int
def cmds (c : Nat) : List Int := (List.range c).map Int.ofNat
theorem mem_cmds {c : Nat} {k : Int} : k ∈ cmds c ↔ 0 ≤ k ∧ k < c := by
  unfold cmds
  rw [List.mem_map]
  constructor
  · rintro ⟨n, hn, rfl⟩
    have := List.mem_range.mp hn
    constructor
    · exact Int.natCast_nonneg n
    · show (n : Int) < c
      omega
  · rintro ⟨h0, h1⟩
    refine ⟨k.toNat, List.mem_range.mpr (by omega), ?_⟩
    show ((k.toNat : Nat) : Int) = k
    omega
theorem cmds_get {c i : Nat} (h : i < c) : (cmds c)[i]? = some (i : Int) := by
  unfold cmds
  rw [List.getElem?_map, List.getElem?_range h]
  rfl
theorem cmds_length (c : Nat) : (cmds c).length = c := by unfold cmds; simp

def allRows (c : Nat) : Nat → List Row
  | 0 => [[]]
  | n + 1 => (allRows c n).flatMap fun r => (cmds c).map fun k => r ++ [k]

section scan
variable {α : Type} [DecidableEq α]
abbrev keys (B : List (α × Row)) : List α := B.map (·.1)
def scan1 (B : List (α × Row)) (p : α × Row) : List (α × Row) := if p.1 ∈ keys B then B else B ++ [p]
def scan (B cs : List (α × Row)) : List (α × Row) := cs.foldl scan1 B
theorem scan_nil (B : List (α × Row)) : scan B [] = B := rfl
theorem scan_cons (B : List (α × Row)) (p : α × Row) (t : List (α × Row)) : scan B (p :: t) = scan (scan1 B p) t := rfl
theorem scan_append (B l r : List (α × Row)) : scan B (l ++ r) = scan (scan B l) r := by unfold scan; rw [List.foldl_append]
theorem scan1_mem {B : List (α × Row)} {p : α × Row} (h : p.1 ∈ keys B) : scan1 B p = B := if_pos h
theorem scan1_new {B : List (α × Row)} {p : α × Row} (h : p.1 ∉ keys B) : scan1 B p = B ++ [p] := if_neg h
theorem scan1_keys (B : List (α × Row)) (p : α × Row) (a : α) : a ∈ keys (scan1 B p) ↔ a ∈ keys B ∨ a = p.1 := by
  by_cases h : p.1 ∈ keys B
  · rw [scan1_mem h]
    constructor
    · exact Or.inl
    · rintro (z | rfl)
      · exact z
      · exact h
  · rw [scan1_new h]
    simp [keys]
theorem scan_keys (cs : List (α × Row)) : ∀ (B : List (α × Row)) (a : α), a ∈ keys (scan B cs) ↔ a ∈ keys B ∨ a ∈ keys cs := by
  induction cs with
  | nil => intro B a; simp [scan_nil, keys]
  | cons p t ih =>
    intro B a
    rw [scan_cons, ih, scan1_keys]
    simp only [keys, List.map_cons, List.mem_cons]
    constructor
    · rintro ((h | h) | h)
      · exact .inl h
      · exact .inr (.inl h)
      · exact .inr (.inr h)
    · rintro (h | h | h)
      · exact .inl (.inl h)
      · exact .inl (.inr h)
      · exact .inr h
/-- the first of each new key -/
def news (K : List α) : List (α × Row) → List (α × Row)
  | [] => []
  | p :: t => if p.1 ∈ K then news K t else p :: news (p.1 :: K) t
theorem news_congr (t : List (α × Row)) : ∀ (K K' : List α), (∀ a, a ∈ K ↔ a ∈ K') → news K t = news K' t := by
  induction t with
  | nil => intro _ _ _; rfl
  | cons p t ih =>
    intro K K' h
    show (if p.1 ∈ K then news K t else p :: news (p.1 :: K) t) = (if p.1 ∈ K' then news K' t else p :: news (p.1 :: K') t)
    by_cases hp : p.1 ∈ K
    · rw [if_pos hp, if_pos ((h _).mp hp), ih _ _ h]
    · rw [if_neg hp, if_neg fun z => hp ((h _).mpr z), ih (p.1 :: K) (p.1 :: K') fun a => by simp [h a]]
theorem scan_news (cs : List (α × Row)) : ∀ B : List (α × Row), scan B cs = B ++ news (keys B) cs := by
  induction cs with
  | nil => intro B; simp [scan_nil, news]
  | cons p t ih =>
    intro B
    rw [scan_cons, ih]
    show _ = B ++ (if p.1 ∈ keys B then news (keys B) t else p :: news (p.1 :: keys B) t)
    by_cases hp : p.1 ∈ keys B
    · rw [scan1_mem hp, if_pos hp]
    · rw [scan1_new hp, if_neg hp, List.append_assoc]
      congr 1
      rw [news_congr t (keys (B ++ [p])) (p.1 :: keys B) fun a => by simp [keys, or_comm]]
      rfl
theorem scan_nodup (cs : List (α × Row)) : ∀ B : List (α × Row), (keys B).Nodup → (keys (scan B cs)).Nodup := by
  induction cs with
  | nil => intro B h; exact h
  | cons p t ih =>
    intro B h
    rw [scan_cons]
    refine ih _ ?_
    by_cases hp : p.1 ∈ keys B
    · rw [scan1_mem hp]; exact h
    · rw [scan1_new hp]
      simp only [keys, List.map_append, List.map_cons, List.map_nil]
      rw [List.nodup_append]
      refine ⟨h, by simp, fun a ha b hb e => ?_⟩
      subst e
      rw [List.mem_singleton.mp hb] at ha
      exact hp ha
theorem scan_len_le (cs : List (α × Row)) (B : List (α × Row)) : B.length ≤ (scan B cs).length := by
  rw [scan_news, List.length_append]; omega
theorem news_sub (t : List (α × Row)) : ∀ (K : List α) (p : α × Row), p ∈ news K t → p ∈ t ∧ p.1 ∉ K := by
  induction t with
  | nil => intro K p h; exact absurd h (by simp [news])
  | cons q t ih =>
    intro K p h
    have h : p ∈ (if q.1 ∈ K then news K t else q :: news (q.1 :: K) t) := h
    by_cases hq : q.1 ∈ K
    · rw [if_pos hq] at h
      obtain ⟨h1, h2⟩ := ih _ _ h
      exact ⟨List.mem_cons_of_mem _ h1, h2⟩
    · rw [if_neg hq] at h
      rcases List.mem_cons.mp h with e | h
      · subst e; exact ⟨List.mem_cons_self, hq⟩
      · obtain ⟨h1, h2⟩ := ih _ _ h
        exact ⟨List.mem_cons_of_mem _ h1, fun z => h2 (List.mem_cons_of_mem _ z)⟩
theorem scan_mem {cs B : List (α × Row)} {p : α × Row} (h : p ∈ scan B cs) : p ∈ B ∨ (p ∈ cs ∧ p.1 ∉ keys B) := by
  rw [scan_news] at h
  rcases List.mem_append.mp h with h | h
  · exact .inl h
  · exact .inr (news_sub _ _ _ h)
/-- what is new came as the first of its key -/
theorem news_first (t : List (α × Row)) : ∀ (K : List α) (p : α × Row), p ∈ news K t → ∃ l r, t = l ++ p :: r ∧ p.1 ∉ keys l ∧ p.1 ∉ K := by
  induction t with
  | nil => intro K p h; exact absurd h (by simp [news])
  | cons q t ih =>
    intro K p h
    have h : p ∈ (if q.1 ∈ K then news K t else q :: news (q.1 :: K) t) := h
    by_cases hq : q.1 ∈ K
    · rw [if_pos hq] at h
      obtain ⟨l, r, e, h1, h2⟩ := ih _ _ h
      refine ⟨q :: l, r, by rw [e]; rfl, fun z => ?_, h2⟩
      rcases List.mem_cons.mp z with z | z
      · rw [z] at h2; exact h2 hq
      · exact h1 z
    · rw [if_neg hq] at h
      rcases List.mem_cons.mp h with e | h
      · subst e; exact ⟨[], t, rfl, by simp [keys], hq⟩
      · obtain ⟨l, r, e, h1, h2⟩ := ih _ _ h
        refine ⟨q :: l, r, by rw [e]; rfl, fun z => ?_, fun z => h2 (List.mem_cons_of_mem _ z)⟩
        rcases List.mem_cons.mp z with z | z
        · rw [z] at h2; exact h2 List.mem_cons_self
        · exact h1 z

variable (c : Nat) (step : α → Int → α)
def ext1 (p : α × Row) : List (α × Row) := (cmds c).map fun k => (step p.1 k, p.2 ++ [k])
def ext (l : List (α × Row)) : List (α × Row) := l.flatMap (ext1 c step)
theorem ext_nil : ext c step [] = [] := rfl
theorem ext_cons (p : α × Row) (t : List (α × Row)) : ext c step (p :: t) = ext1 c step p ++ ext c step t := by
  unfold ext; rw [List.flatMap_cons]
theorem ext_append (l r : List (α × Row)) : ext c step (l ++ r) = ext c step l ++ ext c step r := by
  unfold ext; rw [List.flatMap_append]
def allP (a : α) : Nat → List (α × Row)
  | 0 => [(a, [])]
  | n + 1 => ext c step (allP a n)
theorem allP_rows (a : α) : ∀ n, allP c step a n = (allRows c n).map fun r => (r.foldl step a, r)
  | 0 => rfl
  | n + 1 => by
    show ext c step (allP c step a n) = _
    rw [allP_rows a n]
    show _ = ((allRows c n).flatMap fun r => (cmds c).map fun k => r ++ [k]).map _
    unfold ext
    rw [List.flatMap_map, List.map_flatMap]
    congr 1
    funext r
    unfold ext1
    rw [List.map_map]
    congr 1
    funext k
    simp [List.foldl_append]
/-- all first rows of length up to n, by trying all rows -/
def full (a : α) : Nat → List (α × Row)
  | 0 => [(a, [])]
  | n + 1 => scan (full a n) (allP c step a (n + 1))
def fresh (a : α) : Nat → List (α × Row)
  | 0 => [(a, [])]
  | n + 1 => news (keys (full c step a n)) (allP c step a (n + 1))
theorem full_succ (a : α) (n : Nat) : full c step a (n + 1) = full c step a n ++ fresh c step a (n + 1) := scan_news _ _
theorem full_nodup (a : α) : ∀ n, (keys (full c step a n)).Nodup
  | 0 => by simp [full, keys]
  | n + 1 => scan_nodup _ _ (full_nodup a n)
theorem ext_keys {l : List (α × Row)} {b : α} : b ∈ keys (ext c step l) ↔ ∃ p ∈ l, ∃ k ∈ cmds c, b = step p.1 k := by
  unfold ext keys
  rw [List.map_flatMap, List.mem_flatMap]
  constructor
  · rintro ⟨p, hp, h⟩
    unfold ext1 at h
    rw [List.map_map] at h
    obtain ⟨k, hk, e⟩ := List.mem_map.mp h
    exact ⟨p, hp, k, hk, e.symm⟩
  · rintro ⟨p, hp, k, hk, e⟩
    refine ⟨p, hp, ?_⟩
    unfold ext1
    rw [List.map_map]
    exact List.mem_map.mpr ⟨k, hk, e.symm⟩
/-- what was gone through already brings nothing -/
theorem scan_skip (l : List (α × Row)) : ∀ acc : List (α × Row), (∀ p ∈ l, p.1 ∈ keys acc) → scan acc l = acc := by
  induction l with
  | nil => intro acc _; rfl
  | cons p t ih =>
    intro acc h
    rw [scan_cons, scan1_mem (h p List.mem_cons_self)]
    exact ih acc fun q hq => h q (List.mem_cons_of_mem _ hq)
theorem scan_ext (t : List (α × Row)) : ∀ (K : List α) (acc : List (α × Row)), (∀ a ∈ K, ∀ k ∈ cmds c, step a k ∈ keys acc) → scan acc (ext c step t) = scan acc (ext c step (news K t)) := by
  induction t with
  | nil => intro _ _ _; rfl
  | cons p t ih =>
    intro K acc h
    show _ = scan acc (ext c step (if p.1 ∈ K then news K t else p :: news (p.1 :: K) t))
    rw [ext_cons, scan_append]
    by_cases hp : p.1 ∈ K
    · rw [if_pos hp, scan_skip (ext1 c step p) acc fun q hq => ?_]
      · exact ih K acc h
      · obtain ⟨k, hk, e⟩ := List.mem_map.mp hq
        rw [← e]
        exact h p.1 hp k hk
    · rw [if_neg hp, ext_cons, scan_append]
      refine ih (p.1 :: K) _ fun a ha k hk => ?_
      rw [scan_keys]
      rcases List.mem_cons.mp ha with e | ha
      · subst e
        refine .inr ?_
        exact List.mem_map.mpr ⟨(step p.1 k, p.2 ++ [k]), List.mem_map.mpr ⟨k, hk, rfl⟩, rfl⟩
      · exact .inl (h a ha k hk)
/-- all but the last level is gone through -/
theorem closed (a : α) : ∀ n, ∀ b ∈ keys (full c step a n), b ∉ keys (fresh c step a n) → ∀ k ∈ cmds c, step b k ∈ keys (full c step a n)
  | 0, b, hb, hf, k, hk => absurd hb hf
  | n + 1, b, hb, hf, k, hk => by
    rw [full_succ] at hb ⊢
    have hb : b ∈ (full c step a n ++ fresh c step a (n + 1)).map (·.1) := hb
    rw [List.map_append] at hb
    rcases List.mem_append.mp hb with hb | hb
    · show _ ∈ (full c step a n ++ fresh c step a (n + 1)).map (·.1)
      by_cases hn : b ∈ keys (fresh c step a n)
      · have : step b k ∈ keys (full c step a (n + 1)) := by
          show step b k ∈ keys (scan (full c step a n) (allP c step a (n + 1)))
          rw [scan_keys]
          refine .inr ?_
          show step b k ∈ keys (ext c step (allP c step a n))
          rw [ext_keys]
          obtain ⟨p, hp, e⟩ := List.mem_map.mp hn
          refine ⟨p, ?_, k, hk, by rw [e]⟩
          cases n with
          | zero => exact hp
          | succ n => exact (news_sub _ _ _ hp).1
        rw [full_succ] at this
        exact this
      · rw [List.map_append]
        exact List.mem_append_left _ (closed a n b hb hn k hk)
    · exact absurd hb hf
theorem gone (a : α) (n : Nat) : ∀ b ∈ keys (full c step a n), ∀ k ∈ cmds c, step b k ∈ keys (full c step a (n + 1)) := fun b hb k hk => by
  by_cases hn : b ∈ keys (fresh c step a n)
  · show step b k ∈ keys (scan (full c step a n) (allP c step a (n + 1)))
    rw [scan_keys]
    refine .inr ?_
    show step b k ∈ keys (ext c step (allP c step a n))
    rw [ext_keys]
    obtain ⟨p, hp, e⟩ := List.mem_map.mp hn
    refine ⟨p, ?_, k, hk, by rw [e]⟩
    cases n with
    | zero => exact hp
    | succ n => exact (news_sub _ _ _ hp).1
  · rw [full_succ]
    show _ ∈ (full c step a n ++ fresh c step a (n + 1)).map (·.1)
    rw [List.map_append]
    exact List.mem_append_left _ (closed c step a n b hb hn k hk)
/-- the search by levels: only what is fresh is gone on from -/
theorem full_bfs (a : α) : ∀ n, scan (full c step a n) (ext c step (fresh c step a n)) = full c step a (n + 1)
  | 0 => rfl
  | n + 1 => by
    show _ = scan (full c step a (n + 1)) (ext c step (allP c step a (n + 1)))
    rw [scan_ext c step (allP c step a (n + 1)) (keys (full c step a n)) (full c step a (n + 1)) (gone c step a n)]
    rfl
theorem fresh_bfs (a : α) (n : Nat) : fresh c step a (n + 1) = (scan (full c step a n) (ext c step (fresh c step a n))).drop (full c step a n).length := by
  rw [full_bfs, full_succ, List.drop_left]
theorem fresh_nil (a : α) {n : Nat} (h : fresh c step a n = []) : fresh c step a (n + 1) = [] := by
  rw [fresh_bfs, h, ext_nil, scan_nil, List.drop_length]
theorem fresh_nil_le (a : α) {n : Nat} (h : fresh c step a n = []) : ∀ m, n ≤ m → fresh c step a m = [] := by
  intro m hm
  induction m with
  | zero => have : n = 0 := by omega
            subst this; exact h
  | succ m ih =>
    by_cases e : n = m + 1
    · subst e; exact h
    · exact fresh_nil c step a (ih (by omega))
theorem full_stop (a : α) {n : Nat} (h : fresh c step a (n + 1) = []) : ∀ m, n ≤ m → full c step a m = full c step a n := by
  intro m hm
  induction m with
  | zero => have : n = 0 := by omega
            subst this; rfl
  | succ m ih =>
    by_cases e : n = m + 1
    · subst e; rfl
    · rw [full_succ, fresh_nil_le c step a h (m + 1) (by omega), List.append_nil, ih (by omega)]
theorem full_prefix (a : α) {n m : Nat} (h : n ≤ m) : ∃ r, full c step a m = full c step a n ++ r := by
  induction m with
  | zero => have : n = 0 := by omega
            subst this; exact ⟨[], (List.append_nil _).symm⟩
  | succ m ih =>
    by_cases e : n = m + 1
    · subst e; exact ⟨[], (List.append_nil _).symm⟩
    · obtain ⟨r, hr⟩ := ih (by omega)
      exact ⟨r ++ fresh c step a (m + 1), by rw [full_succ, hr, List.append_assoc]⟩
theorem full_long (a : α) : ∀ n, (∀ i, i ≤ n → fresh c step a i ≠ []) → n + 1 ≤ (full c step a n).length
  | 0, _ => Nat.le_refl _
  | n + 1, h => by
    have ih := full_long a n fun i hi => h i (by omega)
    rw [full_succ, List.length_append]
    have := h (n + 1) (Nat.le_refl _)
    have : 0 < (fresh c step a (n + 1)).length := List.length_pos_iff.mpr this
    omega
/-- pigeons -/
theorem pigeon : ∀ (l D : List α), l.Nodup → (∀ x ∈ l, x ∈ D) → l.length ≤ D.length
  | [], _, _, _ => Nat.zero_le _
  | x :: l, D, hn, hs => by
    obtain ⟨h1, h2⟩ := List.nodup_cons.mp hn
    have hx : x ∈ D := hs x List.mem_cons_self
    have ih := pigeon l (D.erase x) h2 fun y hy => by
      have hne : y ≠ x := fun e => h1 (e ▸ hy)
      exact (List.mem_erase_of_ne hne).mpr (hs y (List.mem_cons_of_mem _ hy))
    rw [List.length_erase_of_mem hx] at ih
    have : 0 < D.length := List.length_pos_of_mem hx
    simp only [List.length_cons]
    omega
theorem fresh_end (a : α) (D : List α) (hD : ∀ n, ∀ x ∈ keys (full c step a n), x ∈ D) : fresh c step a D.length = [] := by
  have key : ∀ n, (full c step a n).length ≤ D.length := fun n => by
    have := pigeon (keys (full c step a n)) D (full_nodup c step a n) (hD n)
    simpa [keys] using this
  by_cases h : ∀ i, i ≤ D.length → fresh c step a i ≠ []
  · have := full_long c step a D.length h
    have := key D.length
    omega
  · have : ∃ i, i ≤ D.length ∧ fresh c step a i = [] := by
      refine Classical.byContradiction fun hn => h fun i hi e => hn ⟨i, hi, e⟩
    obtain ⟨i, hi, e⟩ := this
    exact fresh_nil_le c step a e _ hi
/-- where a closed lot holds the start, it holds all that is met -/
theorem full_in (a : α) (P : α → Prop) (h0 : P a) (hs : ∀ x, P x → ∀ k ∈ cmds c, P (step x k)) : ∀ n, (∀ p ∈ allP c step a n, P p.1)
  | 0 => fun p hp => by rw [List.mem_singleton.mp hp]; exact h0
  | n + 1 => fun p hp => by
    have : p.1 ∈ keys (ext c step (allP c step a n)) := List.mem_map.mpr ⟨p, hp, rfl⟩
    rw [ext_keys] at this
    obtain ⟨q, hq, k, hk, e⟩ := this
    rw [e]
    exact hs _ (full_in a P h0 hs n q hq) k hk
theorem full_mem (a : α) : ∀ n, ∀ p ∈ full c step a n, ∃ i, i ≤ n ∧ p ∈ allP c step a i
  | 0, p, hp => ⟨0, Nat.le_refl _, hp⟩
  | n + 1, p, hp => by
    rcases scan_mem hp with h | ⟨h, _⟩
    · obtain ⟨i, hi, z⟩ := full_mem a n p h
      exact ⟨i, by omega, z⟩
    · exact ⟨n + 1, Nat.le_refl _, h⟩
theorem full_P (a : α) (P : α → Prop) (h0 : P a) (hs : ∀ x, P x → ∀ k ∈ cmds c, P (step x k)) (n : Nat) : ∀ x ∈ keys (full c step a n), P x := fun x hx => by
  obtain ⟨p, hp, e⟩ := List.mem_map.mp hx
  obtain ⟨i, _, z⟩ := full_mem c step a n p hp
  rw [← e]
  exact full_in c step a P h0 hs i p z
theorem full_run (a : α) (n : Nat) : ∀ p ∈ full c step a n, p.1 = p.2.foldl step a ∧ p.2 ∈ allRows c p.2.length := fun p hp => by
  obtain ⟨i, _, z⟩ := full_mem c step a n p hp
  rw [allP_rows] at z
  obtain ⟨r, hr, e⟩ := List.mem_map.mp z
  have hl : ∀ n, ∀ r ∈ allRows c n, r.length = n := by
    intro n
    induction n with
    | zero => intro r hr; rw [List.mem_singleton.mp hr]; rfl
    | succ n ih =>
      intro r hr
      obtain ⟨q, hq, h⟩ := List.mem_flatMap.mp hr
      obtain ⟨k, _, e⟩ := List.mem_map.mp h
      rw [← e, List.length_append, ih q hq]
      rfl
  subst e
  exact ⟨rfl, by rw [hl i r hr]; exact hr⟩
/-- the row of a key -/
def look (B : List (α × Row)) (a : α) : Option Row := (B.find? fun p => decide (p.1 = a)).map (·.2)
theorem look_append (B r : List (α × Row)) (a : α) : look (B ++ r) a = (look B a).or (look r a) := by
  unfold look
  rw [List.find?_append]
  cases B.find? fun p => decide (p.1 = a) <;> simp
theorem look_none {B : List (α × Row)} {a : α} : look B a = none ↔ a ∉ keys B := by
  unfold look
  rw [Option.map_eq_none_iff, List.find?_eq_none]
  constructor
  · intro h m
    obtain ⟨p, hp, e⟩ := List.mem_map.mp m
    exact h p hp (decide_eq_true e)
  · intro h p hp e
    exact h (List.mem_map.mpr ⟨p, hp, of_decide_eq_true e⟩)
theorem look_of_mem {B : List (α × Row)} (hn : (keys B).Nodup) {p : α × Row} (h : p ∈ B) : look B p.1 = some p.2 := by
  induction B with
  | nil => cases h
  | cons q t ih =>
    have hn : (q.1 :: keys t).Nodup := hn
    obtain ⟨h1, h2⟩ := List.nodup_cons.mp hn
    unfold look
    rcases List.mem_cons.mp h with e | h
    · subst e; simp
    · have hne : ¬ q.1 = p.1 := fun e => h1 (by rw [e]; exact List.mem_map.mpr ⟨p, h, rfl⟩)
      rw [List.find?_cons_of_neg (by simpa using hne)]
      exact ih h2 h
theorem look_mem {B : List (α × Row)} {a : α} {r : Row} (h : look B a = some r) : (a, r) ∈ B := by
  unfold look at h
  obtain ⟨p, hp, e⟩ := Option.map_eq_some_iff.mp h
  have h1 := List.find?_some hp
  have h2 := List.mem_of_find?_eq_some hp
  have h1 : p.1 = a := by simpa using h1
  rw [← h1, ← e]
  exact h2
end scan
end K02

set_option linter.all false
namespace K02
/-! ### the order of rows -/
def llt : List Int → List Int → Bool
  | [], [] => false
  | [], _ :: _ => true
  | _ :: _, [] => false
  | x :: xs, y :: ys => if x = y then llt xs ys else decide (x < y)
theorem llt_cons (x y : Int) (xs ys : List Int) : llt (x :: xs) (y :: ys) = if x = y then llt xs ys else decide (x < y) := rfl
theorem llt_irrefl : ∀ a : List Int, llt a a = false
  | [] => rfl
  | x :: xs => by rw [llt_cons, if_pos rfl]; exact llt_irrefl xs
theorem llt_asymm : ∀ {a b : List Int}, llt a b = true → llt b a = false
  | [], [], h => by cases h
  | [], _ :: _, _ => rfl
  | _ :: _, [], h => by cases h
  | x :: xs, y :: ys, h => by
    rw [llt_cons] at h ⊢
    by_cases e : x = y
    · rw [if_pos e] at h; rw [if_pos e.symm]; exact llt_asymm h
    · rw [if_neg e] at h; rw [if_neg fun z => e z.symm]
      have h := of_decide_eq_true h
      exact decide_eq_false (by omega)
theorem llt_snoc : ∀ {a b : List Int} (x y : Int), a.length = b.length → llt a b = true → llt (a ++ [x]) (b ++ [y]) = true
  | [], [], _, _, _, h => by cases h
  | [], _ :: _, _, _, h, _ => by cases h
  | _ :: _, [], _, _, h, _ => by cases h
  | u :: us, v :: vs, x, y, hl, h => by
    rw [llt_cons] at h
    rw [List.cons_append, List.cons_append, llt_cons]
    by_cases e : u = v
    · rw [if_pos e] at h ⊢
      exact llt_snoc x y (by simpa using hl) h
    · rw [if_neg e] at h ⊢; exact h
theorem llt_last : ∀ (a : List Int) {x y : Int}, x < y → llt (a ++ [x]) (a ++ [y]) = true
  | [], x, y, h => by
    show (if x = y then _ else decide (x < y)) = true
    rw [if_neg (by omega)]; exact decide_eq_true h
  | u :: us, x, y, h => by
    rw [List.cons_append, List.cons_append, llt_cons, if_pos rfl]
    exact llt_last us h
theorem allRows_len (c : Nat) : ∀ n, ∀ r ∈ allRows c n, r.length = n
  | 0, r, hr => by rw [List.mem_singleton.mp hr]; rfl
  | n + 1, r, hr => by
    obtain ⟨q, hq, h⟩ := List.mem_flatMap.mp hr
    obtain ⟨k, _, e⟩ := List.mem_map.mp h
    rw [← e, List.length_append, allRows_len c n q hq]
    rfl
theorem cmds_up (c : Nat) : (cmds c).Pairwise (· < ·) := by
  unfold cmds
  rw [List.pairwise_map]
  exact List.pairwise_lt_range.imp fun h => by
    show (_ : Int) < _
    exact Int.ofNat_lt.mpr h
theorem allRows_up (c : Nat) : ∀ n, (allRows c n).Pairwise (fun a b => llt a b = true)
  | 0 => List.pairwise_singleton _ _
  | n + 1 => by
    show ((allRows c n).flatMap fun r => (cmds c).map fun k => r ++ [k]).Pairwise _
    rw [List.pairwise_flatMap]
    refine ⟨fun r _ => ?_, ?_⟩
    · rw [List.pairwise_map]
      exact (cmds_up c).imp fun h => llt_last r h
    · refine (List.Pairwise.and_mem.mp (allRows_up c n)).imp fun {a b} ⟨ha, hb, h⟩ x hx y hy => ?_
      obtain ⟨k, _, e⟩ := List.mem_map.mp hx
      obtain ⟨j, _, e'⟩ := List.mem_map.mp hy
      rw [← e, ← e']
      exact llt_snoc k j (by rw [allRows_len c n a ha, allRows_len c n b hb]) h
theorem mem_allRows (c : Nat) : ∀ (n : Nat) (r : Row), r ∈ allRows c n ↔ r.length = n ∧ ∀ k ∈ r, k ∈ cmds c
  | 0, r => by
    show r ∈ [[]] ↔ _
    rw [List.mem_singleton]
    constructor
    · rintro rfl; exact ⟨rfl, by simp⟩
    · rintro ⟨h, _⟩; exact List.length_eq_zero_iff.mp h
  | n + 1, r => by
    show r ∈ (allRows c n).flatMap _ ↔ _
    rw [List.mem_flatMap]
    constructor
    · rintro ⟨q, hq, h⟩
      obtain ⟨k, hk, e⟩ := List.mem_map.mp h
      obtain ⟨h1, h2⟩ := (mem_allRows c n q).mp hq
      rw [← e]
      refine ⟨by rw [List.length_append, h1]; rfl, fun j hj => ?_⟩
      rcases List.mem_append.mp hj with hj | hj
      · exact h2 j hj
      · rw [List.mem_singleton.mp hj]; exact hk
    · rintro ⟨h1, h2⟩
      have hne : r ≠ [] := fun e => by rw [e] at h1; cases h1
      refine ⟨r.dropLast, (mem_allRows c n _).mpr ⟨by rw [List.length_dropLast, h1]; rfl, fun k hk => h2 k (List.dropLast_subset _ hk)⟩, List.mem_map.mpr ⟨r.getLast hne, h2 _ (List.getLast_mem hne), ?_⟩⟩
      exact List.dropLast_concat_getLast hne
theorem allRows_count (c : Nat) : ∀ n, (allRows c n).length = c ^ n
  | 0 => rfl
  | n + 1 => by
    show ((allRows c n).flatMap _).length = _
    rw [List.length_flatMap]
    have : (allRows c n).map (fun r => ((cmds c).map fun k => r ++ [k]).length) = (allRows c n).map fun _ => c := by
      congr 1
      funext r
      rw [List.length_map, cmds_length]
    rw [this, List.map_const', List.sum_replicate_nat, allRows_count c n, Nat.pow_succ]
section
variable {α : Type} [DecidableEq α] (c : Nat) (step : α → Int → α) (a : α)
/-- the row of a key is the least of its length -/
theorem full_least {n : Nat} {p : α × Row} (h : p ∈ full c step a n) : ∀ q ∈ allRows c p.2.length, llt q p.2 = true → q.foldl step a ≠ p.1 := by
  induction n with
  | zero =>
    have e : p = (a, []) := List.mem_singleton.mp h
    subst e
    intro q hq hl
    rw [List.mem_singleton.mp hq] at hl
    cases hl
  | succ n ih =>
    rw [full_succ] at h
    rcases List.mem_append.mp h with h | h
    · exact ih h
    · intro q hq hl e
      obtain ⟨l, r, e1, h1, h2⟩ := news_first _ _ _ h
      rw [allP_rows] at e1
      have hp : p ∈ (allRows c (n + 1)).map fun r => (r.foldl step a, r) := by rw [e1]; exact List.mem_append_right _ List.mem_cons_self
      obtain ⟨r0, hr0, er⟩ := List.mem_map.mp hp
      subst er
      have hlen : r0.length = n + 1 := allRows_len c _ _ hr0
      have hq2 : q ∈ allRows c (n + 1) := by rw [← hlen]; exact hq
      obtain ⟨l1, l2, ea, eb, ec⟩ := List.map_eq_append_iff.mp e1
      obtain ⟨r1, l3, ed, ee, ef⟩ := List.map_eq_cons_iff.mp ec
      have e0 : r1 = r0 := congrArg Prod.snd ee
      subst e0
      have up := allRows_up c (n + 1)
      rw [ea, ed] at up hq2
      rcases List.mem_append.mp hq2 with z | z
      · refine h1 ?_
        rw [← eb]
        show _ ∈ (l1.map fun r => (r.foldl step a, r)).map (·.1)
        rw [List.map_map]
        exact List.mem_map.mpr ⟨q, z, e⟩
      · have up2 := (List.pairwise_append.mp up).2.1
        rcases List.mem_cons.mp z with z | z
        · rw [z, llt_irrefl] at hl; cases hl
        · have := (List.pairwise_cons.mp up2).1 q z
          rw [llt_asymm this] at hl; cases hl
end
/-! ### ascending lists with the same members -/
theorem up_unique {α : Type} {f : α → Int} : ∀ {l l' : List α}, l.Pairwise (fun x y => f x < f y) → l'.Pairwise (fun x y => f x < f y) → (∀ x, x ∈ l ↔ x ∈ l') → l = l'
  | [], [], _, _, _ => rfl
  | [], y :: t, _, _, h => absurd ((h y).mpr List.mem_cons_self) (by simp)
  | x :: t, [], _, _, h => absurd ((h x).mp List.mem_cons_self) (by simp)
  | x :: t, y :: t', h1, h2, h => by
    obtain ⟨a1, b1⟩ := List.pairwise_cons.mp h1
    obtain ⟨a2, b2⟩ := List.pairwise_cons.mp h2
    have exy : x = y := by
      rcases List.mem_cons.mp ((h x).mp List.mem_cons_self) with e | e
      · exact e
      · rcases List.mem_cons.mp ((h y).mpr List.mem_cons_self) with e' | e'
        · exact e'.symm
        · have := a2 x e
          have := a1 y e'
          omega
    subst exy
    congr 1
    refine up_unique b1 b2 fun z => ?_
    constructor
    · intro hz
      rcases List.mem_cons.mp ((h z).mp (List.mem_cons_of_mem _ hz)) with e | e
      · subst e; have := a1 z hz; omega
      · exact e
    · intro hz
      rcases List.mem_cons.mp ((h z).mpr (List.mem_cons_of_mem _ hz)) with e | e
      · subst e; have := a2 z hz; omega
      · exact e
/-! ### machines -/
structure Mach (n c : Nat) (st : List (List Int)) : Prop where
  len : st.length = n
  pos : 0 < n
  cpos : 0 < c
  row : ∀ r ∈ st, r.length = c ∧ ∀ x ∈ r, x ∈ cmds n
def stp (st : List (List Int)) (s k : Int) : Int := (st.getD s.toNat []).getD k.toNat 0
def ledM (st : List (List Int)) (s : Int) (r : Row) : Int := r.foldl (stp st) s
def effStep (st : List (List Int)) (e : List Int) (k : Int) : List Int := e.map fun s => stp st s k
def eff (st : List (List Int)) (n : Nat) (r : Row) : List Int := (cmds n).map fun s => ledM st s r
def fol (one other : List Int) : List Int := one.map fun s => other.getD s.toNat 0
def single (st : List (List Int)) (k : Int) : List Int := st.map fun r => r.getD k.toNat 0
theorem effStep_fold (st : List (List Int)) : ∀ (r : Row) (e : List Int), r.foldl (effStep st) e = e.map fun s => r.foldl (stp st) s
  | [], e => by simp
  | k :: r, e => by
    rw [List.foldl_cons, effStep_fold st r]
    unfold effStep
    rw [List.map_map]
    rfl
theorem eff_fold (st : List (List Int)) (n : Nat) (r : Row) : r.foldl (effStep st) (cmds n) = eff st n r := effStep_fold st r _
section
variable {n c : Nat} {st : List (List Int)} (M : Mach n c st)
include M
theorem Mach.get {s : Int} (hs : s ∈ cmds n) : ∃ r, st[s.toNat]? = some r ∧ r ∈ st ∧ st.getD s.toNat [] = r := by
  have h := mem_cmds.mp hs
  have hl := M.len
  have hlt : s.toNat < st.length := by omega
  refine ⟨st[s.toNat], List.getElem?_eq_getElem hlt, List.getElem_mem hlt, ?_⟩
  rw [List.getD_eq_getElem?_getD, List.getElem?_eq_getElem hlt]
  rfl
theorem Mach.cell {s k : Int} (hs : s ∈ cmds n) (hk : k ∈ cmds c) : ∃ r, st[s.toNat]? = some r ∧ r ∈ st ∧ r[k.toNat]? = some (stp st s k) ∧ stp st s k ∈ cmds n := by
  obtain ⟨r, h1, h2, h3⟩ := M.get hs
  obtain ⟨h4, h5⟩ := M.row r h2
  have h := mem_cmds.mp hk
  have hlt : k.toNat < r.length := by omega
  have e : stp st s k = r[k.toNat] := by
    unfold stp
    rw [h3, List.getD_eq_getElem?_getD, List.getElem?_eq_getElem hlt]
    rfl
  exact ⟨r, h1, h2, by rw [e]; exact List.getElem?_eq_getElem hlt, by rw [e]; exact h5 _ (List.getElem_mem hlt)⟩
theorem Mach.stp_in {s k : Int} (hs : s ∈ cmds n) (hk : k ∈ cmds c) : stp st s k ∈ cmds n := by
  obtain ⟨_, _, _, _, h⟩ := M.cell hs hk
  exact h
theorem Mach.led_in {s : Int} (hs : s ∈ cmds n) {r : Row} (hr : ∀ k ∈ r, k ∈ cmds c) : ledM st s r ∈ cmds n := by
  unfold ledM
  induction r generalizing s with
  | nil => exact hs
  | cons k r ih => exact ih (M.stp_in hs (hr k List.mem_cons_self)) fun j hj => hr j (List.mem_cons_of_mem _ hj)
theorem Mach.single_get {s k : Int} (hs : s ∈ cmds n) : (single st k).getD s.toNat 0 = stp st s k := by
  obtain ⟨r, h1, h2, h3⟩ := M.get hs
  unfold single stp
  rw [List.getD_eq_getElem?_getD, List.getElem?_map, h1, h3]
  rfl
theorem Mach.fol_single {e : List Int} (he : ∀ s ∈ e, s ∈ cmds n) (k : Int) : fol e (single st k) = effStep st e k := by
  unfold fol effStep
  refine List.map_congr_left fun s hs => ?_
  exact M.single_get (he s hs)
/-- the lists that may be effects -/
theorem Mach.eff_in {r : Row} (hr : ∀ k ∈ r, k ∈ cmds c) : eff st n r ∈ allRows n n := by
  rw [mem_allRows]
  unfold eff
  refine ⟨by rw [List.length_map, cmds_length], fun k hk => ?_⟩
  obtain ⟨s, hs, e⟩ := List.mem_map.mp hk
  rw [← e]
  exact M.led_in hs hr
theorem Mach.step_in {e : List Int} (he : e ∈ allRows n n) {k : Int} (hk : k ∈ cmds c) : effStep st e k ∈ allRows n n := by
  obtain ⟨h1, h2⟩ := (mem_allRows n n e).mp he
  refine (mem_allRows n n _).mpr ⟨by unfold effStep; rw [List.length_map, h1], fun j hj => ?_⟩
  obtain ⟨s, hs, e⟩ := List.mem_map.mp hj
  rw [← e]
  exact M.stp_in (h2 s hs) hk
end
/-- the effects of all rows of a length -/
def effs (st : List (List Int)) (n c L : Nat) : List (List Int) := (allRows c L).map (eff st n)
theorem effs_zero (st : List (List Int)) (n c : Nat) : effs st n c 0 = [cmds n] := by
  show [eff st n []] = [cmds n]
  unfold eff ledM
  simp
theorem effs_succ (st : List (List Int)) (n c L : Nat) (x : List Int) : x ∈ effs st n c (L + 1) ↔ ∃ e ∈ effs st n c L, ∃ k ∈ cmds c, x = effStep st e k := by
  unfold effs
  constructor
  · intro h
    obtain ⟨r, hr, e⟩ := List.mem_map.mp h
    obtain ⟨q, hq, h⟩ := List.mem_flatMap.mp hr
    obtain ⟨k, hk, er⟩ := List.mem_map.mp h
    refine ⟨eff st n q, List.mem_map.mpr ⟨q, hq, rfl⟩, k, hk, ?_⟩
    rw [← e, ← er, ← eff_fold, ← eff_fold, List.foldl_append]
    rfl
  · rintro ⟨e, he, k, hk, rfl⟩
    obtain ⟨q, hq, rfl⟩ := List.mem_map.mp he
    refine List.mem_map.mpr ⟨q ++ [k], List.mem_flatMap.mpr ⟨q, hq, List.mem_map.mpr ⟨k, hk, rfl⟩⟩, ?_⟩
    rw [← eff_fold, ← eff_fold, List.foldl_append]
    rfl
theorem Mach.effs_in {n c : Nat} {st : List (List Int)} (M : Mach n c st) {L : Nat} {x : List Int} (h : x ∈ effs st n c L) : x ∈ allRows n n := by
  obtain ⟨r, hr, e⟩ := List.mem_map.mp h
  rw [← e]
  exact M.eff_in ((mem_allRows c L r).mp hr).2
/-- the lot of a length is never large -/
def Few (st : List (List Int)) (n c : Nat) : Prop := ∀ (L : Nat) (l : List (List Int)), l.Nodup → (∀ x ∈ l, x ∈ effs st n c L) → l.length ≤ 60
theorem Mach.few {n c : Nat} {st : List (List Int)} (M : Mach n c st) (h : n ≤ 3) : Few st n c := fun L l hn hl => by
  have := pigeon l (allRows n n) hn fun x hx => M.effs_in (hl x hx)
  rw [allRows_count] at this
  have hc : n ^ n ≤ 27 := by
    have hp := M.pos
    rcases (by omega : n = 1 ∨ n = 2 ∨ n = 3) with rfl | rfl | rfl <;> decide
  omega
/-! ### one command alone -/
theorem allRows_one : ∀ n, allRows 1 n = [List.replicate n 0]
  | 0 => rfl
  | n + 1 => by
    show (allRows 1 n).flatMap _ = _
    rw [allRows_one n]
    show [List.replicate n 0 ++ [(0 : Int)]] = _
    rw [List.replicate_succ']
theorem few_one {n : Nat} {st : List (List Int)} : Few st n 1 := fun L l hn hl => by
  have := pigeon l (effs st n 1 L) hn hl
  unfold effs at this
  rw [allRows_one] at this
  simp at this
  omega
section
variable {α : Type} [DecidableEq α] (step : α → Int → α) (a : α)
def itr (k : Nat) : α := (List.replicate k (0 : Int)).foldl step a
theorem allP_one (k : Nat) : allP 1 step a k = [(itr step a k, List.replicate k 0)] := by
  rw [allP_rows, allRows_one]
  rfl
theorem full_one_keys : ∀ (k : Nat) (x : α), x ∈ keys (full 1 step a k) ↔ ∃ i, i ≤ k ∧ x = itr step a i
  | 0, x => by
    show x ∈ [a] ↔ _
    rw [List.mem_singleton]
    constructor
    · rintro rfl; exact ⟨0, Nat.le_refl _, rfl⟩
    · rintro ⟨i, hi, rfl⟩
      have : i = 0 := by omega
      subst this; rfl
  | k + 1, x => by
    show x ∈ keys (scan (full 1 step a k) (allP 1 step a (k + 1))) ↔ _
    rw [scan_keys, full_one_keys k, allP_one]
    simp only [keys, List.map_cons, List.map_nil, List.mem_singleton]
    constructor
    · rintro (⟨i, hi, e⟩ | e)
      · exact ⟨i, by omega, e⟩
      · exact ⟨k + 1, Nat.le_refl _, e⟩
    · rintro ⟨i, hi, e⟩
      by_cases h : i = k + 1
      · subst h; exact .inr e
      · exact .inl ⟨i, by omega, e⟩
theorem full_one_len : ∀ k, (full 1 step a k).length ≤ k + 1
  | 0 => Nat.le_refl _
  | k + 1 => by
    have ih := full_one_len k
    show (scan (full 1 step a k) (allP 1 step a (k + 1))).length ≤ _
    rw [allP_one, scan_cons, scan_nil]
    unfold scan1
    split
    · omega
    · rw [List.length_append]; simp; omega
/-- the first time that a value comes -/
theorem full_one_first {m : Nat} (h : ∀ i, i < m → itr step a i ≠ itr step a m) {N : Nat} (hN : m ≤ N) : look (full 1 step a N) (itr step a m) = some (List.replicate m 0) := by
  have hm : (itr step a m, List.replicate m (0 : Int)) ∈ full 1 step a m := by
    cases m with
    | zero => exact List.mem_singleton.mpr rfl
    | succ m =>
      show _ ∈ scan (full 1 step a m) (allP 1 step a (m + 1))
      rw [allP_one, scan_cons, scan_nil, scan1_new fun z => ?_]
      · exact List.mem_append_right _ (List.mem_singleton.mpr rfl)
      · obtain ⟨i, hi, e⟩ := (full_one_keys step a m _).mp z
        exact h i (by omega) e.symm
  obtain ⟨r, hr⟩ := full_prefix 1 step a hN
  exact look_of_mem (full_nodup 1 step a N) (p := (itr step a m, List.replicate m 0)) (by rw [hr]; exact List.mem_append_left _ hm)
end
end K02

set_option linter.all false
namespace K02
section
variable {α : Type} [DecidableEq α]
theorem scan_take {acc l : List (α × Row)} {j : Nat} {x : α × Row} (h : l[j]? = some x) : scan acc (l.take (j + 1)) = scan1 (scan acc (l.take j)) x := by
  rw [List.take_succ, h, scan_append]
  rfl
theorem scan_length_le (cs : List (α × Row)) : ∀ B : List (α × Row), (scan B cs).length ≤ B.length + cs.length := by
  induction cs with
  | nil => intro B; exact Nat.le_refl _
  | cons p t ih =>
    intro B
    rw [scan_cons]
    have := ih (scan1 B p)
    have h1 : (scan1 B p).length ≤ B.length + 1 := by
      unfold scan1
      split
      · omega
      · rw [List.length_append]; exact Nat.le_refl _
    simp only [List.length_cons]
    omega
theorem look_scan {B cs : List (α × Row)} {a : α} {r : Row} (h : look B a = some r) : look (scan B cs) a = some r := by
  rw [scan_news, look_append, h]
  rfl
theorem look_scan1 {B : List (α × Row)} {p : α × Row} {a : α} {r : Row} (h : look B a = some r) : look (scan1 B p) a = some r := look_scan (cs := [p]) h
theorem drop_scan1 {B : List (α × Row)} {p : α × Row} {n : Nat} (hn : n ≤ B.length) (h : p.1 ∉ keys B) : keys ((scan1 B p).drop n) = keys (B.drop n) ++ [p.1] := by
  rw [scan1_new h, List.drop_append_of_le_length hn]
  unfold keys
  rw [List.map_append]
  rfl
variable (c : Nat) (step : α → Int → α)
theorem ext_take {f : List (α × Row)} {i : Nat} {p : α × Row} (h : f[i]? = some p) : ext c step (f.take (i + 1)) = ext c step (f.take i) ++ ext1 c step p := by
  rw [List.take_succ, h, ext_append]
  congr 1
  show ext c step [p] = _
  rw [ext_cons, ext_nil, List.append_nil]
theorem ext1_get {p : α × Row} {j : Nat} (h : j < c) : (ext1 c step p)[j]? = some (step p.1 (j : Int), p.2 ++ [(j : Int)]) := by
  unfold ext1
  rw [List.getElem?_map, cmds_get h]
  rfl
theorem ext1_length (p : α × Row) : (ext1 c step p).length = c := by unfold ext1; rw [List.length_map, cmds_length]
theorem ext_length (f : List (α × Row)) : (ext c step f).length = f.length * c := by
  induction f with
  | nil => simp [ext_nil]
  | cons p t ih => rw [ext_cons, List.length_append, ih, ext1_length, List.length_cons, Nat.succ_mul, Nat.add_comm]
theorem fresh_sub (a : α) : ∀ n, ∃ pre, full c step a n = pre ++ fresh c step a n
  | 0 => ⟨[], rfl⟩
  | n + 1 => ⟨full c step a n, full_succ c step a n⟩
theorem fresh_look (a : α) (n : Nat) {p : α × Row} (h : p ∈ fresh c step a n) : look (full c step a n) p.1 = some p.2 := by
  obtain ⟨pre, e⟩ := fresh_sub c step a n
  exact look_of_mem (full_nodup c step a n) (by rw [e]; exact List.mem_append_right _ h)
theorem fresh_le (a : α) (n : Nat) : (fresh c step a n).length ≤ (full c step a n).length := by
  obtain ⟨pre, e⟩ := fresh_sub c step a n
  rw [e, List.length_append]
  omega
theorem full_stop2 (a : α) {L n : Nat} (h : fresh c step a L = []) (hl : L ≤ n) : full c step a n = full c step a L := by
  cases L with
  | zero => exact absurd h (by simp [fresh])
  | succ L => rw [full_stop c step a h n (by omega), full_stop c step a h (L + 1) (by omega)]
theorem fresh_row (a : α) (L : Nat) {p : α × Row} (h : p ∈ fresh c step a L) : p.2 ∈ allRows c L ∧ p.1 = p.2.foldl step a := by
  have h2 : p ∈ allP c step a L := by
    cases L with
    | zero => exact h
    | succ L => exact (news_sub _ _ _ h).1
  rw [allP_rows] at h2
  obtain ⟨r, hr, e⟩ := List.mem_map.mp h2
  rw [← e]
  exact ⟨hr, rfl⟩
/-- the lot after i fresh ones and j commands of the next -/
def part (a : α) (L i : Nat) : List (α × Row) := scan (full c step a L) (ext c step ((fresh c step a L).take i))
def part1 (a : α) (L i : Nat) (p : α × Row) (j : Nat) : List (α × Row) := scan (part c step a L i) ((ext1 c step p).take j)
theorem part_zero (a : α) (L : Nat) : part c step a L 0 = full c step a L := rfl
theorem part_end (a : α) (L : Nat) : part c step a L (fresh c step a L).length = full c step a (L + 1) := by
  unfold part
  rw [List.take_length, full_bfs]
theorem part1_zero (a : α) (L i : Nat) (p : α × Row) : part1 c step a L i p 0 = part c step a L i := rfl
theorem part1_end (a : α) {L i : Nat} {p : α × Row} (h : (fresh c step a L)[i]? = some p) : part1 c step a L i p c = part c step a L (i + 1) := by
  unfold part1 part
  rw [ext_take c step h, scan_append]
  congr 1
  exact List.take_of_length_le (by rw [ext1_length]; exact Nat.le_refl _)
theorem part1_succ (a : α) (L i : Nat) (p : α × Row) {j : Nat} (h : j < c) : part1 c step a L i p (j + 1) = scan1 (part1 c step a L i p j) (step p.1 (j : Int), p.2 ++ [(j : Int)]) := scan_take (ext1_get c step h)
theorem part1_look (a : α) {L i : Nat} {p : α × Row} (h : (fresh c step a L)[i]? = some p) (j : Nat) : look (part1 c step a L i p j) p.1 = some p.2 :=
  look_scan (look_scan (fresh_look c step a L (List.mem_of_getElem? h)))
theorem part1_ge (a : α) (L i : Nat) (p : α × Row) (j : Nat) : (full c step a L).length ≤ (part1 c step a L i p j).length := Nat.le_trans (scan_len_le _ _) (scan_len_le _ _)
theorem part1_le (a : α) {L i : Nat} {p : α × Row} (h : (fresh c step a L)[i]? = some p) (j : Nat) (hj : j ≤ c) : (part1 c step a L i p j).length ≤ (full c step a L).length + (full c step a L).length * c := by
  have h1 := scan_length_le ((ext1 c step p).take j) (part c step a L i)
  have h2 := scan_length_le (ext c step ((fresh c step a L).take i)) (full c step a L)
  rw [ext_length] at h2
  have hi := (List.getElem?_eq_some_iff.mp h).1
  have h3 : ((fresh c step a L).take i).length = i := by rw [List.length_take]; omega
  rw [h3] at h2
  have h4 : ((ext1 c step p).take j).length = j := by rw [List.length_take, ext1_length]; omega
  rw [h4] at h1
  have h5 := fresh_le c step a L
  have h6 : i + 1 ≤ (full c step a L).length := by omega
  have h7 : (i + 1) * c ≤ (full c step a L).length * c := Nat.mul_le_mul_right c h6
  rw [Nat.succ_mul] at h7
  show (scan (part c step a L i) ((ext1 c step p).take j)).length ≤ _
  have h8 : (part c step a L i).length ≤ (full c step a L).length + i * c := h2
  omega
theorem part1_keys (a : α) (L : Nat) : keys ((full c step a L).drop (full c step a L).length) = [] := by rw [List.drop_length]; rfl
theorem fresh_keys (a : α) (L : Nat) : keys ((part c step a L (fresh c step a L).length).drop (full c step a L).length) = keys (fresh c step a (L + 1)) := by
  rw [part_end, full_succ, List.drop_left]
end
end K02

set_option Elab.async false
set_option linter.all false
set_option maxRecDepth 100000
set_option maxHeartbeats 4000000
namespace K02
open PySem L2
/-! ### the text by places -/
def top (i : Nat) : Stmt := PySem.Challenge.pw_endsandround_k02_whole_effects_and_first.main.body.getD i (.Pass ⟨0, 0, 0, 0⟩)
abbrev tIsInt : Stmt := top 6
abbrev tIsNum : Stmt := top 7
abbrev tIsSeq : Stmt := top 8
abbrev tIsIdx : Stmt := top 9
/-! ### a def that is known by its promise -/
structure Has (P : Program) (w : World) (K : PySem.W.Frag) (mg : Str → Option Value) (base : Heap) (k : Nat) (x : Str) (ps : List Str) (sp : Sp) : Prop where
  ex : ∃ (f : Addr) (fd : FuncData), FnOk P w K mg base CX0 k f fd ps sp ∧ mg x = some (.ref f) ∧ PySem.W.keepIn K (.ref f) = true ∧ Binds K fd ps [] ∧ ∃ oc od osl, K.lookup f = some ⟨oc, od, .func fd, osl⟩
section
variable {X : Cx} {k j : Nat} {x : Str} {ps : List Str} {sp : Sp} {e : Expr} {es : List Expr} {t : TA} {p pos : Pos}
def tCl (sp : Sp) (t : TA) : TE := fun σ H Q => t σ H fun vs H1 => sp vs H1 Q E0
theorem pe_h (h : Has X.prog X.w X.K X.mg X.base k x ps sp) (hr : Room j X.A) (hk : k ≤ j) (ha : PA X (e :: es) t) (hg : Gl X x := by rfl) (hdb : (x == ("__debug__" : Str)) = false := by decide)
    (he : starEach (e :: es) X.env = (false, eval e X.env) :: starEach es X.env := by rfl) (hpl : (backTo pos (starEach es X.env)).any (·.1) = false := by rfl) :
    PE X (.Call (.Name x p) (e :: es) [] pos) (tCl sp t) := by
  obtain ⟨f, fd, F, hm, hkp, hb, _⟩ := h.ex
  have r := pe_call (p := p) (pos := pos) F (hr.mono hk) hg hm hkp hb .nil (pass0 (X := X)) ha hdb he hpl
  refine ⟨fun pins s σ H Q I hq => r.run pins s σ H Q I ?_⟩
  have e1 : tCl sp t = tCall sp [] E0 t := by
    unfold tCl tCall
    funext σ H Q
    congr 1
    funext vs H1
    rw [List.append_nil]
  rw [← e1]
  exact hq
end
/-- a def of the top: where it stands -/
structure Df (K : PySem.W.Frag) (mg : Str → Option Value) (x : Str) (st : Stmt) : Prop where
  ex : ∃ (f : Addr) (fd : FuncData), Fun K x x st f fd ∧ mg x = some (.ref f)
theorem Df.has {P : Program} {w : World} {K : PySem.W.Frag} {mg : Str → Option Value} {base : Heap} {k : Nat} {x : Str} {st : Stmt} {ps : List Str} {sp : Sp} (D : Df K mg x st)
    (h : ∀ {f : Addr} {fd : FuncData}, Fun K x x st f fd → FnOk P w K mg base CX0 k f fd ps sp) (hb : ∀ {f : Addr} {fd : FuncData}, Fun K x x st f fd → Binds K fd ps []) : Has P w K mg base k x ps sp := by
  obtain ⟨f, fd, F, hm⟩ := D.ex
  refine ⟨f, fd, h F, hm, F.kp, hb F, ?_⟩
  obtain ⟨oc, od, kV, doc, pm, an, cdv, ct, osl, e, lk, _⟩ := F.ex
  exact ⟨oc, od, osl, e ▸ lk⟩
theorem Has.mono {P : Program} {w : World} {K : PySem.W.Frag} {mg : Str → Option Value} {base : Heap} {j k : Nat} {x : Str} {ps : List Str} {sp : Sp} (h : Has P w K mg base j x ps sp) (hk : j ≤ k) : Has P w K mg base k x ps sp := by
  obtain ⟨f, fd, F, r⟩ := h.ex
  exact ⟨f, fd, F.mono hk, r⟩
/-! ### what the top leaves of the built-ins -/
structure Bi (mg : Str → Option Value) : Prop where
  isinstance : mg "isinstance" = none
  int : mg "int" = none
  bool : mg "bool" = none
  list : mg "list" = none
  tuple : mg "tuple" = none
  len : mg "len" = none
  enumerate : mg "enumerate" = none
  all : mg "all" = none
  range : mg "range" = none
  sorted : mg "sorted" = none
  abs : mg "abs" = none
  repr : mg "repr" = none
  set : mg "set" = none
  super : mg "super" = none
/-! ### plain -/
section
variable {P : Program} {w : World} {K : PySem.W.Frag} {mg : Str → Option Value} {base : Heap}
/-- what is asked of is_integer: an int, or None, or a text -/
inductive Plain : V → Bool → Prop where
  | int (i : Int) : Plain (.int i) true
  | non : Plain .non false
  | str (z : Str) : Plain (.str z) false
def spIsInt : Sp := fun vs H Q _ => ∃ x b, vs = [x] ∧ Plain x b ∧ Q (.bl b) H
theorem scIsInt : FnScope ["value"] ["value"] (defScope tIsInt) := ⟨rfl, rfl, rfl, by decide +kernel, rfl, by decide +kernel, by decide +kernel⟩
theorem ok_isInt {f : Addr} {fd : FuncData} (B : Bi mg) (F : Fun K "is_integer" "is_integer" tIsInt f fd) : FnOk P w K mg base CX0 1 f fd ["value"] spIsInt := by
  refine F.ok scIsInt (fun vs H Q E h => ?_) (fun cdv A outer s H vs Q E hr h => ?_)
  · obtain ⟨x, b, rfl, _⟩ := h
    rfl
  · obtain ⟨x, b, rfl, hx, q⟩ := h
    refine ⟨_, pss_one (ps_ret (pe_and (pe_callB call_isi (by rfl) B.isinstance (by decide +kernel) (pa_cons (pv 0) (pa_cons (pe_bltn (v := .ty "int") (by rfl) B.int (by decide +kernel) rfl) pa_nil)))
      (pe_one (pe_not (pe_callB call_isi (by rfl) B.isinstance (by decide +kernel) (pa_cons (pv 0) (pa_cons (pe_bltn (v := .ty "bool") (by rfl) B.bool (by decide +kernel) rfl) pa_nil))))))), ?_⟩
    cases hx with
    | int i => exact ⟨_, rfl, _, _, _, _, _, rfl, .ty _, .base (.int i), kit_ty (by decide +kernel), true, rfl, _, rfl, _, _, _, _, _, rfl, .ty _, .base (.int i), kit_ty (by decide +kernel), false, rfl, q⟩
    | non => exact ⟨_, rfl, _, _, _, _, _, rfl, .ty _, .base .non, kit_ty (by decide +kernel), false, rfl, q⟩
    | str z => exact ⟨_, rfl, _, _, _, _, _, rfl, .ty _, .base (.str z), kit_ty (by decide +kernel), false, rfl, q⟩
theorem has_isInt (B : Bi mg) (D : Df K mg "is_integer" tIsInt) : Has P w K mg base 1 "is_integer" ["value"] spIsInt :=
  D.has (fun F => ok_isInt B F) (fun F => F.binds fun _ _ _ _ _ _ us hl => match us, hl with | [_], _ => rfl)
def spIsNum : Sp := fun vs H Q _ => ∃ x, vs = [x] ∧ ((∃ i, x = .int i ∧ Q (.bl (decide (0 ≤ i))) H) ∨ (Plain x false ∧ Q (.bl false) H))
theorem scIsNum : FnScope ["value"] ["value"] (defScope tIsNum) := ⟨rfl, rfl, rfl, by decide +kernel, rfl, by decide +kernel, by decide +kernel⟩
theorem has_isNum (G : Has P w K mg base 1 "is_integer" ["value"] spIsInt) (D : Df K mg "is_number" tIsNum) : Has P w K mg base 2 "is_number" ["value"] spIsNum := by
  refine D.has (fun F => F.ok scIsNum (fun vs H Q E h => ?_) (fun cdv A outer s H vs Q E hr h => ?_)) (fun F => F.binds fun _ _ _ _ _ _ us hl => match us, hl with | [_], _ => rfl)
  · obtain ⟨x, rfl, _⟩ := h
    rfl
  · obtain ⟨x, rfl, h⟩ := h
    refine ⟨_, pss_one (ps_ret (pe_and (pe_h G hr (by decide) (pa_cons (pv 0) pa_nil)) (pe_one (pe_cmpR op_ge (pv 0) pe_int (nomark _))))), ?_⟩
    rcases h with ⟨i, rfl, q⟩ | ⟨hx, q⟩
    · exact ⟨_, rfl, _, _, rfl, .int i, true, rfl, _, rfl, _, _, rfl, rfl, q⟩
    · exact ⟨_, rfl, _, _, rfl, hx, false, rfl, q⟩
def spIsIdx : Sp := fun vs H Q _ => ∃ x n, vs = [x, .int n] ∧ ((∃ i, x = .int i ∧ Q (.bl (decide (0 ≤ i ∧ i < n))) H) ∨ (Plain x false ∧ Q (.bl false) H))
theorem scIsIdx : FnScope ["value", "many"] ["value", "many"] (defScope tIsIdx) := ⟨rfl, rfl, rfl, by decide +kernel, rfl, by decide +kernel, by decide +kernel⟩
theorem has_isIdx (G : Has P w K mg base 2 "is_number" ["value"] spIsNum) (D : Df K mg "is_index" tIsIdx) : Has P w K mg base 3 "is_index" ["value", "many"] spIsIdx := by
  refine D.has (fun F => F.ok scIsIdx (fun vs H Q E h => ?_) (fun cdv A outer s H vs Q E hr h => ?_)) (fun F => F.binds fun _ _ _ _ _ _ us hl => match us, hl with | [_, _], _ => rfl)
  · obtain ⟨x, n, rfl, _⟩ := h
    rfl
  · obtain ⟨x, n, rfl, h⟩ := h
    refine ⟨_, pss_one (ps_ret (pe_and (pe_h G hr (by decide) (pa_cons (pv 0) pa_nil)) (pe_one (pe_cmpR op_lt (pv 0) (pv 1) (nomark _))))), ?_⟩
    rcases h with ⟨i, rfl, q⟩ | ⟨hx, q⟩
    · refine ⟨_, rfl, _, rfl, .inl ⟨i, rfl, ⟨_, rfl, ?_⟩⟩⟩
      by_cases h0 : 0 ≤ i
      · rw [decide_eq_true h0]
        refine iteT ⟨_, rfl, _, rfl, _, _, rfl, rfl, ?_⟩
        have e : decide (0 ≤ i ∧ i < n) = decide (i < n) := by simp [h0]
        rw [e] at q
        exact q
      · rw [decide_eq_false h0]
        refine iteF ?_
        have e : decide (0 ≤ i ∧ i < n) = false := by simp [h0]
        rw [e] at q
        exact q
    · exact ⟨_, rfl, _, rfl, .inr ⟨hx, _, rfl, q⟩⟩
/-- a list or a tuple -/
inductive IsSeqV (H : Hp) : V → Prop where
  | lst {a : Addr} {xs : List V} (h : H a = some (.lst xs)) : IsSeqV H (.ref a)
  | tup {a : Addr} {xs : List V} (h : H a = some (.tup xs)) : IsSeqV H (.ref a)
theorem IsSeqV.same {H H' : Hp} {x : V} (h : IsSeqV H x) (s : Same H H') : IsSeqV H' x := by
  cases h with
  | lst h => exact .lst (s _ _ h)
  | tup h => exact .tup (s _ _ h)
theorem same_new {H : Hp} {p : Addr} {o : HO} (h : H p = none) : Same H (upd H p o) := fun b u e => by
  rw [upd_ne (ne_of_none e h)]
  exact e
def spIsSeq : Sp := fun vs H Q _ => ∃ x, vs = [x] ∧ IsSeqV H x ∧ ∀ H', Same H H' → Q (.bl true) H'
theorem scIsSeq : FnScope ["value"] ["value"] (defScope tIsSeq) := ⟨rfl, rfl, rfl, by decide +kernel, rfl, by decide +kernel, by decide +kernel⟩
theorem has_isSeq (B : Bi mg) (D : Df K mg "is_sequence" tIsSeq) : Has P w K mg base 1 "is_sequence" ["value"] spIsSeq := by
  refine D.has (fun F => F.ok scIsSeq (fun vs H Q E h => ?_) (fun cdv A outer s H vs Q E hr h => ?_)) (fun F => F.binds fun _ _ _ _ _ _ us hl => match us, hl with | [_], _ => rfl)
  · obtain ⟨x, rfl, _⟩ := h
    rfl
  · obtain ⟨x, rfl, hx, q⟩ := h
    refine ⟨_, pss_one (ps_ret (pe_callB call_isiT (by rfl) B.isinstance (by decide +kernel) (pa_cons (pv 0) (pa_cons (pe_tup (pa_cons (pe_bltn (v := .ty "list") (by rfl) B.list (by decide +kernel) rfl) (pa_cons (pe_bltn (v := .ty "tuple") (by rfl) B.tuple (by decide +kernel) rfl) pa_nil))) pa_nil)))), ?_⟩
    refine ⟨_, rfl, by show 2 ≤ sizeLine; decide, fun p hp => ?_⟩
    cases hx with
    | lst h => exact ⟨_, p, _, .type "list", [.type "list", .type "tuple"], true, rfl, upd_same, .cons (.ty _) (.cons (.ty _) .nil), .base (.lst (same_new hp _ _ h)), kitAny_cons (b := true) (kit_ty (by decide +kernel)) (fun z => nomatch z) (fun _ => rfl), q _ (same_new hp)⟩
    | tup h => exact ⟨_, p, _, .type "tuple", [.type "list", .type "tuple"], true, rfl, upd_same, .cons (.ty _) (.cons (.ty _) .nil), .base (.tup (same_new hp _ _ h)), kitAny_cons (b := false) (kit_ty (by decide +kernel)) (fun _ => kitAny_cons (b := true) (kit_ty (by decide +kernel)) (fun z => nomatch z) (fun _ => rfl)) (fun z => nomatch z), q _ (same_new hp)⟩
end
end K02

set_option Elab.async false
set_option linter.all false
set_option maxRecDepth 100000
set_option maxHeartbeats 4000000
namespace K02
open PySem PySem.W PySem.Calls PyProof.Rows PySem.HandSPX
abbrev tRefused : Stmt := top 4
abbrev tRIni : Stmt := L2.inClass tRefused 0
/-- what the top says of Refused, at C; its __init__, at fI, with the cell cc of its class -/
structure RTxt (P : Program) (K : Frag) (mg : Str → Option Value) (C fI cc : Addr) : Prop where
  gC : mg "Refused" = some (.ref C)
  cls : ∃ nm q N bs bm sn sub ab col dd k0 k1 k2 k3 k5, K.lookup C = some (excClassObj nm q C N bs bm true sn sub ab col dd k0 k1 k2 k3 k5 "ValueError.__new__") ∧ refsVE bm = true
  sa : findIn K (.ref C) "__setattr__" = some (some (.builtin "object.__setattr__"))
  ga : findIn K (.ref C) "__getattribute__" = some (some (.builtin "BaseException.__getattribute__"))
  gg : findIn K (.ref C) "__getattr__" = some none
  noN : findIn K (.ref C) "at" = some none
  iC : findIn K (.ref C) "__init__" = some (some (.ref fI))
  tI : typeIn K (.ref fI) = some (.type "function")
  kC : keepIn K (.ref C) = true
  exC : subIn K (.ref C) (.type "BaseException") = some true
  veC : subIn K (.ref C) (.type "ValueError") = some true
  tyC : typeIn K (.ref C) = some (.type "type")
  hdC : hasDictIn K C = true
  sup : ks_superIn K C C "__init__" = some (some (.builtin "ValueError.__init__"))
  own : mroIn K C (.ref C) = some true
  tp : nsIn K cStatics "thirdparty.any" = some none
  sup0 : mg "super" = none
  cell : ∃ cl cld csl, K.lookup cc = some ⟨cl, cld, .cell (some (.ref C)), csl⟩
  fn : ∃ (oc : Value) (od : Option Addr) (doc pm : Value) (an : Option Addr) (cda : Addr) (ct : Value) (osl : Array (Option Value)),
    K.lookup fI = some ⟨oc, od, .func (ksFn "__init__" "Refused.__init__" (L2.defArgs tRIni) (L2.defBody tRIni) (L2.defScope tRIni) .none .none doc pm an (.ref cda) ct cc), osl⟩ ∧ codeIn K (.ref cda) "Refused.__init__" = true ∧
    ∃ ccl cdd vs ccs file tf, K.lookup cda = some ⟨ccl, cdd, .fields vs, ccs⟩ ∧ vs[2]? = some (.str file tf) ∧ ((P.main.file : Str) == file) = true
  tops : (P.main.scope.names.lookup ("super" : Str)).isSome = false
/-- what __init__ leaves of a fresh exception at x -/
structure REnd (h h' : Heap) (x C dx : Addr) (v : Value) : Prop where
  keep : ∀ b o, b ≠ x → h.get? b = some o → h'.get? b = some o
  obj : ∃ t1 : Addr, h'.get? x = some { cls := .ref C, dict := some dx, data := .fields #[.ref t1, .none, .none, .none, .bool false, .none] }
  dbig : h.objs.size ≤ dx
  dne : dx ≠ x
  ns : h'.Ns1 dx (fun y => if y = "at" then some v else none)
section
variable {prog : Program} {w : World} {A : Around} {E : Value → Shared → Prop} {R : Result → Shared → Prop} {s : Shared} {K : Frag} {mg mb : Str → Option Value} {C fI cc : Addr}
theorem rSc1 : ∀ x ∈ (L2.defScope tRIni).names, x.2 ≠ .cell := by decide +kernel
theorem rSc2 {a b : Value} : ∀ x ∈ [(("self" : Str), a), (("at" : Str), b)], (L2.defScope tRIni).names.lookup x.1 = some .local := fun x h => by
  rcases List.mem_cons.mp h with z | h
  · rw [z]
    show (L2.defScope tRIni).names.lookup ("self" : Str) = _
    decide +kernel
  rcases List.mem_cons.mp h with z | h
  · rw [z]
    show (L2.defScope tRIni).names.lookup ("at" : Str) = _
    decide +kernel
  · cases h
/-- the built-in __init__ bound to an exception, called -/
theorem mw_call {h : Heap} {g : Array GenState} {d : Drawn} {tk : Nat} {os : OsState} {nm q : Str} {N u x t0 : Addr} {bs bm : List Value} {hd : Bool} {sn : List Str} {sub : List Value} {ab : Bool} {col : Option Bool} {dd : Option Addr} {k0 k1 k2 k3 k5 : Option Value} {rest : List Value}
    {Q : Value → Shared → Prop} (hC : h.get? C = some (excClassObj nm q C N bs bm hd sn sub ab col dd k0 k1 k2 k3 k5 "ValueError.__new__")) (hu : h.get? u = some (kxs_mw "ValueError.__init__" x)) (hx : h.get? x = some (excO C t0)) (hz : rest.length ≤ sizeLine)
    (hq : ∀ h', (∀ b o, b ≠ x → h.get? b = some o → h'.get? b = some o) → h'.get? x = some (excO C h.objs.size) → Q .none ⟨h', g, d, tk, os⟩) : wpAny (model prog w) A (call (.ref u) rest) Q E ⟨h, g, d, tk, os⟩ := by
  refine wpAny_call (codeAny_of_tree ?_)
  show wpAny _ A.in1 (callAny (.ref u) ⟨rest, []⟩) _ _ _
  simp only [callAny]
  refine wpAny_bind (wpAny_load hu ?_)
  simp only [kxs_mw, show (Value.type "method-wrapper" == Value.type "method" || Value.type "method-wrapper" == Value.type "builtin_function_or_method" || Value.type "method-wrapper" == Value.type "method-wrapper") = true by decide, if_true]
  refine KFB.if_so (by decide) ?_
  refine wpAny_bind (check_bound_init F.excBase_ValueError.toExcCallFacts hC hx rfl ?_)
  refine wpAny_bind (wpAny_pure (wpAny_pure ?_))
  refine ⟨plainId_quiet F.excBase_ValueError.init.plain _, codeAny_builtin F.excBase_ValueError.initEntry ?_⟩
  exact exc_init_tree (cls := .ref C) (t0 := t0) (dv := none) (c2 := .none) (c3 := .none) (b4 := .bool false) hx hz fun h' a b _ => hq h' a b
theorem r_init (T : RTxt prog K mg C fI cc) {x t0 : Addr} {v : Value} (X : K.In s.heap) (G : s.heap.Ns mainGlobals mg) (Bl : s.heap.Ns builtinsNs mb) (hmb : mb "super" = some (.type "super")) (hlim : s.heap.NoLimit) (hx : s.heap.get? x = some (excO C t0)) (hnx : K.lookup x = none) (hroom : A.depth < recursionLimit)
    (hq : ∀ h' tk dx, REnd s.heap h' x C dx v → R (.ok (.ret .none)) { s with heap := h', toks := tk }) :
    codeAny (model prog w) A (.call (.ref fI) ⟨[.ref x, v], []⟩) R s := by
  obtain ⟨oc, od, doc, pm, an, cda, ct, osl, ho, hcd, ccl, cdd, vs, ccs, file, tf, hcode, hvs, hfile⟩ := T.fn
  obtain ⟨cl, cld, csl, hcell⟩ := T.cell
  obtain ⟨nm, q, N, bs, bm, sn, sub, ab, col, dd, k0, k1, k2, k3, k5, hC, hbm⟩ := T.cls
  have hcl : clsIn K C = some { name := nm, bases := bs, mro := .ref C :: bm, ns := N, qualname := q, hasDict := true, slotNames := sn, subclasses := sub, abstract := ab, collection := col, hasDel := false } := by unfold clsIn; rw [hC] <;> rfl
  have hxC : x ≠ C := fun z => by rw [z, hC] at hnx; cases hnx
  refine ks_codeAny_call_defAt (binds := [("self", .ref x), ("at", v)]) hroom (X _ _ ho) rfl hlim (codeRec_of X hcd) rfl (BindsTo.of_eq (by rfl)) rSc1 rSc2 (fun h₁ hns hk₁ => ?_)
  have X₁ : K.In h₁ := X.keeps hk₁
  have hx₁ := hk₁ _ _ hx
  refine ks_wpAt_execs_cons (ks_wpAt_Expr_any (ks_wpAt_MethodCall (ks_wpAt_super_base (by rfl) (by rfl) (by decide +kernel) rfl (X₁ _ _ ho) rfl rfl rfl (X₁ _ _ hcode) rfl hvs hfile T.tops ?_)))
  refine ks_loadName_global rfl (by rfl) (loadGlobal_builtin (G.keeps hk₁) T.sup0 (Bl.keeps hk₁) hmb ⟨rfl, ?_⟩)
  refine wpAny_loadName_free rfl (by rfl) rfl ⟨_, X₁ _ _ hcell, rfl⟩ ?_
  refine wpAny_loadName_local (v := .ref x) rfl (by rfl) hns (by rfl) ?_
  refine ks_wpAny_isType_cls (X₁ _ _ hC) rfl ⟨rfl, ?_⟩
  refine ks_wpAny_call_super (X₁ _ _ hC) rfl hx₁ rfl (fun c e => by cases e) (looks_mroIn X₁ T.own) (fun h₂ hso hk₂ => ?_)
  have X₂ : K.In h₂ := X₁.keeps hk₂
  have hx₂ := hk₂ _ _ hx₁
  have I₂ : InstAt h₂ x (excO C t0) C none := ⟨hx₂, rfl, rfl, trivial⟩
  have hs := T.sup
  unfold ks_superIn at hs
  rw [hcl] at hs
  refine kxs_getMethod kxs_ValueError hso (looks_opaque X₂ T.tp) (l₀ := .ref C :: bm) (fun A Q E s k q => wpAny_bind ((looks_clsIn X₂ hcl) A _ E s k (wpAny_pure q))) rfl X₂ hs (I₂.type.andThen (looks_subIn X₂ T.veC)) hxC (by decide +kernel) ?_
  have hu : (h₂.push (kxs_mw "ValueError.__init__" x)).get? h₂.objs.size = some (kxs_mw "ValueError.__init__" x) := Heap.get?_push_at rfl rfl
  generalize hH3 : h₂.push (kxs_mw "ValueError.__init__" x) = h₃ at hu ⊢
  have hk₃ : ∀ b o, h₂.get? b = some o → h₃.get? b = some o := fun b o e => by rw [← hH3]; exact Heap.get?_push_of_some _ e
  have X₃ : K.In h₃ := X₂.keeps hk₃
  have hx₃ := hk₃ _ _ hx₂
  show wpAny _ _ (callWith _ (.ref h₂.objs.size) [] _ []) _ _ _
  rw [show ∀ env : Env, starEach [Expr.Constant (Const.str (Str.ofString "refused")) 0 { line := 17, col := 25, endLine := 17, endCol := 34 }] env = [(false, eval (Expr.Constant (Const.str (Str.ofString "refused")) 0 { line := 17, col := 25, endLine := 17, endCol := 34 }) env)] from fun _ => rfl]
  refine kxs_callWith (i := "ValueError.__init__") (x := x) rfl (evalArgs_plain (spliced_cons (Constant_str (k := 0) (pos := ⟨17, 25, 17, 34⟩) (spliced_nil ⟨hu, ?_⟩))))
  refine mw_call (X₃ _ _ hC) hu hx₃ (by show 1 ≤ sizeLine; decide) fun h₄ hk₄ hx₄ => ?_
  have k₄ : ∀ b o, b ≠ x → s.heap.get? b = some o → h₄.get? b = some o := fun b o n e => hk₄ b o n (hk₃ b o (hk₂ b o (hk₁ b o e)))
  have X₄ : K.In h₄ := fun a o e => k₄ a o (fun z => by rw [z, hnx] at e; cases e) (X a o e)
  have hsz : s.heap.objs.size < h₁.objs.size := hns.lt
  have hL : s.heap.objs.size ≠ x := Nat.ne_of_gt (Heap.lt_size hx)
  have hns₄ : h₄.Ns s.heap.objs.size (fun y => ([("self", .ref x), ("at", v)] : List (Str × Value)).reverse.lookup y) := by
    obtain ⟨oL, es, ep, e1, r⟩ := hns
    exact ⟨oL, es, ep, hk₄ _ _ hL (hk₃ _ _ (hk₂ _ _ e1)), r⟩
  refine ks_wpAt_execs_cons (ks_wpAt_Assign_Attr (wpAt_of_wpAny ?_))
  refine ldc (v := v) rfl (by rfl) hns₄ (by rfl) (ldc (v := .ref x) rfl (by rfl) hns₄ (by rfl) ?_)
  refine set_plain X₄ (ox := excO C h₃.objs.size) (od := none) ⟨hx₄, rfl, rfl, trivial⟩ T.sa ?_
  refine exc_osa X₄ hx₄ hcl (show refsVE (.ref C :: bm) = true from hbm) rfl T.noN (fun h₅ tk₅ dx k₅ dn dne hx₅ hn₅ => ?_)
  have z : s.heap.objs.size < h₄.objs.size := by
    obtain ⟨oL, _, _, e1, _⟩ := hns₄
    exact Heap.lt_size e1
  refine wpAt_of_wpAny (wpAny_execs_nil (hq h₅ tk₅ dx ⟨fun b o hb e => k₅ b o hb (k₄ b o hb e), ⟨_, hx₅⟩, Nat.le_of_lt (Nat.lt_of_lt_of_le z dn), dne, hn₅⟩))
/-- a made Refused -/
structure RMade (h h' : Heap) (e C d : Addr) (v : Value) : Prop where
  keep : ∀ b o, h.get? b = some o → h'.get? b = some o
  new : h.objs.size ≤ e
  obj : ∃ oe vs, h'.get? e = some oe ∧ oe.cls = .ref C ∧ oe.dict = some d ∧ oe.data = .fields vs ∧ vs[1]? = some .none
  dbig : h.objs.size ≤ d
  dne : d ≠ e
  ns : h'.Ns1 d (fun y => if y = "at" then some v else none)
theorem r_made (T : RTxt prog K mg C fI cc) {v : Value} (X : K.In s.heap) (G : s.heap.Ns mainGlobals mg) (Bl : s.heap.Ns builtinsNs mb) (hmb : mb "super" = some (.type "super")) (hlim : s.heap.NoLimit) (hroom : A.depth + 1 < recursionLimit)
    (hq : ∀ h' tk e d, RMade s.heap h' e C d v → R (.ok (.ret (.ref e))) { s with heap := h', toks := tk }) :
    codeAny (model prog w) A (.call (.ref C) ⟨[v], []⟩) R s := by
  obtain ⟨nm, q, N, bs, bm, sn, sub, ab, col, dd, k0, k1, k2, k3, k5, hC, hbm⟩ := T.cls
  obtain ⟨hp, g, dr, tk, os⟩ := s
  have k : ∀ b o, hp.get? b = some o → ((hp.push (kdv_tup [v])).push (excO C hp.objs.size)).get? b = some o := fun b o e => Heap.get?_push_of_some _ (Heap.get?_push_of_some _ e)
  have hget : ((hp.push (kdv_tup [v])).push (excO C hp.objs.size)).get? (hp.objs.size + 1) = some (excO C hp.objs.size) := by heap_get
  have hnx : K.lookup (hp.objs.size + 1) = none := by
    cases e : K.lookup (hp.objs.size + 1) with
    | none => rfl
    | some o =>
      have z : hp.get? (hp.objs.size + 1) = some o := X _ _ e
      exact absurd (Nat.lt_of_succ_lt (Heap.lt_size z)) (Nat.lt_irrefl _)
  refine call_own F.excBase_ValueError (fun X => refsVE_contains X bm hbm) (X _ _ hC) (looks_findIn X T.iC) (fun self => bind_fn X self T.tI) (by show 1 ≤ sizeLine; decide) ?_
  refine r_init (s := ⟨(hp.push (kdv_tup [v])).push (excO C hp.objs.size), g, dr, tk, os⟩) T (X.keeps k) (G.keeps k) (Bl.keeps k) hmb (hlim.keeps k) hget hnx ?_ fun h' tk' dx ⟨k', ⟨t1, hx⟩, dn, dne, hns⟩ => ?_
  · show A.depth + 1 < recursionLimit
    exact hroom
  · have old : ∀ b o, hp.get? b = some o → h'.get? b = some o := fun b o e => k' b o (Nat.ne_of_lt (Nat.lt_succ_of_lt (Heap.lt_size e))) (k b o e)
    have z : hp.objs.size + 1 + 1 ≤ dx := by
      first
        | (simpa only [Heap.size_push] using dn)
        | exact dn
    exact ⟨rfl, hq h' tk' (hp.objs.size + 1) dx ⟨old, Nat.le_succ _, ⟨_, _, hx, rfl, rfl, rfl, rfl⟩, Nat.le_trans (Nat.le_trans (Nat.le_succ _) (Nat.le_succ _)) z, dne, hns⟩⟩
end
end K02
namespace K02
open PySem PySem.Spec PyProof.Rows L2
theorem relO_at {v : V} {v' : Value} (r : RelV v v') (f : Str) : RelO (List.lookup f [(("at" : Str), v)]) (if f = "at" then some v' else none) := by
  by_cases h : f = "at"
  · subst h
    rw [if_pos rfl]
    have q : List.lookup ("at" : Str) [(("at" : Str), v)] = some v := by simp [List.lookup]
    rw [q]
    exact r
  · rw [if_neg h]
    have qw : (f == ("at" : Str)) = false := by simpa using h
    have q2 : List.lookup f [(("at" : Str), v)] = none := by simp [List.lookup, qw]
    rw [q2]
    trivial
section
variable {X : Cx} {C fI cc : Addr}
/-- Refused(e) -/
def tMkR (C : Addr) (ta : TA) : L2.St → Hp → XK → Prop := fun σ H Q => ta σ H fun vs H1 => ∃ v, vs = [v] ∧ ∀ d, H1 d = none → Q (.ref C) (some d) (upd H1 d (.xd [(("at" : Str), v)]))
theorem pmk_r {a : Expr} {ta : TA} {p pos : Pos} {k : Nat} (T : RTxt X.prog X.K X.mg C fI cc) (hr : Room k X.A) (ha : PA X [a] ta) (hg : Gl X "Refused" := by rfl)
    (he : starEach (a :: []) X.env = (false, eval a X.env) :: starEach [] X.env := by rfl) (hpl : (backTo pos (starEach [] X.env)).any (·.1) = false := by rfl) :
    PMk X (.Call (.Name "Refused" p) [a] [] pos) (tMkR C ta) := by
  intro pins s σ H Q I h
  refine wpAny_Call_Name_kw (ld_glob I hg T.gC ?_)
  refine PySem.W.callWith_K (h₀ := X.base) I.ok.mod.kin T.kC (thn (ha.run pos pins s σ H _ I h) fun us s1 hh => ?_) he hpl
  obtain ⟨vs, H1, I1, r1, v, ev, q1⟩ := hh
  subst ev
  refine ⟨I1.kIn, ?_⟩
  cases r1 with
  | cons rv rn =>
    rename_i v' us'
    cases rn
    show wpAny _ _ (call (.ref C) [v']) _ _ _
    have hlim := I1.nolimit
    obtain ⟨mb, b1, b2⟩ := I1.mod.blt
    have G1 := I1.mod.glob.keeps I1.bk
    have B1 := b1.keeps I1.bk
    obtain ⟨hp, g, dr, tk, os⟩ := s1
    refine wpAny_call (r_made T I1.kIn G1 B1 ((b2 "super" (by decide)).trans (by decide +kernel)) hlim (by have := hr.dp; omega) fun h' tk' e d M => ?_)
    show MkP X pins σ Q (.ref e) ⟨h', g, dr, tk', os⟩
    obtain ⟨oe, fv, hoe, hc, hd, hdat, h1⟩ := M.obj
    have hns := M.ns
    obtain ⟨G', g1, g2⟩ := restrict h' fun b => decide (b ≠ e)
    have gk : ∀ b, b ≠ e → G'.get? b = h'.get? b := fun b hb => g1 b (decide_eq_true hb)
    have ge : G'.get? e = none := g2 e (by simp)
    have old : ∀ b o, hp.get? b = some o → G'.get? b = some o := fun b o q => (gk b (Nat.ne_of_lt (Nat.lt_of_lt_of_le (Heap.lt_size q) M.new))).trans (M.keep b o q)
    have ob : ObjOk X.prog X.w (upd H1 d (.xd [(("at" : Str), v)])) G' d (.xd [(("at" : Str), v)]) :=
      ⟨_, hns.at (fun o q => (gk d M.dne).trans q), fun f => relO_at rv f⟩
    have J : Inv X pins σ (upd H1 d (.xd [(("at" : Str), v)])) ⟨G', g, dr, tk', os⟩ := I1.laid (t' := tk') old M.dbig ob
    refine ⟨e, oe, fv, ⟨G', g, dr, tk', os⟩, _, .ref C, some d, rfl, J, fun b o q => ?_, ge, hoe, ⟨hc, hd⟩, hdat, h1, ?_, rfl, I1.bare, raises_own T.exC T.tyC, q1 d (I1.hok.fresh M.dbig)⟩
    · by_cases hb : b = e
      · have q' : G'.get? b = some o := q
        rw [hb, ge] at q'; cases q'
      · exact (gk b hb).symm.trans q
    · rw [upd_ne (Ne.symm M.dne)]
      exact I1.hok.fresh M.new
def tRaiseR (C : Addr) (W : WX) (ta : TA) : TS := fun _ σ H => tMkR C ta σ H fun cls d H' => W cls d σ H'
theorem ps_raiseR {a : Expr} {ta : TA} {W : WX} {p pos pos2 : Pos} {k : Nat} (hc : X.calm = true) (T : RTxt X.prog X.K X.mg C fI cc) (hr : Room k X.A) (tk : Takes X W) (ha : PA X [a] ta) (hg : Gl X "Refused" := by rfl)
    (he : starEach (a :: []) X.env = (false, eval a X.env) :: starEach [] X.env := by rfl) (hpl : (backTo pos (starEach [] X.env)).any (·.1) = false := by rfl) :
    PS X (.Raise (some (.Call (.Name "Refused" p) [a] [] pos)) none pos2) (tRaiseR C W ta) := ps_raise hc tk (pmk_r T hr ha hg he hpl)
/-- e.at, e the exception that the suite holds (at a; its class cls, its dict d) -/
def tAtR (C : Addr) (a : Addr) (cls : Value) (d : Option Addr) (te : TE) : TE := fun σ H Q => te σ H fun x H1 => x = .ref a ∧ cls = .ref C ∧ ∃ (dd : Addr) (v : V), d = some dd ∧ H1 dd = some (.xd [(("at" : Str), v)]) ∧ Q v H1
theorem pe_atR {a : Addr} {oe : Obj} {cls : Value} {d : Option Addr} {pn : List (Addr × Obj)} {e : Expr} {te : TE} {pos : Pos} (T : RTxt X.prog X.K X.mg C fI cc) (hz : Zc cls d oe) (hf : ∃ vs, oe.data = .fields vs) (he : PE (X.suite a ((a, oe) :: pn)) e te)
    (hb : attributeBase e "at" X.env (eval e X.env) = eval e X.env := by rfl) :
    PE (X.suite a ((a, oe) :: pn)) (.Attribute e "at" pos) (tAtR C a cls d te) := by
  refine ⟨fun pins s σ H Q I h => ?_⟩
  refine attr_of hb (thn (he.run pins s σ H _ I h) fun u s1 hh => ?_)
  obtain ⟨x, H1, I1, rx, ex, ec, dd, v, ed, ea, q⟩ := hh
  subst ex
  obtain rfl : u = Value.ref a := rx
  subst ec
  subst ed
  obtain ⟨ha, _⟩ := I1.pin (a, oe) (List.mem_append_left _ List.mem_cons_self)
  obtain ⟨vs, hd⟩ := hf
  have hx : ObjOk X.prog X.w H1 s1.heap dd (.xd [(("at" : Str), v)]) := I1.hok dd _ ea
  obtain ⟨mA, hns, hr⟩ := hx
  obtain ⟨od, ho, hl⟩ := lookIn_ns hns
  have l : List.lookup ("at" : Str) [(("at" : Str), v)] = some v := by simp [List.lookup]
  obtain ⟨u, hu, ru⟩ := RelO.some_of (v := v) (o := mA "at") (by rw [← l]; exact hr "at")
  have J : PySem.W.InstAt s1.heap a oe C (some od) := ⟨ha, hz.1, by unfold PySem.W.notCls; rw [hd] <;> rfl, by rw [hz.2]; exact ho⟩
  exact HandSPX.exc_get I1.kIn J T.ga T.gg T.exC (PySem.W.findObj_own T.hdC T.noN rfl (by rw [hl, hu])) (handed_of ru) ⟨v, H1, I1.tok _, ru, q⟩
end
end K02

set_option Elab.async false
set_option linter.all false
set_option maxRecDepth 100000
set_option maxHeartbeats 4000000
/-! {k: v}, k a tuple of ints -/
namespace K02
open PySem PySem.Spec PyProof.Rows L2
/-- the new dict stands empty while its pair is made -/
def tDisp1 (tk tv : TE) : TE := fun σ H Q => ∀ p, H p = none → tk σ (upd H p (.dT [])) fun x H1 => tv σ H1 fun y H2 => H2 p = some (.dT []) ∧ ∃ (b : Addr) (ks : List Key), x = .ref b ∧ H2 b = some (.tup (ks.map kV)) ∧ Q (.ref p) (upd H2 p (.dT [(ks, y)]))
theorem pe_disp1 {X : Cx} {pos : Pos} {k v : Expr} {tk tv : TE} (hu : X.A.units + 1 < cLine) (hk : PE X k tk) (hv : PE X v tv) : PE X (.Dict [some k] [v] pos) (tDisp1 tk tv) := by
  refine ⟨fun pins s σ H Q I q => ?_⟩
  have hn := I.hok.fresh (Nat.le_refl s.heap.objs.size)
  have I1 := I.laid (a := s.heap.objs.size) (o := .dT []) (h' := s.heap.push { cls := .type "dict", data := .dict #[] }) (t' := s.toks) (fun _ _ q => Heap.get?_push_of_some _ q) (Nat.le_refl _) (dt_empty s.heap I.big)
  have run := pairTrees_cons_walk (Q := fun r s3 => ∃ ps, CarriesH (tupleKind (mixKind X.prog X.w)) s3.heap r ps ∧ s3.heap.DictOfH (tupleKind (mixKind X.prog X.w)) s.heap.objs.size [] ∧
      ∀ h' tk, h'.DictOfH (tupleKind (mixKind X.prog X.w)) s.heap.objs.size (storedAllH [] ps) → Heap.SameBut s.heap.objs.size s3.heap h' → ∃ z H', Inv X pins σ H' { s3 with heap := h', toks := tk } ∧ RelV z (.ref s.heap.objs.size) ∧ Q z H') (prog := X.prog) (w := X.w) (pos := pos) (ks := []) (vs := []) (thn (hk.run pins _ σ _ _ I1 (q _ hn)) fun u s1 ⟨x, H1, I2, rx, q1⟩ => thn (hv.run pins s1 σ H1 _ I2 q1) fun w2 s2 ⟨y, H2, I3, ry, e, b, ks, ex, eb, q2⟩ =>
    pairTrees_nil_walk ?_)
  · rw [arm_eval_Dict, zip_pairTrees [some k] [v] X.env pos (by rfl) (by rfl), dictDisplay_pairs _ (by intro z; cases z) (by show 1 < 17; decide)]
    refine wpAny_bind (wpAny_standAt (wpAny_bind (wpAny_subDictH (knd := tupleKind (mixKind X.prog X.w)) (by show X.A.units < cLine; omega) (by show 1 ≤ 15; decide) ?_)))
    refine wpAny_mono run (fun vs s3 h3 => ?_) fun _ _ z => z
    obtain ⟨ps, h1, h2, h4⟩ := h3
    exact ⟨ps, h1, h2, fun h' tk a b => wpAny_pure (h4 h' tk a b)⟩
  · subst ex
    obtain rfl : u = Value.ref b := rx
    obtain ⟨z, hd, xs, rel, dd⟩ := dt_of I3.hok e
    cases rel
    refine ⟨[(ks, b, w2)], ⟨rfl, rfl, key_of I3.hok eb, trivial⟩, dd, fun h' tk dd' hs => ⟨.ref s.heap.objs.size, _, ?_, rfl, q2⟩⟩
    obtain ⟨o, es, ep, ho, f2, f3, f4, _, f5⟩ := dd'
    have one : 1 ≤ sizeLine := by decide
    refine d_write I3 (by rw [e]; exact True.intro) hs ⟨o, ho⟩ ⟨one, hd, [(ks, b, w2)], .cons ⟨rfl, ?_, ry⟩ .nil, o, es, ep, ho, f2, f3, f4, f5⟩
    rw [upd_ne (ne_of eb e (fun z => nomatch z))]
    exact eb
end K02

set_option Elab.async false
set_option linter.all false
set_option maxRecDepth 100000
set_option maxHeartbeats 4000000
/-! f(k = v, ..), nothing by position, the names in the turned order of the parameters -/
namespace K02
open PySem PySem.Spec PyProof.Rows L2
def gRev {α : Type} : List α → List α → List α := fun us ws => match us with
  | [] => ws.reverse
  | _ => []
structure HasK (P : Program) (w : World) (K : PySem.W.Frag) (mg : Str → Option Value) (base : Heap) (k : Nat) (x : Str) (ps ks : List Str) (sp : Sp) : Prop where
  ex : ∃ (f : Addr) (fd : FuncData), FnOk P w K mg base CX0 k f fd ps sp ∧ mg x = some (.ref f) ∧ PySem.W.keepIn K (.ref f) = true ∧ KBinds K fd ps ks gRev gRev
theorem vals_rev {vs : List V} {us : List Value} (h : Vals vs us) : Vals vs.reverse us.reverse := by
  induction h with
  | nil => exact .nil
  | cons h t ih =>
    rw [List.reverse_cons, List.reverse_cons]
    exact ih.append (.cons h .nil)
theorem rev_rel {vs : List V} {us : List Value} {zs : List V} {ws : List Value} (h : Vals vs us) (h2 : Vals zs ws) : Vals (gRev vs zs) (gRev us ws) := by
  cases h with
  | nil => exact vals_rev h2
  | cons _ _ => exact .nil
section
variable {P : Program} {w : World} {K : PySem.W.Frag} {mg : Str → Option Value} {base : Heap}
theorem Has.kw {k : Nat} {x : Str} {ps ks : List Str} {sp : Sp} {st : Stmt} (h : Has P w K mg base k x ps sp) (D : Df K mg x st) (hb : ∀ {f : Addr} {fd : FuncData}, Fun K x x st f fd → KBinds K fd ps ks gRev gRev) : HasK P w K mg base k x ps ks sp := by
  obtain ⟨f, fd, F, hm, hkp, _, oc, od, osl, lk⟩ := h.ex
  obtain ⟨f', fd', F', hm'⟩ := D.ex
  rw [hm] at hm'
  cases hm'
  obtain ⟨oc', od', kV, doc, pm, an, cdv, ct, osl', e, lk', _⟩ := F'.ex
  rw [lk] at lk'
  cases lk'
  exact ⟨f, fd, F, hm, hkp, hb F'⟩
theorem kb2 {x : Str} {st : Stmt} {f : Addr} {fd : FuncData} {a b : Str} (F : Fun K x x st f fd)
    (h : ∀ (kV doc pm : Value) (an : Option Addr) (cdv ct : Value) (u v : Value), bindArgs (PySem.W.fnOf x x (defArgs st) (defBody st) (defScope st) .none kV doc pm an cdv ct) ⟨[], [(b, u), (a, v)]⟩ = pure [(a, v), (b, u)]) : KBinds K fd [a, b] [b, a] gRev gRev := by
  obtain ⟨oc, od, kV, doc, pm, an, cdv, ct, osl, rfl, lk, _⟩ := F.ex
  refine ⟨fun s us ws _ hl => ?_, rev_rel⟩
  match us, ws, hl with
  | [], [u, v], _ => exact .of_eq (h _ _ _ _ _ _ u v)
  | [], [], hl => cases hl
  | [], [_], hl => cases hl
  | [], _ :: _ :: _ :: _, hl => simp [gRev] at hl
  | _ :: _, _, hl => cases hl
theorem kb3 {x : Str} {st : Stmt} {f : Addr} {fd : FuncData} {a b c : Str} (F : Fun K x x st f fd)
    (h : ∀ (kV doc pm : Value) (an : Option Addr) (cdv ct : Value) (u v z : Value), bindArgs (PySem.W.fnOf x x (defArgs st) (defBody st) (defScope st) .none kV doc pm an cdv ct) ⟨[], [(c, u), (b, v), (a, z)]⟩ = pure [(a, z), (b, v), (c, u)]) : KBinds K fd [a, b, c] [c, b, a] gRev gRev := by
  obtain ⟨oc, od, kV, doc, pm, an, cdv, ct, osl, rfl, lk, _⟩ := F.ex
  refine ⟨fun s us ws _ hl => ?_, rev_rel⟩
  match us, ws, hl with
  | [], [u, v, z], _ => exact .of_eq (h _ _ _ _ _ _ u v z)
  | [], [], hl => cases hl
  | [], [_], hl => cases hl
  | [], [_, _], hl => cases hl
  | [], _ :: _ :: _ :: _ :: _, hl => simp [gRev] at hl
  | _ :: _, _, hl => cases hl
end
def tKw (sp : Sp) (tk : TA) : TE := fun σ H Q => tk σ H fun zs H2 => sp zs.reverse H2 Q E0
theorem pe_hk {X : Cx} {k j : Nat} {x : Str} {ps ks : List Str} {sp : Sp} {kws : List Keyword} {tk : TA} {p pos : Pos} (h : HasK X.prog X.w X.K X.mg X.base k x ps ks sp) (hr : Room j X.A) (hk : k ≤ j) (hkw : PK X kws tk) (hg : Gl X x := by rfl) (hdb : (x == ("__debug__" : Str)) = false := by decide)
    (hall : (backToKw pos (keywordEach kws X.env)).all (·.1.isSome) = true := by rfl) (hks : (backToKw pos (keywordEach kws X.env)).filterMap (·.1) = ks := by rfl)
    (hpl : ((backTo pos (starEach [] X.env)).any (·.1) || (backToKw pos (keywordEach kws X.env)).any (·.1.isNone)) = false := by rfl) :
    PE X (.Call (.Name x p) [] kws pos) (tKw sp tk) := by
  obtain ⟨f, fd, F, hm, hkp, hb⟩ := h.ex
  refine ⟨fun pins s σ H Q I h => ?_⟩
  refine wpAny_Call_Name_kw (ld_glob I hg hm ?_ hdb)
  refine PySem.W.callWith_KW0 (h₀ := X.base) I.ok.mod.kin hkp hall (thn (hkw.run pos pins s σ H _ I h) fun ws s2 ⟨zs, H2, I2, rz, q2⟩ => ⟨I2.kIn, ?_⟩) hpl
  rw [hks]
  exact run_fnk (E := E0) (us := []) (vs := []) F (hr.mono hk) hb pass0 I2 .nil rz q2
end K02

set_option Elab.async false
set_option linter.all false
set_option maxRecDepth 100000
set_option maxHeartbeats 4000000
/-! tuple * int, any small count -/
namespace K02
open PySem PySem.Spec PyProof.Rows L2
theorem tup_mul1 (l : Addr) (items : Array Value) (n : Nat) (dd : Option Addr) (sl : Array (Option Value)) (u : Tok) :
    Meets (Builtin.«tuple.__mul__» ⟨[.ref l, .int 1 u], []⟩) (fun _ R s => s.heap.get? l = some { cls := .type "tuple", dict := dd, data := .seq items n, slots := sl } ∧ R (.ok (.ret (Value.ref l))) { s with heap := s.heap, toks := s.toks }) :=
  .of_wp fun prog w A R s h => by
    obtain ⟨hp, g, d, tk, os⟩ := s
    obtain ⟨hl, h⟩ := h
    have f1 := AutoSeq1.idx_int
    have c1 : (items.isEmpty || (1 : Int) == 1) = true := by simp
    wp_walk using wpAny_loadPart' hl
    repeat (first
      | (refine wpAny_ite_true (decide_eq_true c1) ?_; wp_walk using wpAny_loadPart' hl)
      | (refine wpAny_ite_true c1 ?_; wp_walk using wpAny_loadPart' hl))
    exact ⟨_, rfl, h⟩
theorem tup_mul0 (l : Addr) (items : Array Value) (n : Nat) (dd : Option Addr) (sl : Array (Option Value)) (u : Tok) (he : items.isEmpty = false) :
    Meets (Builtin.«tuple.__mul__» ⟨[.ref l, .int 0 u], []⟩) (fun _ R s => s.heap.get? l = some { cls := .type "tuple", dict := dd, data := .seq items n, slots := sl } ∧
      R (.ok (.ret (Value.ref s.heap.objs.size))) { s with heap := s.heap.push { cls := Value.type "tuple", data := Data.seq #[] }, toks := s.toks }) :=
  .of_wp fun prog w A R s h => by
    obtain ⟨hp, g, d, tk, os⟩ := s
    obtain ⟨hl, h⟩ := h
    have f1 := AutoSeq1.idx_int
    have c1 : (items.isEmpty || (0 : Int) == 1) = false := by simp [he]
    have c2 : (decide ((0 : Int) ≤ 0) || items.isEmpty) = true := by simp
    wp_walk using wpAny_loadPart' hl
    repeat (first
      | (refine wpAny_ite_false (decide_eq_false (by rw [c1]; exact Bool.false_ne_true)) ?_; wp_walk using wpAny_loadPart' hl)
      | (refine wpAny_ite_true (decide_eq_true c2) ?_; wp_walk using wpAny_loadPart' hl))
    exact ⟨_, rfl, h⟩
def rRepA (K : PySem.W.Frag) : R2 := fun x y H Q => ∃ (l : Addr) (k : Nat) (xs : List V), x = .ref l ∧ y = .int k ∧ SqT K H l xs ∧ xs ≠ [] ∧ k ≤ 1000 ∧ xs.length ≤ 1000 ∧ (k = 1 → Q (.ref l) H) ∧ (k ≠ 1 → ∀ p, H p = none → Q (.ref p) (upd H p (.tup (List.replicate k xs).flatten)))
theorem op_repA {X : Cx} : OpR X (binaryOp .Mult) (rRepA X.K) := by
  intro pins s σ H x y v u Q I rx ry h
  obtain ⟨l, k, xs, rfl, rfl, hT, hne, h2, hz, q1, q2⟩ := h
  by_cases hk : 2 ≤ k
  · exact op_repT pins s σ H _ _ v u Q I rx ry ⟨l, k, xs, rfl, rfl, hT, hne, by omega, by omega, hz, fun p hp => q2 (by omega) p hp⟩
  · cases rx
    obtain ⟨t, rfl⟩ := ry
    obtain ⟨its, r, ⟨⟨cls, dd, data, sl⟩, ho, hc, n, hd⟩, hs⟩ := I.tuple hT
    simp only at hc hd
    subst hc hd
    have hle : its.length = xs.length := r.length.symm
    have hi : its.toArray.isEmpty = false := by
      cases its with
      | nil => exact absurd (List.eq_nil_of_length_eq_zero hle.symm) hne
      | cons a b => rfl
    match k, hk, q1, q2 with
    | 0, _, _, q2 =>
      refine wpAny_binaryOp_repeat_ref (T := "tuple") (U := "int") (by decide) ⟨_, ho, rfl⟩ (fun s' => typeIs_int s' ((0 : Nat) : Int) t) noFill_tuple_mul F.fills_int_mul F.slot_int_rmul repeat_tuple F.slot_int_index.lookup
        (call_meets F.slot_int_rmul (typeIs_int s ((0 : Nat) : Int) t) F.entry_int_rmul (F.args_int_rmul_2 _ _) (int_rmul_tuple ((0 : Nat) : Int) t l its.toArray n dd sl)
          ⟨ho, rfl, ⟨_, ho, rfl⟩, call_meets F.slot_tuple_mul ⟨_, ho, rfl⟩ F.entry_tuple_mul (F.args_tuple_mul_2 _ _) (tup_mul0 l its.toArray n dd sl t hi) ⟨ho, ?_⟩⟩)
      refine ⟨.ref s.heap.objs.size, _, I.laid (t' := s.toks) (o := .tup []) (fun b ob q => Heap.get?_push_of_some _ q) (Nat.le_refl _) ?_, rfl, q2 (by decide) _ (I.hok.fresh (Nat.le_refl _))⟩
      exact ⟨Nat.zero_le _, [], .nil, IsTup.new _ _⟩
    | 1, _, q1, _ =>
      refine wpAny_binaryOp_repeat_ref (T := "tuple") (U := "int") (by decide) ⟨_, ho, rfl⟩ (fun s' => typeIs_int s' ((1 : Nat) : Int) t) noFill_tuple_mul F.fills_int_mul F.slot_int_rmul repeat_tuple F.slot_int_index.lookup
        (call_meets F.slot_int_rmul (typeIs_int s ((1 : Nat) : Int) t) F.entry_int_rmul (F.args_int_rmul_2 _ _) (int_rmul_tuple ((1 : Nat) : Int) t l its.toArray n dd sl)
          ⟨ho, rfl, ⟨_, ho, rfl⟩, call_meets F.slot_tuple_mul ⟨_, ho, rfl⟩ F.entry_tuple_mul (F.args_tuple_mul_2 _ _) (tup_mul1 l its.toArray n dd sl t) ⟨ho, ?_⟩⟩)
      exact ⟨.ref l, H, I, rfl, q1 rfl⟩
    | k + 2, hk, _, _ => exact absurd (Nat.le_add_left 2 k) hk
end K02

set_option Elab.async false
set_option linter.all false
set_option maxRecDepth 100000
set_option maxHeartbeats 4000000
namespace K02
open PySem L2
/-! ### heaps that keep all but some places -/
def Ex (W : Addr → Prop) (H H' : Hp) : Prop := ∀ b o, ¬ W b → H b = some o → H' b = some o
theorem Ex.refl (W : Addr → Prop) (H : Hp) : Ex W H H := fun _ _ _ h => h
theorem Ex.trans {W : Addr → Prop} {H H1 H2 : Hp} (a : Ex W H H1) (b : Ex W H1 H2) : Ex W H H2 := fun c o n h => b c o n (a c o n h)
theorem Ex.of {W : Addr → Prop} {H H' : Hp} (s : Same H H') : Ex W H H' := fun b o _ h => s b o h
theorem Ex.same {H H' : Hp} (s : Ex (fun _ => False) H H') : Same H H' := fun b o h => s b o (fun z => z) h
theorem Ex.mono {W W' : Addr → Prop} {H H' : Hp} (s : Ex W H H') (h : ∀ b, W b → W' b) : Ex W' H H' := fun b o n q => s b o (fun z => n (h b z)) q
theorem Ex.put {W : Addr → Prop} {H : Hp} {a : Addr} {o : HO} (h : W a) : Ex W H (upd H a o) := fun b u n q => by
  rw [upd_ne (fun z => n (by rw [z]; exact h))]
  exact q
theorem Ex.new {W : Addr → Prop} {H : Hp} {a : Addr} {o : HO} (h : H a = none) : Ex W H (upd H a o) := Ex.of (same_new h)
/-- what was not there may change -/
theorem Ex.drop {W : Addr → Prop} {H H' : Hp} {D : Addr} (s : Ex (fun b => W b ∨ b = D) H H') (h : H D = none) : Ex W H H' := fun b o n q => s b o (fun z => z.elim n fun z => by rw [z, h] at q; cases q) q
/-! ### paired lists -/
theorem pd_at {α β : Type} {F : α → β → Prop} : ∀ {l₁ : List α} {l₂ : List β} {i : Nat} {y : β}, Paired F l₁ l₂ → l₂[i]? = some y → ∃ x, l₁[i]? = some x ∧ F x y
  | _, _, _, _, .nil, e => by simp at e
  | _, _, 0, _, .cons r _, e => by simp at e; subst e; exact ⟨_, rfl, r⟩
  | _, _, i + 1, _, .cons _ t, e => by
    obtain ⟨x, h1, h2⟩ := pd_at (i := i) t (by simpa using e)
    exact ⟨x, by simpa using h1, h2⟩
theorem pd_at1 {α β : Type} {F : α → β → Prop} : ∀ {l₁ : List α} {l₂ : List β} {i : Nat} {x : α}, Paired F l₁ l₂ → l₁[i]? = some x → ∃ y, l₂[i]? = some y ∧ F x y
  | _, _, _, _, .nil, e => by simp at e
  | _, _, 0, _, .cons r _, e => by simp at e; subst e; exact ⟨_, rfl, r⟩
  | _, _, i + 1, _, .cons _ t, e => by
    obtain ⟨x, h1, h2⟩ := pd_at1 (i := i) t (by simpa using e)
    exact ⟨x, by simpa using h1, h2⟩
theorem pd_imp {α β : Type} {F G : α → β → Prop} (h : ∀ a b, F a b → G a b) : ∀ {l₁ : List α} {l₂ : List β}, Paired F l₁ l₂ → Paired G l₁ l₂
  | _, _, .nil => .nil
  | _, _, .cons r t => .cons (h _ _ r) (pd_imp h t)
theorem pd_of {α β : Type} {F : α → β → Prop} : ∀ {l₁ : List α} {l₂ : List β}, l₁.length = l₂.length → (∀ (i : Nat) x y, l₁[i]? = some x → l₂[i]? = some y → F x y) → Paired F l₁ l₂
  | [], [], _, _ => .nil
  | [], _ :: _, h, _ => by simp at h
  | _ :: _, [], h, _ => by simp at h
  | x :: l, y :: r, h, f => .cons (f 0 x y rfl rfl) (pd_of (by simpa using h) fun i a b h1 h2 => f (i + 1) a b (by simpa using h1) (by simpa using h2))
theorem pd_app {α β : Type} {F : α → β → Prop} : ∀ {l₁ m₁ : List α} {l₂ m₂ : List β}, Paired F l₁ l₂ → Paired F m₁ m₂ → Paired F (l₁ ++ m₁) (l₂ ++ m₂)
  | _, _, _, _, .nil, q => q
  | _, _, _, _, .cons r t, q => .cons r (pd_app t q)
theorem pd_maps {α β γ : Type} {F : α → β → Prop} {f : γ → α} : ∀ {l₁ : List γ} {l₂ : List β}, Paired (fun a b => F (f a) b) l₁ l₂ → Paired F (l₁.map f) l₂
  | _, _, .nil => .nil
  | _, _, .cons r t => .cons r (pd_maps t)
/-- a list of values that each are an address with a fact -/
theorem pd_refs {β : Type} {F : Addr → β → Prop} : ∀ {vs : List V} {l : List β}, Paired (fun v b => ∃ a, v = V.ref a ∧ F a b) vs l → ∃ as : List Addr, vs = as.map V.ref ∧ Paired F as l
  | _, _, .nil => ⟨[], rfl, .nil⟩
  | _, _, .cons ⟨a, e, h⟩ t => by
    obtain ⟨as, e2, q⟩ := pd_refs t
    exact ⟨a :: as, by rw [e, e2]; rfl, .cons h q⟩
/-! ### what stands at a place -/
/-- a tuple of ints -/
def TI (H : Hp) (a : Addr) (ns : List Int) : Prop := H a = some (.tup (ns.map V.int))
/-- a tuple, a list of tuples of ints -/
def TuT (H : Hp) (a : Addr) (l : List (List Int)) : Prop := ∃ bs : List Addr, H a = some (.tup (bs.map V.ref)) ∧ Paired (TI H) bs l
def LsT (H : Hp) (a : Addr) (l : List (List Int)) : Prop := ∃ bs : List Addr, H a = some (.lst (bs.map V.ref)) ∧ Paired (TI H) bs l
/-- a list of lists of ints, none of them in W -/
def LL (W : Addr → Prop) (H : Hp) (a : Addr) (l : List (List Int)) : Prop := ¬ W a ∧ ∃ bs : List Addr, H a = some (.lst (bs.map V.ref)) ∧ Paired (fun b r => ¬ W b ∧ H b = some (.lst (r.map V.int))) bs l
theorem TI.sq {K : PySem.W.Frag} {H : Hp} {a : Addr} {ns : List Int} (h : TI H a ns) : SqT K H a (ns.map V.int) := SqT.of h
/-- lists alone may be written -/
def Lists (W : Addr → Prop) (H : Hp) : Prop := ∀ b, W b → ∃ xs, H b = some (.lst xs)
theorem TI.ex {W : Addr → Prop} {H H' : Hp} {a : Addr} {ns : List Int} (h : TI H a ns) (s : Ex W H H') (l : Lists W H) : TI H' a ns := s a _ (fun z => by
  obtain ⟨xs, e⟩ := l a z
  have h : H a = _ := h
  rw [e] at h
  cases h) h
theorem TI.same {H H' : Hp} {a : Addr} {ns : List Int} (h : TI H a ns) (s : Same H H') : TI H' a ns := s a _ h
theorem TuT.same {H H' : Hp} {a : Addr} {l : List (List Int)} (h : TuT H a l) (s : Same H H') : TuT H' a l := let ⟨bs, h1, h2⟩ := h; ⟨bs, s _ _ h1, pd_imp (fun _ _ q => q.same s) h2⟩
theorem LsT.same {H H' : Hp} {a : Addr} {l : List (List Int)} (h : LsT H a l) (s : Same H H') : LsT H' a l := let ⟨bs, h1, h2⟩ := h; ⟨bs, s _ _ h1, pd_imp (fun _ _ q => q.same s) h2⟩
theorem LL.ex {W : Addr → Prop} {H H' : Hp} {a : Addr} {l : List (List Int)} (h : LL W H a l) (s : Ex W H H') : LL W H' a l := let ⟨h0, bs, h1, h2⟩ := h; ⟨h0, bs, s _ _ h0 h1, pd_imp (fun _ _ q => ⟨q.1, s _ _ q.1 q.2⟩) h2⟩
theorem int_inj {l l' : List Int} (h : l.map V.int = l'.map V.int) : l = l' := by
  induction l generalizing l' with
  | nil => cases l' with
    | nil => rfl
    | cons _ _ => cases h
  | cons x l ih => cases l' with
    | nil => cases h
    | cons y l' =>
      simp only [List.map_cons, List.cons.injEq, V.int.injEq] at h
      rw [h.1, ih h.2]
theorem get_int {l : List Int} {i : Nat} {x : V} (h : (l.map V.int)[i]? = some x) : ∃ z, l[i]? = some z ∧ x = .int z := by
  rw [List.getElem?_map] at h
  cases e : l[i]? with
  | none => rw [e] at h; cases h
  | some z => rw [e] at h; exact ⟨z, rfl, (Option.some.inj h).symm⟩
theorem get_ref {l : List Addr} {i : Nat} {x : V} (h : (l.map V.ref)[i]? = some x) : ∃ z, l[i]? = some z ∧ x = .ref z := by
  rw [List.getElem?_map] at h
  cases e : l[i]? with
  | none => rw [e] at h; cases h
  | some z => rw [e] at h; exact ⟨z, rfl, (Option.some.inj h).symm⟩
/-! ### a comprehension without tests -/
section
variable {J : It} {n : Nat} {G : Hp → Prop} {Y : Nat → Hp → V → Hp → Prop}
/-- each turn gives the i-th value, of which R i holds; only W is written meanwhile; Iv holds throughout -/
theorem lc_fill (w : Walk J n G Y) {g : TG} {tt : TT} {te : TE} {vs : List Nat} {σ : L2.St} {H1 : Hp} {D : Addr} {Qd : Hp → Prop} (W : Addr → Prop) (Iv : Hp → Prop) (R : Nat → Hp → V → Prop) (hD : H1 D = none) (hn : n ≤ 1000) (hW : ¬ W D)
    (hI : ∀ H H', Ex (fun b => b = D) H H' → Iv H → Iv H') (hR : ∀ i v H H', Ex (fun b => W b ∨ b = D) H H' → Iv H → (∃ acc, H D = some (.lst acc)) → R i H v → R i H' v) (h0 : Iv H1) (hG : ∀ H, Ex W H1 H → Iv H → G H)
    (hs : ∀ i x H H', i < n → Ex W H1 H → Iv H → (∃ acc, H D = some (.lst acc)) → Y i H x H' → ∀ Q : VK, (∀ y H4, Ex W H H4 → Iv H4 → R i H4 y → Q y H4) → g x (wipe σ vs) H' fun σ2 H2 => wipe σ2 vs = wipe σ vs ∧ tt σ2 H2 fun b H3 => b = true ∧ te σ2 H3 Q)
    (hm : ∀ σ2 H2 (P P' : Bool → Hp → Prop), (∀ b H, P b H → P' b H) → tt σ2 H2 P → tt σ2 H2 P') (hgm : ∀ x σ H (P P' : L2.St → Hp → Prop), (∀ σ H, P σ H → P' σ H) → g x σ H P → g x σ H P')
    (hd : ∀ H acc, Ex W H1 H → Iv H → H D = some (.lst acc) → acc.length = n → (∀ i v, acc[i]? = some v → R i H v) → Qd H) :
    ∃ W : Nat → Nat → Hp → Prop, (∃ m, W 0 m (upd H1 D (.lst []))) ∧ ∀ i m H, W i m H →
      (J.stop i H ∧ Qd H) ∨ (J.go i H ∧ ∃ Nx : Hp → Prop, (∀ H', Nx H' → ∃ m', m' < m ∧ W (i + 1) m' H') ∧ ∀ x H', J.yld i H x H' → g x (wipe σ vs) H' fun σ2 H2 => wipe σ2 vs = wipe σ vs ∧ tt σ2 H2 fun b H3 =>
        if b = true then te σ2 H3 fun y H4 => ∃ acc, H4 D = some (.lst acc) ∧ acc.length < sizeLine ∧ Nx (upd H4 D (.lst (acc ++ [y]))) else Nx H3) := by
  refine lc_it w (fun i H => ∃ acc, H D = some (.lst acc) ∧ Ex W H1 H ∧ Iv H ∧ acc.length = i ∧ ∀ j v, acc[j]? = some v → R j H v) ⟨[], upd_same, Ex.new hD, hI _ _ (Ex.put rfl) h0, rfl, fun j v e => by simp at e⟩ (fun i H _ ⟨_, _, e, v, _⟩ => hG H e v) ?_ ?_
  · rintro i x H H' hi ⟨acc, hd, hx, hv, hl, hr⟩ hy
    have st := hs i x H H' hi hx hv ⟨_, hd⟩ hy (fun y H4 => ∃ acc, H4 D = some (.lst acc) ∧ acc.length < sizeLine ∧ ∃ acc', upd H4 D (.lst (acc ++ [y])) D = some (.lst acc') ∧ Ex W H1 (upd H4 D (.lst (acc ++ [y]))) ∧ Iv (upd H4 D (.lst (acc ++ [y]))) ∧ acc'.length = i + 1 ∧ ∀ j v, acc'[j]? = some v → R j (upd H4 D (.lst (acc ++ [y]))) v) fun y H4 s4 v4 r4 => ?_
    · refine hgm _ _ _ _ _ (fun σ2 H2 q => ⟨q.1, hm _ _ _ _ (fun b H3 z => ?_) q.2⟩) st
      rw [if_pos z.1]
      exact z.2
    · have hd4 : H4 D = some (.lst acc) := s4 _ _ hW hd
      have e5 : Ex (fun b => b = D) H4 (upd H4 D (.lst (acc ++ [y]))) := Ex.put rfl
      have hs1000 : 1000 < sizeLine := by decide
      refine ⟨acc, hd4, by omega, acc ++ [y], upd_same, ?_, hI _ _ e5 v4, by simp [hl], fun j v e => ?_⟩
      · refine Ex.drop (D := D) ?_ hD
        exact ((hx.trans s4).mono fun b z => .inl z).trans (e5.mono fun b z => .inr z)
      · by_cases hj : j < acc.length
        · rw [List.getElem?_append_left hj] at e
          have := hr j v e
          refine hR j v H4 _ (e5.mono fun b z => .inr z) v4 ⟨_, hd4⟩ ?_
          exact hR j v H H4 (s4.mono fun b z => .inl z) hv ⟨_, hd⟩ this
        · rw [List.getElem?_append_right (by omega)] at e
          have hj2 : j - acc.length = 0 := by
            rcases Nat.eq_zero_or_pos (j - acc.length) with z | z
            · exact z
            · rw [List.getElem?_eq_none (by simp; omega)] at e; cases e
          rw [hj2] at e
          have ej : j = i := by omega
          have ev : y = v := by simpa using e
          rw [ej, ← ev]
          exact hR i y H4 _ (e5.mono fun b z => .inr z) v4 ⟨_, hd4⟩ r4
  · rintro H ⟨acc, hd', hx, hv, hl, hr⟩
    exact hd H acc hx hv hd' hl hr
end
/-- a tuple of ints stands while lists are written -/
theorem ti_put {H H' : Hp} {D t : Addr} {W : Addr → Prop} {ns : List Int} (e : Ex (fun b => W b ∨ b = D) H H') (l : Lists W H) (hD : ∃ acc, H D = some (.lst acc)) (h : TI H t ns) : TI H' t ns := h.ex e fun b z => by
  rcases z with z | z
  · exact l b z
  · rw [z]
    exact hD
theorem lists_no (H : Hp) : Lists (fun _ => False) H := fun _ z => z.elim
theorem mono_yes : ∀ (σ2 : L2.St) (H2 : Hp) (P P' : Bool → Hp → Prop), (∀ b H, P b H → P' b H) → tYes σ2 H2 P → tYes σ2 H2 P' := fun _ _ _ _ h q => h _ _ q
theorem mono_name (i : Nat) : ∀ (x : V) (σ : L2.St) (H : Hp) (P P' : L2.St → Hp → Prop), (∀ σ H, P σ H → P' σ H) → gName i x σ H P → gName i x σ H P' := fun _ _ _ _ _ h q => h _ _ q
end K02

set_option Elab.async false
set_option linter.all false
set_option maxRecDepth 100000
set_option maxHeartbeats 4000000
/-! sets of tuples of ints: add, {f for a in xs for b in ys} -/
namespace K02
open PySem PySem.Spec PyProof.Rows L2
/-- the members: their keys differ; where the key was there nothing changes -/
def Added (L L' : List (Addr × List Int)) (b : Addr) (k : List Int) : Prop := (k ∈ L.map (·.2) → L' = L) ∧ (k ∉ L.map (·.2) → L'.Perm ((b, k) :: L))
section
variable {X : Cx}
theorem addT {pins : List (Addr × Obj)} {σ : L2.St} {H : Hp} {s : Shared} {E : Value → Shared → Prop} {D b : Addr} {k : List Int} {L : List (Addr × List Int)} {Q : Value → Shared → Prop} (I : Inv X pins σ H s) (hu : X.A.units + 8 < cLine) (hD : H D = some (SetTO X.prog X.w D L)) (hL : ∀ p ∈ L, TI H p.1 p.2) (hb : TI H b k) (hf : L.length ≤ 62)
    (h : ∀ L' s', Added L L' b k → Inv X pins σ (upd H D (SetTO X.prog X.w D L')) s' → Q .none s') : wpAny (model X.prog X.w) X.A (call (.builtin "set.add") [.ref D, .ref b]) Q E s := by
  obtain ⟨es, ep, t, R⟩ := SetT0.full (I.hok D _ hD).1 fun p hp => I.isT (K02.TI.sq (hL p hp))
  obtain ⟨o, ho, hex, hd⟩ := R.ob
  have hx := I.isT (K02.TI.sq hb)
  refine wpAny_call_entry F.slot_set_add ⟨o, ho, hex.1⟩ F.entry_set_add ?_ (F.args_set_add_2 _ _)
  unfold Builtin.«set.add» Builtin.Frozenset.oneOther
  simp only [List.isEmpty_nil, bind_assoc]
  unfold Builtin.Frozenset.addrOf setAdd
  refine wpAny_bind (wpAny_pure ?_)
  try dsimp only
  refine wpAny_bind (wpAny_pure ?_)
  try dsimp only
  refine wpAny_bind (wpAny_holding (wpAny_bind (wpAny_pyHash_tuple (by show X.A.units + 1 < cLine; omega) hx ?_)))
  refine add_at (s := { s with toks := s.toks + (k.length + 1) }) R hx (by show X.A.units + 1 < cLine; omega) (by omega) fun b' h' L' es' ep' t' sb R' c1 c2 => ?_
  refine wpAny_pure ⟨_, rfl, h L' _ ⟨c1, c2⟩ ?_⟩
  have ⟨o', ho', _⟩ := R'.ob
  exact I.write (e := D) (t' := s.toks + (k.length + 1)) (by rw [hD]; trivial) (.inl rfl) (fun a u ha hu => (sb.2 a ha).trans hu) ⟨_, ho'⟩ (setTO_new R'.t0)
end
/-! ### the two loops -/
section
variable {prog : Program} {w : World} {A : Around} {R : Result → Shared → Prop} {s : Shared} {elt t0 i0 t1 i1 : Expr} {scope : Scope} {pos : Pos} {it acc : Value} {env : Env}
abbrev sc2 (elt t0 i0 t1 i1 : Expr) (scope : Scope) (pos : Pos) : Expr := .SetComp elt [⟨t0, i0, [], 0⟩, ⟨t1, i1, [], 0⟩] scope pos
theorem turn_out (elt t0 i0 t1 i1 : Expr) (scope : Scope) (pos : Pos) (it acc : Value) (env : Env) : compTurn (sc2 elt t0 i0 t1 i1 scope pos) 0 it acc env = (do
      standAt i0.pos
      match ← pyNext it with
      | none => pure (.done .next)
      | some v =>
        letOwnedTupleGo t0 it v
        assign t0 env v
        let x ← eval i1 env
        standAt i1.pos
        let x ← foldedSetIterable i1 env x
        let _ ← runOwn (.compStart (sc2 elt t0 i0 t1 i1 scope pos) 1 (← holding [x] (pyIter x)) acc env) env
        again (.compLoop (sc2 elt t0 i0 t1 i1 scope pos) 0 it acc env)) := by rfl
theorem turn_in (elt t0 i0 t1 i1 : Expr) (scope : Scope) (pos : Pos) (it acc : Value) (env : Env) : compTurn (sc2 elt t0 i0 t1 i1 scope pos) 1 it acc env = (do
      standAt i1.pos
      match ← pyNext it with
      | none => pure (.done .next)
      | some v =>
        letOwnedTupleGo t1 it v
        assign t1 env v
        (do let v ← eval elt env; standAt elt.pos; let _ ← call (.builtin "set.add") [acc, v])
        again (.compLoop (sc2 elt t0 i0 t1 i1 scope pos) 1 it acc env)) := by rfl
/-- nothing is raised -/
abbrev Calm (prog : Program) (w : World) (A : Around) {α : Type} (t : Sem α) (Q : α → Shared → Prop) (s : Shared) : Prop := wpAny (model prog w) A t Q (fun _ _ => False) s
theorem Calm.to {α : Type} {t : Sem α} {Q : α → Shared → Prop} {E : Value → Shared → Prop} (h : Calm prog w A t Q s) : wpAny (model prog w) A t Q E s := wpAny_mono h (fun _ _ z => z) fun _ _ z => z.elim
theorem loop_out (hs : ∀ x, foldedSetIterable i1 env x = pure x) (I : Nat → Shared → Prop)
    (turn : ∀ n s, I n s → Calm prog w A (pyNext it) (fun r s₁ => match r with
      | none => R (.ok .next) s₁
      | some v => Calm prog w A (letOwnedTupleGo t0 it v) (fun _ s₂ => Calm prog w A (assign t0 env v) (fun _ s₃ => Calm prog w A (eval i1 env) (fun x s₄ => Calm prog w A (pyIter x) (fun it1 s₅ =>
          codeAny (model prog w) A (.compStart (sc2 elt t0 i0 t1 i1 scope pos) 1 it1 acc env) (fun r s' => match r with | .ok _ => ∃ m, m < n ∧ I m s' | .error _ => False) s₅) s₄) s₃) s₂) s₁) s)
    (n : Nat) (h : I n s) : codeAny (model prog w) A (.compLoop (sc2 elt t0 i0 t1 i1 scope pos) 0 it acc env) R s := by
  refine codeAny_loop rfl I (fun n s hI => ?_) n h
  show wpAny _ A ((compTurn (sc2 elt t0 i0 t1 i1 scope pos) 0 it acc env).onRaise (fun x => do noteFrame x env; theTreesLotGoes x)) _ _ s
  refine wpAny_noted ?_
  rw [turn_out]
  refine wpAny_bind (wpAny_standAt (wpAny_bind (wpAny_mono (turn n s hI) (fun r s₁ h₁ => ?_) fun _ _ z => z.elim)))
  cases r with
  | none => exact wpAny_pure h₁
  | some v =>
    refine wpAny_bind (wpAny_mono h₁ (fun _ s₂ h₂ => wpAny_bind (wpAny_mono h₂ (fun _ s₃ h₃ => wpAny_bind (wpAny_mono h₃ (fun x s₄ h₄ => ?_) fun _ _ z => z.elim)) fun _ _ z => z.elim)) fun _ _ z => z.elim)
    refine wpAny_bind (wpAny_standAt (wpAny_bind (wpAny_of_eq (hs x) (wpAny_bind (wpAny_holding (wpAny_mono h₄ (fun it1 s₅ h₅ => ?_) fun _ _ z => z.elim))))))
    refine wpAny_bind (wpAny_runOwn ?_)
    rw [Around.mark_none]
    refine codeAny_mono h₅ fun r s' hr => ?_
    cases r with
    | ok f =>
      first
        | exact wpAny_pure ⟨rfl, hr⟩
        | exact wpAny_bind (wpAny_pure (wpAny_pure ⟨rfl, hr⟩))
    | error e => exact hr.elim
theorem loop_in (I : Nat → Shared → Prop)
    (turn : ∀ n s, I n s → Calm prog w A (pyNext it) (fun r s₁ => match r with
      | none => R (.ok .next) s₁
      | some v => Calm prog w A (letOwnedTupleGo t1 it v) (fun _ s₂ => Calm prog w A (assign t1 env v) (fun _ s₃ => Calm prog w A (eval elt env) (fun x s₄ => Calm prog w A (call (.builtin "set.add") [acc, x]) (fun _ s₅ => ∃ m, m < n ∧ I m s₅) s₄) s₃) s₂) s₁) s)
    (n : Nat) (h : I n s) : codeAny (model prog w) A (.compLoop (sc2 elt t0 i0 t1 i1 scope pos) 1 it acc env) R s := by
  refine codeAny_loop rfl I (fun n s hI => ?_) n h
  show wpAny _ A ((compTurn (sc2 elt t0 i0 t1 i1 scope pos) 1 it acc env).onRaise (fun x => do noteFrame x env; theTreesLotGoes x)) _ _ s
  refine wpAny_noted ?_
  rw [turn_in]
  refine wpAny_bind (wpAny_standAt (wpAny_bind (wpAny_mono (turn n s hI) (fun r s₁ h₁ => ?_) fun _ _ z => z.elim)))
  cases r with
  | none => exact wpAny_pure h₁
  | some v =>
    refine wpAny_bind (wpAny_mono h₁ (fun _ s₂ h₂ => wpAny_bind (wpAny_mono h₂ (fun _ s₃ h₃ => ?_) fun _ _ z => z.elim)) fun _ _ z => z.elim)
    exact wpAny_bind (wpAny_bind (wpAny_mono h₃ (fun x s₄ h₄ => wpAny_bind (wpAny_standAt (wpAny_bind (wpAny_mono h₄ (fun _ s₅ h₅ => wpAny_pure (wpAny_pure ⟨rfl, h₅⟩)) fun _ _ z => z.elim)))) fun _ _ z => z.elim))
theorem start_in (h0 : codeAny (model prog w) A (.compLoop (sc2 elt t0 i0 t1 i1 scope pos) 1 it acc env) R s)
    (h : wpAny (model prog w) A (pyIter it) (fun it' s' => codeAny (model prog w) A (.compLoop (sc2 elt t0 i0 t1 i1 scope pos) 1 it' acc env) R s') (notedBy (model prog w) A env fun x s' => R (.error x) s') s) :
    codeAny (model prog w) A (.compStart (sc2 elt t0 i0 t1 i1 scope pos) 1 it acc env) R s := by
  refine codeAny_of_tree ?_
  show wpAny _ _ ((compStart (sc2 elt t0 i0 t1 i1 scope pos) 1 it acc env).onRaise (fun x => do noteFrame x env; standAt theWindowsPlace)) _ _ s
  refine wpAny_notedAt ?_
  unfold compStart
  show wpAny _ _ (ask >>= _) _ _ s
  refine wpAny_bind (wpAny_askSetting (wpAny_ite ?_))
  split
  · first
      | exact wpAny_bind (wpAny_pure (wpAny_pure (And.intro rfl h0)))
      | exact wpAny_pure (And.intro rfl h0)
  · refine wpAny_bind (wpAny_rule ?_)
    show wpAny _ _ (standAt i1.pos >>= _) _ _ s
    exact wpAny_bind (wpAny_standAt (wpAny_bind (wpAny_mono h (fun it' s' h' => wpAny_pure (And.intro rfl h')) fun _ _ x => x)))
end
/-! ### as a value -/
/-- {elt for tg in iter for tg1 in iter1}, elt a tuple of ints: D the new set; vs the block's names, vs1 those of the second target -/
def tSc2 (P : Program) (w : World) (wi : L2.TI) (g : TG) (wi1 : L2.TI) (g1 : TG) (te : TE) (vs vs1 : List Nat) : TE := fun σ H Q => wi σ H fun J H1 => ∀ D, H1 D = none → ∃ W : Nat → Nat → Hp → Prop, (∃ m, W 0 m (upd H1 D (SetTO P w D []))) ∧ ∀ i m H, W i m H →
  (J.stop i H ∧ Q (.ref D) H) ∨ (J.go i H ∧ ∃ Nx : Hp → Prop, (∀ H', Nx H' → ∃ m', m' < m ∧ W (i + 1) m' H') ∧ ∀ x H', J.yld i H x H' → g x (wipe σ vs) H' fun σ2 H2 => wipe σ2 vs = wipe σ vs ∧ wi1 σ2 H2 fun J1 H3 =>
    ∃ W1 : Nat → Nat → Hp → Prop, (∃ m, W1 0 m H3) ∧ ∀ j k H, W1 j k H → (J1.stop j H ∧ Nx H) ∨ (J1.go j H ∧ ∃ Nx1 : Hp → Prop, (∀ H', Nx1 H' → ∃ k', k' < k ∧ W1 (j + 1) k' H') ∧ ∀ x H', J1.yld j H x H' → g1 x (wipe σ2 vs1) H' fun σ3 H4 => wipe σ3 vs1 = wipe σ2 vs1 ∧
      te σ3 H4 fun y H5 => ∃ (b : Addr) (q : List Int) (L : List (Addr × List Int)), y = .ref b ∧ K02.TI H5 b q ∧ H5 D = some (SetTO P w D L) ∧ (∀ p ∈ L, K02.TI H5 p.1 p.2) ∧ L.length ≤ 62 ∧ ∀ L', Added L L' b q → Nx1 (upd H5 D (SetTO P w D L'))))
section
variable {X : Cx}
theorem pe_sc2 {elt tg iter tg1 iter1 : Expr} {scope : Scope} {own : List (PySem.Str × Nat)} {vs1 : List Nat} {pos : Pos} {wi wi1 : L2.TI} {g g1 : TG} {te : TE} (hu : X.A.units + 8 < cLine) (hc : X.calm = true) (hN : X.N.Nodup) (hi : PI X tg iter wi) (ok : BlkOk X.N X.env.scope scope own) (hv : ∀ i ∈ vs1, i ∈ own.map (·.2))
    (hg : ∀ (s : Shared) (H : Hp) (C : Addr) (cl : List (PySem.Str × Addr)) (fp : List Addr), PG (X.blk s H scope (compEnvC scope cl C X.env) fp) tg g)
    (hi1 : ∀ (s : Shared) (H : Hp) (C : Addr) (cl : List (PySem.Str × Addr)) (fp : List Addr), PI (X.blk s H scope (compEnvC scope cl C X.env) fp) tg1 iter1 wi1)
    (hg1 : ∀ (s : Shared) (H : Hp) (C : Addr) (cl : List (PySem.Str × Addr)) (fp : List Addr), PG (X.blk s H scope (compEnvC scope cl C X.env) fp) tg1 g1)
    (he : ∀ (s : Shared) (H : Hp) (C : Addr) (cl : List (PySem.Str × Addr)) (fp : List Addr), PE (X.blk s H scope (compEnvC scope cl C X.env) fp) elt te)
    (hs : ∀ x, foldedSetIterable iter X.env x = pure x := by intro _; rfl) (hs1 : ∀ env x, foldedSetIterable iter1 env x = pure x := by intro _ _; rfl) :
    PE X (sc2 elt tg iter tg1 iter1 scope pos) (tSc2 X.prog X.w wi g wi1 g1 te (own.map (·.2)) vs1) := by
  refine ⟨fun pins s σ H Q I h => ?_⟩
  rw [PpSet.eval_SetComp]
  have hfree : ∀ y ∈ scope.names, y.2 = .free → ∃ c, X.env.cells.lookup y.1 = some c := fun y hy e => (ok.free y hy e).elim (fun k => I.ok.has _ (.inl k)) fun k => I.ok.has _ (.inr k)
  refine wpAny_comprehension_free (use := none) rfl hs (closure_ok hfree) ok.kind (fun y hy e => by rw [ok.uniq y hy, e]) (thn (hi.run pins s σ H _ I h) fun xv s1 hx => thn hx fun itv s2 h2 => ?_)
  obtain ⟨it, fp, tn, J, H2, e, I2, T, st2, f2, q⟩ := h2
  subst e
  refine PpSet.newSet_ok (newEnv_comp ?_)
  generalize hD : s2.heap.objs.size = D
  have hDn : H2 D = none := I2.hok.fresh (Nat.le_of_eq hD)
  obtain ⟨W, ⟨m0, w0⟩, turn⟩ := q D hDn
  generalize hs3 : ({ s2 with heap := s2.heap.push { cls := .type "set", dict := none, data := .set #[] 0 (.fresh 0 0 (!X.w.params.followText "set-order")) } } : Shared) = s3
  have I3 : Inv X pins σ (upd H2 D (SetTO X.prog X.w D [])) s3 := by
    rw [← hs3]
    refine I2.laid (t' := s2.toks) (fun b o e => Heap.get?_push_of_some _ e) (Nat.le_of_eq hD) (setTO_new (SetTR.t0 (setTR_fresh (P := X.prog) ?_)))
    rw [← hD]
    exact Heap.get?_push_size _ rfl
  have h3 : s3.heap = s2.heap.push { cls := .type "set", dict := none, data := .set #[] 0 (.fresh 0 0 (!X.w.params.followText "set-order")) } := by rw [← hs3]
  have f3 : ∀ b ∈ fp, FpOk X pins (upd H2 D (SetTO X.prog X.w D [])) b ∧ b < s3.heap.objs.size := fun b hb => by
    obtain ⟨o, e, _⟩ := T.obj _ _ st2 b hb
    have hlt := Heap.lt_size e
    refine ⟨⟨?_, (f2 b hb).2⟩, by rw [h3, Heap.size_push]; exact Nat.lt_succ_of_lt hlt⟩
    rw [upd_ne (by rw [← hD]; exact Nat.ne_of_lt hlt)]
    exact (f2 b hb).1
  have st3 : tn 0 s3.heap := T.keep _ _ _ st2 fun b _ o e => by rw [h3]; exact Heap.get?_push_of_some _ e
  have I4 := block_start I3 ok hN f3
  have nfp : ∀ b ∈ fp, (upd H2 D (SetTO X.prog X.w D [])) b = none := fun b hb => (f3 b hb).1.1
  generalize hH3 : upd H2 D (SetTO X.prog X.w D []) = H3 at I3 I4 w0 nfp f3
  have pg := hg s3 H3 s3.heap.objs.size (cellsFrom (s3.heap.objs.size + 1) scope.names (cloFrom X.env.cells scope.names [])) fp
  have pe := he s3 H3 s3.heap.objs.size (cellsFrom (s3.heap.objs.size + 1) scope.names (cloFrom X.env.cells scope.names [])) fp
  have pi1 := hi1 s3 H3 s3.heap.objs.size (cellsFrom (s3.heap.objs.size + 1) scope.names (cloFrom X.env.cells scope.names [])) fp
  have pg1 := hg1 s3 H3 s3.heap.objs.size (cellsFrom (s3.heap.objs.size + 1) scope.names (cloFrom X.env.cells scope.names [])) fp
  show codeAny _ _ (.compStart (sc2 elt tg iter tg1 iter1 scope pos) 0 (.ref it) (.ref D) (compEnvC scope (cellsFrom (s3.heap.objs.size + 1) scope.names (cloFrom X.env.cells scope.names [])) s3.heap.objs.size X.env)) (compPost (model X.prog X.w) X.A X.xe none (EP X pins σ Q) (.ref D) s3.heap.objs.size) { s3 with heap := pushCells (s3.heap.push { cls := .type "dict", data := .dict #[] }) scope.names }
  generalize hce : compEnvC scope (cellsFrom (s3.heap.objs.size + 1) scope.names (cloFrom X.env.cells scope.names [])) s3.heap.objs.size X.env = ce at I4 pg pe pi1 pg1 ⊢
  have cL : ce.locals = s3.heap.objs.size := by subst hce; rfl
  -- what comes behind the loop
  have back : ∀ (s' : Shared) (m : PySem.Str → Option Value) (H' : Hp), Inv X pins σ H' s' → Q (.ref D) H' → s'.heap.Ns s3.heap.objs.size m → FpOk X pins H' s3.heap.objs.size → compPost (model X.prog X.w) X.A X.xe none (EP X pins σ Q) (.ref D) s3.heap.objs.size (.ok .next) s' := fun s' m H' I' q hn f => by
    refine ⟨m, hn, fun h'' sb => ?_⟩
    obtain ⟨f0, f1, f2, f3, f4, f5⟩ := f
    exact ⟨.ref D, H', I'.turned (t' := s'.toks) (fun b o hb e => (sb.2 b hb).trans e) f0 f1 f3 f4 f5, rfl, q⟩
  generalize hPost : compPost (model X.prog X.w) X.A X.xe none (EP X pins σ Q) (.ref D) s3.heap.objs.size = Post at back
  generalize hs4 : ({ s3 with heap := pushCells (s3.heap.push { cls := .type "dict", data := .dict #[] }) scope.names } : Shared) = s4 at I4 ⊢
  have st4 : tn 0 s4.heap := T.keep _ _ _ st3 fun b _ o e => by rw [← hs4]; exact pushCells_keeps _ _ _ _ (Heap.get?_push_of_some _ e)
  have stat : ∀ {σ' : L2.St} {H' : Hp} {s' : Shared}, Inv (X.blk s3 H3 scope ce fp) [] σ' H' s' → (∀ b ∈ fp, H' b = none) → ∀ b ∈ fp, FpOk (X.blk s3 H3 scope ce fp) [] H' b := fun {σ' H' s'} I' hn b hb =>
    ⟨hn b hb, (I'.ok.exf b hb).1, I'.ok.exfs b hb, .inl hb, fun x c e => (I'.ok.exf b hb).2 x c e, fun p hp => absurd (show p ∈ ([] : List (Addr × Obj)) ++ [] from hp) (by simp)⟩
  -- pinned iterators stand
  have pinned : ∀ {ps : List (Addr × Obj)} {l : List Addr} {h : Heap} {σ' : L2.St} {H' : Hp} {s' : Shared}, Inv (X.blk s3 H3 scope ce fp) (ps ++ pinsAt l h) σ' H' s' → ∀ b ∈ l, ∀ o, h.get? b = some o → s'.heap.get? b = some o ∧ H' b = none := fun I' b hb o e =>
    let z := I'.pin (b, o) (List.mem_append_right _ (List.mem_append_right _ (mem_pinsAt hb e)))
    ⟨z.1, z.2.1⟩
  have loop : codeAny (model X.prog X.w) X.A (.compLoop (sc2 elt tg iter tg1 iter1 scope pos) 0 (.ref it) (.ref D) ce) Post s4 := by
    refine loop_out (hs1 ce) (fun n s' => ∃ i H', Inv (X.blk s3 H3 scope ce fp) [] (wipe σ (own.map (·.2))) H' s' ∧ tn i s'.heap ∧ (∀ b ∈ fp, H' b = none) ∧ W i n H') ?_ m0 ⟨0, H3, I4, st4, nfp, w0⟩
    rintro n s5 ⟨i, H5, I5, st5, n5, w5⟩
    rcases turn i n H5 w5 with ⟨stop, qq⟩ | ⟨go, Nx, hNx, step⟩
    · refine thnF (T.done (X.blk s3 H3 scope ce fp) rfl rfl rfl hc i [] s5 _ H5 (fun _ _ => False) I5 (stat I5 n5) st5 stop) fun r s6 ⟨hr, I6⟩ => ?_
      subst hr
      have I7 : Inv X pins σ H5 s6 := I3.call' (ch := fp) I6.os I6.base I6.hok I6.bare fun b hb => ⟨(f3 b hb).1.2.2.2.1, (f3 b hb).1.2.1, (f3 b hb).1.2.2.2.2.1, (f3 b hb).1.2.2.2.2.2⟩
      have nC : H5 s3.heap.objs.size = none := by
        have z : H5 ce.locals = none := I6.free
        rw [cL] at z
        exact z
      obtain ⟨m, hn, _⟩ := I6.loc
      have hn : s6.heap.Ns ce.locals m := hn
      rw [cL] at hn
      exact back s6 m H5 I7 qq hn (I3.fpOk (Nat.le_refl _) nC)
    · refine thnF (T.item (X.blk s3 H3 scope ce fp) rfl rfl rfl hc i [] s5 _ H5 (fun _ _ => False) I5 (stat I5 n5) st5 go) fun r s6 ⟨u, hr, h6⟩ => ?_
      subst hr
      refine thnF h6 fun _ s7 ⟨x, H7, I7, r7, y7, st7, n7⟩ => ?_
      have I7' := I7.pinned (stat I7 n7) (T.obj _ _ st7)
      refine thnF (pg.run _ s7 _ H7 x u _ I7' r7 (step x H7 y7)) fun _ s8 ⟨σ8, H8, I8, hw8, q8⟩ => ?_
      refine thnF (pi1.run _ s8 σ8 H8 _ I8 q8) fun xv s10 hx => thnF hx fun itv s11 h11 => ?_
      obtain ⟨it1, fp1, tn1, J1, H11, e1, I11, T1, st11, f11, W1, ⟨m1, w1⟩, turn1⟩ := h11
      subst e1
      have stat1 : ∀ {H' : Hp}, (∀ b ∈ fp1, H' b = none) → ∀ b ∈ fp1, FpOk (X.blk s3 H3 scope ce fp) ([] ++ pinsAt fp s7.heap) H' b := fun hn b hb => ⟨hn b hb, (f11 b hb).2⟩
      have loop1 : codeAny (model X.prog X.w) X.A (.compLoop (sc2 elt tg iter tg1 iter1 scope pos) 1 (.ref it1) (.ref D) ce)
          (fun r s' => match r with
            | .ok _ => ∃ m, m < n ∧ ∃ i H', Inv (X.blk s3 H3 scope ce fp) [] (wipe σ (own.map (·.2))) H' s' ∧ tn i s'.heap ∧ (∀ b ∈ fp, H' b = none) ∧ W i m H'
            | .error _ => False) s11 := by
        refine loop_in (fun k s' => ∃ j H', Inv (X.blk s3 H3 scope ce fp) ([] ++ pinsAt fp s7.heap) (wipe σ8 vs1) H' s' ∧ tn1 j s'.heap ∧ (∀ b ∈ fp1, H' b = none) ∧ W1 j k H') ?_ m1 ⟨0, H11, I11.weak (wipe_length _ _) (fun j v e => (wipe_some e).1), st11, fun b hb => (f11 b hb).1, w1⟩
        rintro k s12 ⟨j, H12, I12, st12, n12, w12⟩
        rcases turn1 j k H12 w12 with ⟨stop1, nx1⟩ | ⟨go1, Nx1, hNx1, step1⟩
        · refine thnF (T1.done (X.blk s3 H3 scope ce fp) rfl rfl rfl hc j _ s12 (wipe σ8 vs1) H12 (fun _ _ => False) I12 (stat1 n12) st12 stop1) fun r s13 ⟨hr, I13⟩ => ?_
          subst hr
          obtain ⟨m', hm, w'⟩ := hNx H12 nx1
          refine ⟨m', hm, i + 1, H12, (I13.unpinned (pins := [])).weak ?_ (fun j v e => ?_), T.keep _ _ _ st7 fun b hb o e => (pinned I13 b hb o e).1, fun b hb => ?_, w'⟩
          · rw [wipe_length σ8 vs1, ← hw8, wipe_length]
          · rw [← hw8] at e
            obtain ⟨e1, e2⟩ := wipe_some e
            rw [wipe_out fun z => e2 (hv j z)]
            exact e1
          · obtain ⟨o, e, _⟩ := T.obj _ _ st7 b hb
            exact (pinned I13 b hb o e).2
        · refine thnF (T1.item (X.blk s3 H3 scope ce fp) rfl rfl rfl hc j _ s12 (wipe σ8 vs1) H12 (fun _ _ => False) I12 (stat1 n12) st12 go1) fun r s13 ⟨u1, hr, h13⟩ => ?_
          subst hr
          refine thnF h13 fun _ s14 ⟨x1, H14, I14, r14, y14, st14, n14⟩ => ?_
          have I14' := I14.pinned (stat1 n14) (T1.obj _ _ st14)
          refine thnF (pg1.run _ s14 (wipe σ8 vs1) H14 x1 u1 _ I14' r14 (step1 x1 H14 y14)) fun _ s15 ⟨σ15, H15, I15, hw15, q15⟩ => ?_
          refine thnF (pe.run _ s15 σ15 H15 _ I15 q15) fun z s17 ⟨yv, H17, I17, r17, b, k0, L, ey, hb, hD17, hL17, hf17, nx⟩ => ?_
          subst ey
          cases (show z = Value.ref b from r17)
          refine addT (X := X.blk s3 H3 scope ce fp) I17 hu hD17 hL17 hb hf17 fun L' s18 ad I18 => ?_
          obtain ⟨m', hm, w'⟩ := hNx1 _ (nx L' ad)
          refine ⟨m', hm, j + 1, _, I18.unpinned.weak (by rw [← hw15, wipe_length]) (fun j v e => by rw [← hw15] at e; exact (wipe_some e).1), T1.keep _ _ _ st14 fun b hb o e => (pinned I18 b hb o e).1, fun b hb => ?_, w'⟩
          obtain ⟨o, e, _⟩ := T1.obj _ _ st14 b hb
          exact (pinned I18 b hb o e).2
      exact start_in loop1 (T1.self X.A 0 _ _ _ st11 loop1)
  exact PpSet.codeAny_compStart_set loop (T.self X.A 0 _ _ _ st4 loop)
end
end K02

set_option Elab.async false
set_option linter.all false
set_option maxRecDepth 100000
set_option maxHeartbeats 4000000
/-! set(xs), xs a list of tuples of ints of which at most 62 differ -/
namespace K02
open PySem PySem.Spec PyProof.Rows L2
/-- the members of L are met ones, and each of the first i is met -/
structure Gath (ks : List (Addr × List Int)) (i : Nat) (L : List (Addr × List Int)) : Prop where
  sub : ∀ p ∈ L, p ∈ ks
  all : ∀ p ∈ ks.take i, p.2 ∈ L.map (·.2)
def FewK (ks : List (Addr × List Int)) : Prop := ∀ l : List (List Int), l.Nodup → (∀ x ∈ l, x ∈ ks.map (·.2)) → l.length ≤ 62
theorem gath_zero (ks : List (Addr × List Int)) : Gath ks 0 [] := ⟨fun _ h => (nomatch h), fun _ h => (nomatch (show _ ∈ [] from h))⟩
theorem Gath.step {ks L L' : List (Addr × List Int)} {i : Nat} {p : Addr × List Int} (g : Gath ks i L) (hp : ks[i]? = some p) (a : Added L L' p.1 p.2) : Gath ks (i + 1) L' := by
  have tk : ∀ q ∈ ks.take (i + 1), q ∈ ks.take i ∨ q = p := fun q hq => by
    rw [List.take_succ, hp] at hq
    rcases List.mem_append.mp hq with z | z
    · exact .inl z
    · exact .inr (List.mem_singleton.mp z)
  by_cases c : p.2 ∈ L.map (·.2)
  · rw [a.1 c]
    refine ⟨g.sub, fun q hq => ?_⟩
    rcases tk q hq with z | z
    · exact g.all q z
    · rw [z]; exact c
  · have pm := a.2 c
    refine ⟨fun q hq => ?_, fun q hq => (pm.map (·.2)).mem_iff.mpr ?_⟩
    · rcases List.mem_cons.mp (pm.mem_iff.mp hq) with z | z
      · rw [z]; exact List.mem_of_getElem? hp
      · exact g.sub q z
    · rcases tk q hq with z | z
      · exact List.mem_cons_of_mem _ (g.all q z)
      · rw [z]; exact List.mem_cons_self
section
variable {P : Program} {w : World} {A : Around} {E : Value → Shared → Prop} {s : Shared}
/-- the loop of set.update, from the i-th item on -/
theorem gather {I S : Addr} {fp : List Addr} {G : Array GenState → Array GenState → Prop} {n : Nat} {Pv : Nat → Value → Prop} {St : Nat → Shared → Prop} {R : Result → Shared → Prop} (W : WalksS P w A.in1 I fp [I] G n Pv St) (hS : S ∉ fp)
    (ks : List (Addr × List Int)) (hn : n = ks.length) (few : FewK ks) (hv : ∀ i v, Pv i v → ∃ p, ks[i]? = some p ∧ v = .ref p.1) (h0 : Heap) (hk : ∀ p ∈ ks, IsT P w h0 p.2 p.1) (nS : h0.get? S = none) (nI : h0.get? I = none) (hu : A.in1.units < cLine)
    (fin : ∀ s' L es ep t, SetTR P w s'.heap S L es ep t → Gath ks n L → (∀ b o, h0.get? b = some o → s'.heap.get? b = some o) → (∃ h' tk, s' = { s with heap := h', toks := tk, gens := s'.gens } ∧ G s.gens s'.gens) → R (.ok (.ret .none)) s') :
    ∀ (m i : Nat) (s' : Shared), n - i = m → i ≤ n → St i s' → (∀ b o, h0.get? b = some o → s'.heap.get? b = some o) → (∃ h' tk, s' = { s with heap := h', toks := tk, gens := s'.gens } ∧ G s.gens s'.gens) → (∃ L es ep t, SetTR P w s'.heap S L es ep t ∧ Gath ks i L) →
      codeAny (model P w) A (.builtin "set.update.loop" ⟨[.ref S, .ref I], []⟩) R s' := by
  have hSI : S ∉ [I] := fun z => hS (W.sub _ z)
  have moved : ∀ {a b : Shared}, Moved [I] G a b → (∀ c o, h0.get? c = some o → a.heap.get? c = some o) → (∃ h' tk, a = { s with heap := h', toks := tk, gens := a.gens } ∧ G s.gens a.gens) → (∀ c o, h0.get? c = some o → b.heap.get? c = some o) ∧ ∃ h' tk, b = { s with heap := h', toks := tk, gens := b.gens } ∧ G s.gens b.gens := by
    intro a b mv ka ⟨h', tk, ea, ga⟩
    refine ⟨fun c o e => mv.heap c o (fun z => ?_) (ka c o e), b.heap, b.toks, ?_, W.gtrans _ _ _ ga mv.gens⟩
    · rw [List.mem_singleton.mp z, nI] at e
      cases e
    · have e1 := mv.drawn
      have e2 := mv.os
      rw [ea] at e1 e2
      obtain ⟨b1, b2, b3, b4, b5⟩ := b
      cases e1
      cases e2
      rfl
  intro m
  induction m with
  | zero =>
    intro i s' hm hi st k0 sh ⟨L, es, ep, t, hR, g⟩
    obtain rfl : i = n := by omega
    refine codeAny_builtin F.entry_set_update_loop ?_
    rw [Around.under_plainId F.plain_set_update_loop _]
    show wpAny _ A.in1 (pyNext (.ref I) >>= _) _ _ s'
    refine wpAny_bind (W.done s' _ _ st fun s2 mv => ?_)
    obtain ⟨k2, sh2⟩ := moved mv k0 sh
    show wpAny _ A.in1 (ret Value.none) _ _ s2
    exact wpAny_pure (fin s2 L es ep t (hR.keep (fun o e => mv.heap S o hSI e) fun p hp => isT_keep (hk p (g.sub p hp)) k2) g k2 sh2)
  | succ m ih =>
    intro i s' hm hi st k0 sh ⟨L, es, ep, t, hR, g⟩
    have lt : i < n := by omega
    refine codeAny_builtin F.entry_set_update_loop ?_
    rw [Around.under_plainId F.plain_set_update_loop _]
    show wpAny _ A.in1 (pyNext (.ref I) >>= _) _ _ s'
    refine wpAny_bind (W.item i s' _ _ lt st fun v s2 hP st2 mv => ?_)
    obtain ⟨p, hp, rfl⟩ := hv i v hP
    obtain ⟨k2, sh2⟩ := moved mv k0 sh
    have R2 : SetTR P w s2.heap S L es ep t := hR.keep (fun o e => mv.heap S o hSI e) fun q hq => isT_keep (hk q (g.sub q hq)) k2
    have hx : IsT P w s2.heap p.2 p.1 := isT_keep (hk p (List.mem_of_getElem? hp)) k2
    have hf : L.length ≤ 62 := by
      have := few (L.map (·.2)) R2.nd fun x hx => by
        obtain ⟨q, hq, e⟩ := List.mem_map.mp hx
        exact List.mem_map.mpr ⟨q, g.sub q hq, e⟩
      rw [List.length_map] at this
      exact this
    show wpAny _ A.in1 (holding [Value.ref p.1] (setAdd S (.ref p.1)) >>= _) _ _ s2
    refine wpAny_bind (wpAny_holding ?_)
    unfold setAdd
    refine wpAny_holding (wpAny_bind (wpAny_pyHash_tuple hu hx ?_))
    refine add_at (s := { s2 with toks := s2.toks + (p.2.length + 1) }) R2 hx hu (by omega) fun b h' L' es' ep' t' sb R3 c1 c2 => ?_
    have k3 : ∀ b o, h0.get? b = some o → h'.get? b = some o := fun b o e => (sb.2 b (fun z => by rw [z, nS] at e; cases e)).trans (k2 b o e)
    obtain ⟨h2, tk2, es2, gs2⟩ := sh2
    refine wpAny_pure ⟨plainId_quiet F.plain_set_update_loop _, ih (i + 1) _ (by omega) lt (W.frame _ s2 _ _ st2 (Nat.le_add_right _ _) fun b hb o e => ?_) k3 ⟨h', s2.toks + (p.2.length + 1), ?_, gs2⟩ ⟨L', es', ep', t', R3, g.step hp ⟨c1, c2⟩⟩⟩
    · exact (sb.2 b (fun z => hS (by rw [← z]; exact hb))).trans e
    · obtain ⟨b1, b2, b3, b4, b5⟩ := s2
      cases es2
      rfl
theorem heap_none {h : Heap} {b : Addr} (hb : h.objs.size ≤ b) : h.get? b = none := by
  cases q : h.get? b with
  | none => rfl
  | some o => exact absurd (Nat.lt_of_lt_of_le (Heap.lt_size q) hb) (Nat.lt_irrefl _)
set_option maxHeartbeats 8000000 in
theorem call_setM {l : Addr} {items : Array Value} (ks : List (Addr × List Int)) {Q : Value → Shared → Prop} (hh : A.handled = none) (hl : s.heap.IsList l items) (hit : items.toList = ks.map fun p => Value.ref p.1) (hk : ∀ p ∈ ks, IsT P w s.heap p.2 p.1) (few : FewK ks) (hu : A.units + 3 < cLine)
    (h : ∀ (h' : Heap) (tk : Nat) L es ep t, SetTR P w h' s.heap.objs.size L es ep t → Gath ks ks.length L → (∀ b o, s.heap.get? b = some o → h'.get? b = some o) → Q (.ref s.heap.objs.size) { s with heap := h', toks := tk }) :
    wpAny (model P w) A (call (.type "set") [.ref l]) Q E s := by
  have hsz : items.size = ks.length := by
    have q := congrArg List.length hit
    rw [Array.length_toList, List.length_map] at q
    exact q
  obtain ⟨c, tl, hmro⟩ := F.called_set.mro
  have hmade := F.called_set.made
  have hsub := F.called_set.sub
  refine wpAny_call (codeAny_of_tree ?_)
  show wpAny _ _ (callAny (.type "set") _) _ _ _
  refine wpAny_pure ⟨Code.quiet_builtin _ (by decide +kernel), codeAny_builtin F.entry_type_call ?_⟩
  rw [Around.under_plain (weight_type_call_type "set" [.ref l] []) rfl]
  have h1 := F.called_set.notType
  have h2 := F.called_set.canCreate
  have hct := F.typeCall_set_1 (.ref l)
  repeat (any_goals (first | assumption | wp_step))
  refine codeAny_mono (code_set_led1 (.ref l) (E := E) (Q₁ := fun obj s₁ => obj = .ref s.heap.objs.size ∧ s₁ = { s with heap := s.heap.push { cls := .type "set", dict := none, data := .set #[] 0 (.fresh 0 0 (!w.params.followText "set-order")) } }) ⟨rfl, rfl⟩) fun r s₁ hr => ?_
  cases r with
  | error e => exact hr
  | ok fl =>
    cases fl with
    | ret obj =>
      obtain ⟨rfl, rfl⟩ := hr
      generalize hso : ({ cls := .type "set", dict := none, data := .set #[] 0 (.fresh 0 0 (!w.params.followText "set-order")) } : Obj) = so
      have hS : (s.heap.push so).get? s.heap.objs.size = some so := Heap.get?_push_size _ (by rw [← hso]; rfl)
      have hT : Shared.TypeIs { s with heap := s.heap.push so } (.ref s.heap.objs.size) "set" := ⟨_, hS, by rw [← hso]⟩
      have hli := F.called_set.init.lookup
      have hbi := F.called_set.init.bind (.ref s.heap.objs.size)
      repeat (any_goals (first | assumption | wp_step))
      refine codeAny_mono (codeAny_call_builtin (R := wants (fun r s₂ => r = .none ∧ ∃ h' tk L es ep t, s₂ = { s with heap := h', toks := tk } ∧ SetTR P w h' s.heap.objs.size L es ep t ∧ Gath ks ks.length L ∧ (∀ b o, s.heap.get? b = some o → h'.get? b = some o)) E) F.called_set.init.plain F.entry_set_init (check_set_init_1 hT ?_)) fun r₂ s₂ hr₂ => ?_
      · have hl1 : (s.heap.push so).IsList l items := hl.push _
        obtain ⟨ol, hol, hcl, nl, hdl⟩ := hl1
        obtain ⟨ocls, odict, odata, oslots⟩ := ol
        simp only at hcl hdl
        subst hcl; subst hdl
        have hl1 : (s.heap.push so).IsList l items := ⟨_, hol, rfl, nl, rfl⟩
        have hsls := F.sub_list_set
        have hslf := F.sub_list_frozenset
        have hne : (Value.type "list" == Value.type "dict") = false := by decide
        have hS' : (s.heap.push so).get? s.heap.objs.size = some { cls := .type "set", dict := none, data := .set #[] 0 (.fresh 0 0 (!w.params.followText "set-order")) } := by rw [hS, ← hso]
        unfold Builtin.«set.__init__» noKeywords Builtin.Frozenset.updateFrom
        generalize hPI : pyIter = PI
        wp_walk
        subst hPI
        refine wpAny_pyIter_list hl1 ?_
        refine wpAny_bind (wpAny_runValue ?_)
        have hlS : l < s.heap.objs.size := by
          obtain ⟨o, e, _⟩ := hl
          exact Heap.lt_size e
        have z1 : (s.heap.push so).objs.size = s.heap.objs.size + 1 := Heap.size_push ..
        have nIl : l ≠ (s.heap.push so).objs.size := by rw [z1]; exact Nat.ne_of_lt (Nat.lt_succ_of_lt hlS)
        have nSf : s.heap.objs.size ∉ [(s.heap.push so).objs.size, l] := by
          rw [z1]
          simp only [List.mem_cons, List.not_mem_nil, or_false, not_or]
          exact ⟨Nat.ne_of_lt (Nat.lt_succ_self _), Nat.ne_of_gt hlS⟩
        refine gather (s := { s with heap := ((s.heap.push so).push { cls := .type "list_iterator", data := .fields #[.ref l, .int 0 0] }) }) ((Walks.list (A := A.in1.in1.in1) (by simp [hh]) _ l nIl items).toS) nSf ks hsz few (fun i v hv => ?_) s.heap hk (heap_none (Nat.le_refl _)) (heap_none (by rw [z1]; exact Nat.le_succ _)) hu ?fin (items.size - 0) 0 _ rfl (Nat.zero_le _)
          ⟨⟨_, Heap.get?_push_size _ rfl, rfl, rfl⟩, hl1.push _⟩ (fun b o e => Heap.get?_push_of_some _ (Heap.get?_push_of_some _ e)) ⟨_, _, rfl, rfl⟩ ⟨[], #[], 0, _, setTR_fresh ?fr, gath_zero ks⟩
        · have q : items.toList[i]? = some v := by rw [Array.getElem?_toList]; exact hv
          rw [hit, List.getElem?_map] at q
          cases e : ks[i]? with
          | none => rw [e] at q; cases q
          | some p =>
            rw [e] at q
            exact ⟨p, rfl, (Option.some.inj q).symm⟩
        case fr => exact Heap.get?_push_of_some _ hS'
        case fin =>
          rintro s' L es ep t hR g kp ⟨h', tk, es', eg⟩
          have eg : s'.gens = s.gens := eg
          rw [eg] at es'
          subst es'
          rw [hsz] at g
          show wpAny _ _ _ _ _ _
          refine wpAny_pure ?_
          show wpAny _ _ (ret Value.none) _ _ _
          exact wpAny_pure ⟨rfl, h', tk, L, es, ep, t, rfl, hR, g, kp⟩
      · cases r₂ with
        | error e => exact hr₂
        | ok fl₂ =>
          cases fl₂ with
          | ret r =>
            obtain ⟨rfl, h', tk, L, es, ep, t, rfl, hR, g, kp⟩ := hr₂
            repeat (any_goals (first | assumption | wp_step))
            exact h _ _ _ _ _ _ hR g kp
          | _ => exact hr₂.elim
    | _ => exact hr.elim
end
section
variable {X : Cx}
def rSetM (P : Program) (w : World) : List V → Hp → VK → Prop := fun xs H Q => ∃ (l : Addr) (bs : List Addr) (ns : List (List Int)), xs = [V.ref l] ∧ H l = some (.lst (bs.map V.ref)) ∧ Paired (K02.TI H) bs ns ∧ (∀ m : List (List Int), m.Nodup → (∀ x ∈ m, x ∈ ns) → m.length ≤ 62) ∧
  ∀ (a : Addr) (L : List (Addr × List Int)), H a = none → (∀ p ∈ L, K02.TI H p.1 p.2 ∧ p.2 ∈ ns) → (∀ x ∈ ns, x ∈ L.map (·.2)) → Q (.ref a) (upd H a (SetTO P w a L))
theorem cr_setM (hc : X.calm = true) (hu : X.A.units + 3 < cLine) : CallR X (.type "set") (rSetM X.prog X.w) := by
  intro pins s σ H xs us Q I r h
  obtain ⟨l, bs, ns, rfl, hl, pd, few, q⟩ := h
  rw [Vals.ref1 r]
  have e1 : ∀ {bs : List Addr} {ns : List (List Int)}, Paired (K02.TI H) bs ns → ((bs.zip ns).map fun p => V.ref p.1) = bs.map V.ref ∧ (bs.zip ns).map (·.2) = ns ∧ ∀ p ∈ bs.zip ns, K02.TI H p.1 p.2 := by
    intro bs ns pd
    induction pd with
    | nil => exact ⟨rfl, rfl, fun p hp => nomatch hp⟩
    | cons h t ih =>
      obtain ⟨a, b, c⟩ := ih
      refine ⟨?_, ?_, fun p hp => ?_⟩
      · rw [List.zip_cons_cons, List.map_cons, a]; rfl
      · rw [List.zip_cons_cons, List.map_cons, b]
      · rw [List.zip_cons_cons] at hp
        rcases List.mem_cons.mp hp with z | z
        · rw [z]; exact h
        · exact c p z
  obtain ⟨a1, a2, a3⟩ := e1 pd
  generalize bs.zip ns = ks at a1 a2 a3
  obtain ⟨its, rv, pl, hz⟩ := I.list (SqL.of hl)
  rw [← a1] at rv
  have hn : H s.heap.objs.size = none := I.hok.fresh (Nat.le_refl _)
  refine call_setM (P := X.prog) (w := X.w) ks (I.ok.hd hc) pl.isList (by simpa using refs_of_vals rv) (fun p hp => I.isT (K02.TI.sq (a3 p hp))) (fun m h1 h2 => few m h1 fun x hx => by rw [← a2]; exact h2 x hx) hu fun h' tk L es ep t R g k => ?_
  refine ⟨.ref s.heap.objs.size, upd H s.heap.objs.size (SetTO X.prog X.w s.heap.objs.size L), I.laid (t' := tk) k (Nat.le_refl _) (setTO_new R.t0), rfl, q _ L hn (fun p hp => ⟨a3 p (g.sub p hp), ?_⟩) fun x hx => ?_⟩
  · rw [← a2]
    exact List.mem_map.mpr ⟨p, g.sub p hp, rfl⟩
  · rw [← a2] at hx
    obtain ⟨p, hp, rfl⟩ := List.mem_map.mp hx
    exact g.all p (by rw [List.take_length]; exact hp)
end
end K02

set_option Elab.async false
set_option linter.all false
set_option maxRecDepth 100000
set_option maxHeartbeats 4000000
namespace K02
open PySem L2
abbrev tMach : Stmt := top 11
abbrev tInit : Stmt := inClass tMach 0
theorem iteDF {p A B : Prop} [Decidable p] (h : ¬ p) (hb : B) : if decide p = true then A else B := by
  rw [decide_eq_false h]
  exact iteF hb
theorem iteDT {p A B : Prop} [Decidable p] (h : p) (ha : A) : if decide p = true then A else B := by
  rw [decide_eq_true h]
  exact iteT ha
theorem iteNF {p A B : Prop} [Decidable p] (h : p) (hb : B) : if (!decide p) = true then A else B := by
  rw [decide_eq_true h]
  exact iteF hb
theorem iteNT {p A B : Prop} [Decidable p] (h : ¬ p) (ha : A) : if (!decide p) = true then A else B := by
  rw [decide_eq_false h]
  exact iteT ha
/-! ### machines in the heap -/
structure MC (K : PySem.W.Frag) (mg : Str → Option Value) (C : Addr) : Prop where
  cl : Cls K C
  nC : NoAttr K C "commands"
  nS : NoAttr K C "states"
  nT : NoAttr K C "steps"
  mgC : mg "Machine" = some (.ref C)
theorem cs_ : ¬ (("commands" : Str) = "states") := by decide +kernel
theorem ct_ : ¬ (("commands" : Str) = "steps") := by decide +kernel
theorem st_ : ¬ (("states" : Str) = "steps") := by decide +kernel
def mf (c n : Int) (t : Addr) : List (Str × V) := putF "steps" (.ref t) (putF "states" (.int n) (putF "commands" (.int c) []))
theorem mf_c (c n : Int) (t : Addr) : (mf c n t).lookup ("commands" : Str) = some (.int c) := by
  unfold mf
  rw [lookup_putF, if_neg ct_, lookup_putF, if_neg cs_, lookup_putF, if_pos rfl]
theorem mf_n (c n : Int) (t : Addr) : (mf c n t).lookup ("states" : Str) = some (.int n) := by
  unfold mf
  rw [lookup_putF, if_neg st_, lookup_putF, if_pos rfl]
theorem mf_t (c n : Int) (t : Addr) : (mf c n t).lookup ("steps" : Str) = some (.ref t) := by
  unfold mf
  rw [lookup_putF, if_pos rfl]
def MachAt (C : Addr) (H : Hp) (p : Addr) (n c : Nat) (st : List (List Int)) : Prop :=
  ∃ dx t, H p = some (.ins C dx (mf c n t)) ∧ TuT H t st ∧ Mach n c st ∧ n ≤ 100 ∧ c ≤ 100
theorem MachAt.same {C : Addr} {H H' : Hp} {p : Addr} {n c : Nat} {st : List (List Int)} (h : MachAt C H p n c st) (s : Same H H') : MachAt C H' p n c st :=
  let ⟨dx, t, h1, h2, h3⟩ := h; ⟨dx, t, s _ _ h1, h2.same s, h3⟩
def NoW : Addr → Prop := fun _ => False
/-- __init__ at the new instance p -/
def spInit (C : Addr) : Sp := fun vs H Q _ => ∃ (p dx a : Addr) (n c : Nat) (st : List (List Int)), vs = [.ref p, .int c, .ref a] ∧ H p = some (.ins C dx []) ∧ LL NoW H a st ∧ Mach n c st ∧ n ≤ 100 ∧ c ≤ 100 ∧
  ∀ H', Ex (fun b => b = p) H H' → MachAt C H' p n c st → Q .non H'
section
variable {P : Program} {w : World} {K : PySem.W.Frag} {mg : Str → Option Value} {base : Heap} {C : Addr}
theorem scInit : FnScope ["self", "commands", "steps", "many", "at", "row", "state"] ["self", "commands", "steps"] (defScope tInit) := ⟨rfl, rfl, rfl, by decide +kernel, rfl, by decide +kernel, by decide +kernel⟩
theorem ok_init {f : Addr} {fd : FuncData} (B : Bi mg) (T : MC K mg C) (F : Fun K "__init__" "Machine.__init__" tInit f fd) (G1 : Has P w K mg base 1 "is_integer" ["value"] spIsInt) (G2 : Has P w K mg base 1 "is_sequence" ["value"] spIsSeq)
    (G3 : Has P w K mg base 3 "is_index" ["value", "many"] spIsIdx) : FnOk P w K mg base CX0 4 f fd ["self", "commands", "steps"] (spInit C) := by
  refine F.ok scInit (fun vs H Q E h => ?_) (fun cdv A outer s H vs Q E hr h => ?_)
  · obtain ⟨p, dx, a, n, c, st, rfl, _⟩ := h
    rfl
  · obtain ⟨p, dx, a, n, c, st, rfl, hp, ⟨_, bs, ha, hbs⟩, M, hn, hc, q⟩ := h
    have hr1 : Room 1 _ := hr.mono (by decide)
    refine ⟨_, pss_cons (ps_if (PW.pt (pw_or (pt_not (pt_val (pe_h G1 hr (by decide) (pa_cons (pv 1) pa_nil)))) (pw_or1 (pt_cmpR op_lt (pv 1) pe_int (nomark _))))) (pss_one ps_never) pss_nil)
      (pss_cons (ps_if (PW.pt (pw_or (pt_not (pt_val (pe_h G2 hr (by decide) (pa_cons (pv 2) pa_nil)))) (pw_or1 (pt_cmpR op_eq (pe_callB call_len_seq (by rfl) B.len PySem.boot_len (pa_cons (pv 2) pa_nil)) pe_int (nomark _))))) (pss_one ps_never) pss_nil)
      (pss_cons (ps_set (i := 3) scInit.nd rfl (Or.inr rfl) (pe_callB call_len_seq (by rfl) B.len PySem.boot_len (pa_cons (pv 2) pa_nil)))
      (pss_cons (ps_for PassesOwn.never rfl (pi_enum (by rfl) B.enumerate (pa_cons (pv 2) pa_nil)) (pg_tup rfl (pgs_cons (pg_name (i := 4) scInit.nd rfl (Or.inl rfl)) (pgs_cons (pg_name (i := 5) scInit.nd rfl (Or.inl rfl)) pgs_nil)))
        (pss_one (ps_if (PW.pt (pw_or (pt_not (pt_val (pe_h G2 hr (by decide) (pa_cons (pv 5) pa_nil)))) (pw_or (pt_cmpR op_ne (pe_callB call_len_seq (by rfl) B.len PySem.boot_len (pa_cons (pv 5) pa_nil)) (pv 1) (nomark _))
          (pw_or1 (pt_not (pt_val (pe_callB (cr_all rfl) (by rfl) B.all (by decide +kernel) (pa_cons (pe_lc (own := [("state", 6)]) (g := gName 6) (by rfl) scInit.nd (pi_list (pv 5)) (blkOk_by (own := [("state", 6)]) (N := ["self", "commands", "steps", "many", "at", "row", "state"]) (sc := defScope tInit) (by decide +kernel))
            (fun _ _ _ _ _ => pg_name (i := 6) scInit.nd rfl (Or.inl rfl)) (fun _ _ _ _ _ => pts_nil) (fun _ _ _ _ _ => pe_h G3 hr (by decide) (pa_cons (pv 6) (pa_cons (pv 3) pa_nil)))) pa_nil)))))))) (pss_one ps_never) pss_nil)))
      (pss_cons (ps_fld (pv 0) (pv 1) rfl) (pss_cons (ps_fld (pv 0) (pv 3) rfl)
      (pss_one (ps_fld (pv 0) (pe_tupleOf (by rfl) B.tuple (pe_lc (own := [("row", 5)]) (g := gName 5) (te := tThen (tVar 5) (kTup K)) (by rfl) scInit.nd (pi_list (pv 2)) (blkOk_by (own := [("row", 5)]) (N := ["self", "commands", "steps", "many", "at", "row", "state"]) (sc := defScope tInit) (by decide +kernel))
            (fun _ _ _ _ _ => pg_name (i := 5) scInit.nd rfl (Or.inl rfl)) (fun _ _ _ _ _ => pts_nil) (fun _ _ _ _ _ => by exact (pe_tupleOf (by rfl) B.tuple (pv 5))))) rfl))))))), ?_⟩
    have hl : bs.length = n := (Paired.length hbs).trans M.len
    have hc0 := M.cpos
    have hn0 := M.pos
    -- commands
    refine ⟨_, rfl, _, true, rfl, .int _, true, rfl, iteF ⟨_, rfl, _, _, rfl, rfl, _, rfl, iteDF (by omega) ?_⟩⟩
    -- steps
    refine ⟨_, rfl, _, rfl, .lst ha, fun H1 s1 => ⟨true, rfl, iteF ⟨_, rfl, _, _, rfl, .inl (SqL.of (s1 _ _ ha)), rfl, _, rfl, iteDF (fun z => ?_) ?_⟩⟩⟩
    · injection z with z
      rw [List.length_map] at z
      omega
    refine ⟨_, rfl, _, _, rfl, .inl (SqL.of (s1 _ _ ha)), ?_⟩
    rw [show ((bs.map V.ref).length : Int) = (n : Int) by rw [List.length_map, hl]]
    refine ⟨_, rfl, a, _, rfl, SqL.of (s1 _ _ ha), for_it walk_enum (fun i σ H' => ∃ v4 v5 v6 : Option V, σ = [some (.ref p), some (.int c), some (.ref a), some (.int n), v4, v5, v6] ∧ Same H H') ⟨none, none, none, rfl, s1⟩ (fun i σ H' _ ⟨_, _, _, _, s2⟩ => SqL.of (s2 _ _ ha)) ?_ ?_⟩
    · rintro i x σ H2 H2' hi ⟨v4, v5, v6, rfl, s2⟩ ⟨T, x', y', rfl, hT, rfl, e1, e2⟩
      obtain ⟨b, hb, rfl⟩ := get_ref e2
      obtain ⟨r, hr', _, hbl⟩ := pd_at1 hbs hb
      have s3 : Same H (upd H2 T (.tup [x', .ref b])) := s2.trans (same_new hT)
      obtain ⟨hrl, hrc⟩ := M.row r (List.mem_of_getElem? hr')
      refine ⟨T, _, rfl, SqT.of upd_same, rfl, _, _, rfl, _, _, rfl, rfl, ?_⟩
      refine ⟨_, rfl, _, rfl, .lst (s3 _ _ hbl), fun H3 s4 => ⟨true, rfl, iteF ⟨_, rfl, _, _, rfl, .inl (SqL.of (s4 _ _ (s3 _ _ hbl))), _, rfl, rfl, _, rfl, iteNF (by rw [List.length_map, hrl]) ?_⟩⟩⟩
      refine ⟨_, rfl, b, rfl, ⟨_, SqL.of (s4 _ _ (s3 _ _ hbl))⟩, fun D hD => lc_fill (walk_list (xs := r.map V.int)) NoW (fun _ => True) (fun _ _ v => v = .bl true) hD (by rw [List.length_map]; omega) (fun z => z) (fun _ _ _ _ => trivial) (fun _ _ _ _ _ _ _ h => h) trivial
        (fun H' e _ => SqL.of (e.same _ _ (s4 _ _ (s3 _ _ hbl)))) (fun j x H' H'' hj e _ _ hy Q k => ?_) mono_yes (mono_name 6) (fun H' acc e _ hd hl2 hr2 => ?_)⟩
      · obtain ⟨rfl, hx⟩ := hy
        obtain ⟨z, hz, rfl⟩ := get_int hx
        refine ⟨rfl, rfl, _, rfl, _, rfl, _, _, rfl, .inl ⟨z, rfl, ?_⟩⟩
        have hz2 := mem_cmds.mp (hrc z (List.mem_of_getElem? hz))
        rw [decide_eq_true hz2]
        exact k _ _ (Ex.refl _ _) trivial rfl
      · have ea : acc = (List.replicate (r.map V.int).length true).map V.bl := by
          rw [List.map_replicate]
          exact List.eq_replicate_iff.mpr ⟨hl2, fun v hv => by
            obtain ⟨j, hj⟩ := List.getElem?_of_mem hv
            exact hr2 j v hj⟩
        rw [ea] at hd
        refine ⟨D, _, rfl, SqL.of hd, true, by simp, iteF ?_⟩
        exact ⟨_, _, _, rfl, s3.trans (s4.trans e.same)⟩
    · rintro σ H2 ⟨v4, v5, v6, rfl, s2⟩
      have hp2 := s2 _ _ hp
      have ha2 := s2 _ _ ha
      have nap : a ≠ p := ne_of ha2 hp2 (by intro z; cases z)
      refine ⟨_, rfl, _, rfl, p, C, dx, [], rfl, hp2, T.cl, T.nC, (by show 0 < 1000; decide), _, rfl, _, rfl, p, C, dx, _, rfl, upd_same, T.cl, T.nS, (by show 1 < 1000; decide), ?_⟩
      generalize hH3 : upd (upd H2 p (.ins C dx (putF "commands" (V.int c) []))) p (.ins C dx (putF "states" (V.int n) (putF "commands" (V.int c) []))) = H3
      have at3 : ∀ b o, b ≠ p → H b = some o → H3 b = some o := fun b o n e => by
        rw [← hH3, upd_ne n, upd_ne n]
        exact s2 _ _ e
      have hp3 : H3 p = some (.ins C dx (putF "states" (V.int n) (putF "commands" (V.int c) []))) := by rw [← hH3]; exact upd_same
      have ha3 := at3 a _ nap ha
      have row3 : ∀ (b : Addr) (r : List Int), H b = some (.lst (r.map V.int)) → H3 b = some (.lst (r.map V.int)) := fun b r e => at3 b _ (ne_of (s2 _ _ e) hp2 (by intro z; cases z)) e
      refine ⟨_, rfl, a, rfl, ⟨_, SqL.of ha3⟩, fun D hD => lc_fill (walk_list (xs := bs.map V.ref)) (fun _ => False) (fun _ => True) (fun i H' v => ∃ t r, v = .ref t ∧ st[i]? = some r ∧ TI H' t r) hD (by rw [List.length_map]; omega) (fun z => z) (fun _ _ _ _ => trivial)
        (fun i v H4 H5 e _ hd ⟨t, r, e1, e2, h⟩ => ⟨t, r, e1, e2, ti_put e (lists_no _) hd h⟩) trivial (fun H' e _ => SqL.of (e.same _ _ ha3)) (fun i x H4 H5 hi e _ _ hy Q k => ?_) mono_yes (mono_name 5) (fun H4 acc e _ hd hl2 hr2 => ?_)⟩
      · obtain ⟨rfl, hx⟩ := hy
        obtain ⟨b, hb, rfl⟩ := get_ref hx
        obtain ⟨r, hr', _, hbl⟩ := pd_at1 hbs hb
        refine ⟨rfl, rfl, _, rfl, .inl ⟨b, r.map V.int, rfl, SqL.of (e.same _ _ (row3 b r hbl)), fun t ht => k _ _ (Ex.new ht) trivial ⟨t, r, rfl, hr', upd_same⟩⟩⟩
      · refine .inl ⟨D, acc, rfl, SqL.of hd, fun t ht => ⟨_, rfl, p, C, dx, putF "states" (V.int n) (putF "commands" (V.int c) []), rfl, ?_, T.cl, T.nT, (by show 2 < 1000; decide), ?_⟩⟩
        · exact same_new ht _ _ (e.same _ _ hp3)
        · have hpt : p ≠ t := ne_of_none (e.same _ _ hp3) ht
          refine q _ (fun b o n e' => ?_) ⟨dx, t, upd_same, ?_, M, hn, hc⟩
          · rw [upd_ne n]
            exact same_new ht _ _ (e.same _ _ (at3 b o n e'))
          · have pr : Paired (fun v r => ∃ a, v = V.ref a ∧ TI H4 a r) acc st := pd_of (by rw [hl2, List.length_map, hl, M.len]) fun i v r h1 h2 => by
              obtain ⟨t', r', e1, e2, h⟩ := hr2 i v h1
              rw [h2] at e2
              cases e2
              exact ⟨t', e1, h⟩
            obtain ⟨as, ea, pa⟩ := pd_refs pr
            refine ⟨as, ?_, pd_imp (fun b r h => ?_) pa⟩
            · rw [upd_ne hpt.symm, upd_same, ea]
            · have h' := h.same (same_new (o := .tup acc) ht)
              have : b ≠ p := ne_of h' (same_new ht _ _ (e.same _ _ hp3)) (by intro z; cases z)
              show upd _ p _ b = _
              rw [upd_ne this]
              exact h'
end
end K02

set_option Elab.async false
set_option linter.all false
set_option maxRecDepth 100000
set_option maxHeartbeats 4000000
namespace K02
open PySem L2
abbrev tChecked : Stmt := top 12
abbrev tLed : Stmt := top 13
abbrev tEffect : Stmt := top 14
abbrev tFollowed : Stmt := top 15
abbrev tSingle : Stmt := top 16
section
variable {P : Program} {w : World} {K : PySem.W.Frag} {mg : Str → Option Value} {base : Heap} {C : Addr}
/-! ### checked_row of an empty row -/
def spChecked : Sp := fun vs H Q _ => ∃ (c : Int) (t : Addr), vs = [.int c, .ref t] ∧ TI H t [] ∧ ∀ H', Same H H' → Q (.ref t) H'
theorem scChecked : FnScope ["commands", "value", "at", "command"] ["commands", "value"] (defScope tChecked) := ⟨rfl, rfl, rfl, by decide +kernel, rfl, by decide +kernel, by decide +kernel⟩
theorem has_checked (B : Bi mg) (G2 : Has P w K mg base 1 "is_sequence" ["value"] spIsSeq) (D : Df K mg "checked_row" tChecked) : Has P w K mg base 2 "checked_row" ["commands", "value"] spChecked := by
  refine D.has (fun F => F.ok scChecked (fun vs H Q E h => ?_) (fun cdv A outer s H vs Q E hr h => ?_)) (fun F => F.binds fun _ _ _ _ _ _ us hl => match us, hl with | [_, _], _ => rfl)
  · obtain ⟨c, t, rfl, _⟩ := h
    rfl
  · obtain ⟨c, t, rfl, ht, q⟩ := h
    refine ⟨_, pss_cons (ps_if (pt_not (pt_val (pe_h G2 hr (by decide) (pa_cons (pv 1) pa_nil)))) (pss_one ps_never) pss_nil)
      (pss_cons (ps_for PassesOwn.never rfl (pi_enumT (by rfl) B.enumerate (pa_cons (pv 1) pa_nil)) (pg_tup rfl (pgs_cons (pg_name (i := 2) scChecked.nd rfl (Or.inl rfl)) (pgs_cons (pg_name (i := 3) scChecked.nd rfl (Or.inl rfl)) pgs_nil))) pss_never)
      (pss_one (ps_ret (pe_tupleOf (by rfl) B.tuple (pv 1))))), ?_⟩
    refine ⟨_, rfl, _, rfl, .tup ht, fun H1 s1 => ⟨true, rfl, iteF ?_⟩⟩
    have ht1 : TI H1 t [] := ht.same s1
    refine ⟨_, rfl, t, [], rfl, ht1.sq (K := K), for_it (walk_enumT (xs := [])) (fun i σ H' => σ = [some (.int c), some (.ref t), none, none] ∧ H' = H1) ⟨rfl, rfl⟩ (fun i σ H' _ h => by rw [h.2]; exact ht1.sq) (fun i x σ H H' hi => absurd hi (Nat.not_lt_zero i)) fun σ H2 h => ?_⟩
    obtain ⟨rfl, rfl⟩ := h
    exact ⟨_, rfl, .inr ⟨t, _, rfl, ht1.sq, q _ s1⟩⟩
/-! ### led -/
theorem TuT.row {H : Hp} {t : Addr} {st : List (List Int)} (h : TuT H t st) {i : Nat} {r : List Int} (e : st[i]? = some r) : ∃ (bs : List Addr) (b : Addr), H t = some (.tup (bs.map V.ref)) ∧ (bs.map V.ref)[i]? = some (.ref b) ∧ TI H b r := by
  obtain ⟨bs, h1, h2⟩ := h
  obtain ⟨b, e1, e2⟩ := pd_at h2 e
  exact ⟨bs, b, h1, by rw [List.getElem?_map, e1]; rfl, e2⟩
def spLed (C : Addr) : Sp := fun vs H Q _ => ∃ (p t : Addr) (n c : Nat) (st : List (List Int)) (s : Int) (row : List Int), vs = [.ref p, .int s, .ref t] ∧ MachAt C H p n c st ∧ s ∈ cmds n ∧ TI H t row ∧ (∀ k ∈ row, k ∈ cmds c) ∧ Q (.int (ledM st s row)) H
theorem scLed : FnScope ["machine", "state", "row", "now", "command"] ["machine", "state", "row"] (defScope tLed) := ⟨rfl, rfl, rfl, by decide +kernel, rfl, by decide +kernel, by decide +kernel⟩
theorem nat_of {z : Int} {n : Nat} (h : z ∈ cmds n) : z = (z.toNat : Int) := by
  have := mem_cmds.mp h
  omega
theorem take_more {α : Type} {l : List α} {i : Nat} {x : α} (h : l[i]? = some x) : l.take (i + 1) = l.take i ++ [x] := by
  rw [List.take_succ, h]
  rfl
theorem has_led (T : MC K mg C) (D : Df K mg "led" tLed) : Has P w K mg base 1 "led" ["machine", "state", "row"] (spLed C) := by
  refine D.has (fun F => F.ok scLed (fun vs H Q E h => ?_) (fun cdv A outer s H vs Q E hr h => ?_)) (fun F => F.binds fun _ _ _ _ _ _ us hl => match us, hl with | [_, _, _], _ => rfl)
  · obtain ⟨p, t, n, c, st, s, row, rfl, _⟩ := h
    rfl
  · obtain ⟨p, t, n, c, st, s, row, rfl, ⟨dx, ts, hp, hts, M, _⟩, hs, ht, hrow, q⟩ := h
    refine ⟨_, pss_cons (ps_set (i := 3) scLed.nd rfl (Or.inl rfl) (pv 1)) (pss_cons (ps_for PassesOwn.never rfl (pi_tup (pv 2)) (pg_name (i := 4) scLed.nd rfl (Or.inl rfl))
      (pss_one (ps_set (i := 3) scLed.nd rfl (Or.inl rfl) (pe_ix ix_tup (pe_ix ix_tup (pe_fld (pv 0) rfl) (pv 3) (fun _ _ => rfl)) (pv 4) (fun _ _ => rfl)))))
      (pss_one (ps_ret (pv 3)))), ?_⟩
    refine ⟨_, rfl, _, rfl, t, rfl, ⟨_, ht.sq⟩, for_tup (K := K) (a := t) (xs := row.map V.int) (fun i σ H' => ∃ v, σ = [some (.ref p), some (.int s), some (.ref t), some (.int (ledM st s (row.take i))), v] ∧ H' = H) ⟨none, rfl, rfl⟩ (fun i σ H' _ ⟨_, _, e⟩ => by rw [e]; exact ht.sq) ?_ ?_⟩
    · rintro i x σ H' hi ⟨v, rfl, rfl⟩
      obtain ⟨k, hk, rfl⟩ := get_int hi
      have hnow : ledM st s (row.take i) ∈ cmds n := M.led_in hs fun k hk => hrow k (List.mem_of_mem_take hk)
      have hkc := hrow k (List.mem_of_getElem? hk)
      obtain ⟨r, h1, h2, h3, h4⟩ := M.cell hnow hkc
      obtain ⟨bs, b, e1, e2, e3⟩ := hts.row h1
      refine ⟨_, rfl, p, C, dx, _, _, rfl, hp, T.cl, T.nT, mf_t _ _ _, _, rfl, ts, _, _, .ref b, rfl, rfl, SqT.of e1, ?_, _, rfl, b, _, _, .int (stp st (ledM st s (row.take i)) k), rfl, rfl, e3.sq, ?_, some (.int k), ?_, rfl⟩
      · rw [nat_of hnow]
        exact atI_nat e2
      · rw [nat_of hkc]
        exact atI_nat (by rw [List.getElem?_map, h3]; rfl)
      · rw [take_more hk]
        unfold ledM
        rw [List.foldl_append]
        rfl
    · rintro σ H' ⟨v, rfl, rfl⟩
      rw [List.length_map, List.take_length]
      exact ⟨_, rfl, q⟩
/-! ### followed -/
def spFollowed : Sp := fun vs H Q _ => ∃ (a b : Addr) (n : Nat) (one other : List Int), vs = [.ref a, .ref b] ∧ TI H a one ∧ TI H b other ∧ other.length = n ∧ one.length ≤ 100 ∧ (∀ s ∈ one, s ∈ cmds n) ∧ ∀ H' p, Same H H' → TI H' p (fol one other) → Q (.ref p) H'
theorem scFollowed : FnScope ["one", "other", "state"] ["one", "other"] (defScope tFollowed) := ⟨rfl, rfl, rfl, by decide +kernel, rfl, by decide +kernel, by decide +kernel⟩
theorem lst_int {acc : List V} {l : List Int} (h1 : acc.length = l.length) (h : ∀ (i : Nat) v, acc[i]? = some v → ∃ z, l[i]? = some z ∧ v = .int z) : acc = l.map V.int := by
  refine List.ext_getElem? fun i => ?_
  rw [List.getElem?_map]
  cases e : acc[i]? with
  | none =>
    have := List.getElem?_eq_none_iff.mp e
    rw [List.getElem?_eq_none (by omega)]
    rfl
  | some v =>
    obtain ⟨z, hz, rfl⟩ := h i v e
    rw [hz]
    rfl
theorem has_followed (B : Bi mg) (D : Df K mg "followed" tFollowed) : Has P w K mg base 1 "followed" ["one", "other"] spFollowed := by
  refine D.has (fun F => F.ok scFollowed (fun vs H Q E h => ?_) (fun cdv A outer s H vs Q E hr h => ?_)) (fun F => F.binds fun _ _ _ _ _ _ us hl => match us, hl with | [_, _], _ => rfl)
  · obtain ⟨a, b, n, one, other, rfl, _⟩ := h
    rfl
  · obtain ⟨a, b, n, one, other, rfl, ha, hb, hl, h100, hin, q⟩ := h
    refine ⟨_, pss_one (ps_ret (pe_tupleOf (by rfl) B.tuple (pe_lc (own := [("state", 2)]) (g := gName 2) (te := tOp (rIxT K) (tVar 1) (tVar 2)) (by rfl) scFollowed.nd (pi_tup (pv 0)) (blkOk_by (own := [("state", 2)]) (N := ["one", "other", "state"]) (sc := defScope tFollowed) (by decide +kernel))
            (fun _ _ _ _ _ => pg_name (i := 2) scFollowed.nd rfl (Or.inl rfl)) (fun _ _ _ _ _ => pts_nil) (fun _ _ _ _ _ => by exact (pe_ix ix_tup (pv 1) (pv 2) (fun _ _ => rfl)))))), ?_⟩
    refine ⟨_, rfl, a, rfl, ⟨_, ha.sq⟩, fun Dl hD => lc_fill (walk_tup (xs := one.map V.int)) (fun _ => False) (fun _ => True) (fun i _ v => ∃ z, (fol one other)[i]? = some z ∧ v = .int z) hD (by rw [List.length_map]; omega) (fun z => z) (fun _ _ _ _ => trivial)
      (fun _ _ _ _ _ _ _ h => h) trivial (fun H' e _ => (ha.same e.same).sq) (fun i x H' H'' hi e _ _ hy Q k => ?_) mono_yes (mono_name 2) (fun H' acc e _ hd hl2 hr2 => ?_)⟩
    · obtain ⟨rfl, hx⟩ := hy
      obtain ⟨z, hz, rfl⟩ := get_int hx
      have hz2 := hin z (List.mem_of_getElem? hz)
      have hlt : z.toNat < other.length := by
        have := mem_cmds.mp hz2
        omega
      have ez : other[z.toNat]? = some (other.getD z.toNat 0) := by
        rw [List.getD_eq_getElem?_getD, List.getElem?_eq_getElem hlt]
        rfl
      refine ⟨rfl, rfl, _, rfl, _, rfl, b, _, _, .int (other.getD z.toNat 0), rfl, rfl, (hb.same e.same).sq, ?_, k _ _ (Ex.refl _ _) trivial ⟨_, ?_, rfl⟩⟩
      · rw [nat_of hz2]
        exact atI_nat (by rw [List.getElem?_map, ez]; rfl)
      · unfold fol
        rw [List.getElem?_map, hz]
        rfl
    · have ea : acc = (fol one other).map V.int := lst_int (by rw [hl2, List.length_map]; unfold fol; rw [List.length_map]) hr2
      refine .inl ⟨Dl, acc, rfl, SqL.of hd, fun t ht => q _ t (e.same.trans (same_new ht)) ?_⟩
      show upd _ t _ t = _
      rw [upd_same, ea]
/-! ### effect of the empty row -/
def spEffect (C : Addr) : Sp := fun vs H Q _ => ∃ (p t : Addr) (n c : Nat) (st : List (List Int)), vs = [.ref p, .ref t] ∧ MachAt C H p n c st ∧ TI H t [] ∧ ∀ H' r, Same H H' → TI H' r (cmds n) → Q (.ref r) H'
theorem scEffect : FnScope ["machine", "row", "commands", "state"] ["machine", "row"] (defScope tEffect) := ⟨rfl, rfl, rfl, by decide +kernel, rfl, by decide +kernel, by decide +kernel⟩
theorem has_effect (B : Bi mg) (T : MC K mg C) (G1 : Has P w K mg base 2 "checked_row" ["commands", "value"] spChecked) (G2 : Has P w K mg base 1 "led" ["machine", "state", "row"] (spLed C)) (D : Df K mg "effect" tEffect) :
    Has P w K mg base 3 "effect" ["machine", "row"] (spEffect C) := by
  refine D.has (fun F => F.ok scEffect (fun vs H Q E h => ?_) (fun cdv A outer s H vs Q E hr h => ?_)) (fun F => F.binds fun _ _ _ _ _ _ us hl => match us, hl with | [_, _], _ => rfl)
  · obtain ⟨p, t, n, c, st, rfl, _⟩ := h
    rfl
  · obtain ⟨p, t, n, c, st, rfl, hM, ht, q⟩ := h
    refine ⟨_, pss_cons (ps_set (i := 2) scEffect.nd rfl (Or.inr rfl) (pe_h G1 hr (by decide) (pa_cons (pe_fld (pv 0) rfl) (pa_cons (pv 1) pa_nil))))
      (pss_one (ps_ret (pe_tupleOf (by rfl) B.tuple (pe_lc (own := [("state", 3)]) (g := gName 3) (by rfl) scEffect.nd (pi_range1 rfl B.range (pa_cons (pe_fld (pv 0) rfl) pa_nil)) (blkOk_by (own := [("state", 3)]) (N := ["machine", "row", "commands", "state"]) (sc := defScope tEffect) (by decide +kernel))
            (fun _ _ _ _ _ => pg_name (i := 3) scEffect.nd rfl (Or.inl rfl)) (fun _ _ _ _ _ => pts_nil) (fun _ _ _ _ _ => pe_h G2 hr (by decide) (pa_cons (pv 0) (pa_cons (pv 3) (pa_cons (pv 2) pa_nil)))))))), ?_⟩
    obtain ⟨dx, ts, hp, hts, M, hn, hc⟩ := id hM
    refine ⟨_, rfl, p, C, dx, _, _, rfl, hp, T.cl, T.nC, mf_c _ _ _, _, rfl, _, t, rfl, ht, fun H1 s1 => ?_⟩
    refine ⟨_, rfl, p, C, dx, _, _, rfl, s1 _ _ hp, T.cl, T.nS, mf_n _ _ _, _, rfl, by omega, by omega, fun Dl hD => lc_fill (walk_range (lo := 0) (n := n)) (fun _ => False) (fun _ => True) (fun i _ v => ∃ z, (cmds n)[i]? = some z ∧ v = .int z) hD (by omega) (fun z => z) (fun _ _ _ _ => trivial)
      (fun _ _ _ _ _ _ _ h => h) trivial (fun H' e _ => trivial) (fun i x H' H'' hi e _ _ hy Q k => ?_) mono_yes (mono_name 3) (fun H' acc e _ hd hl2 hr2 => ?_)⟩
    · obtain ⟨rfl, rfl⟩ := hy
      have s2 := s1.trans e.same
      have hin : (0 + (i : Int)) ∈ cmds n := mem_cmds.mpr ⟨by omega, by omega⟩
      refine ⟨rfl, rfl, _, rfl, _, rfl, _, rfl, p, t, n, c, st, _, [], rfl, hM.same s2, hin, ht.same s2, (fun k hk => by cases hk), k _ _ (Ex.refl _ _) trivial ⟨i, cmds_get hi, ?_⟩⟩
      show V.int (0 + (i : Int)) = .int (i : Int)
      rw [Int.zero_add]
    · have ea : acc = (cmds n).map V.int := lst_int (by rw [hl2, cmds_length]) hr2
      refine .inl ⟨Dl, acc, rfl, SqL.of hd, fun r hr => q _ r (s1.trans (e.same.trans (same_new hr))) ?_⟩
      show upd _ r _ r = _
      rw [upd_same, ea]
end
end K02

set_option Elab.async false
set_option linter.all false
set_option maxRecDepth 100000
set_option maxHeartbeats 4000000
namespace K02
open PySem L2
abbrev tIsEffect : Stmt := top 18
section
variable {P : Program} {w : World} {K : PySem.W.Frag} {mg : Str → Option Value} {base : Heap} {C : Addr}
/-! ### single_effects -/
def scCmd : Scope := { kind := .function, names := [(Str.ofString ".0", .local), (Str.ofString "command", .cell), (Str.ofString "tuple", .globalImplicit), (Str.ofString "machine", .free)], isGenerator := false, isCoroutine := false }
def spSingle (C : Addr) : Sp := fun vs H Q _ => ∃ (p : Addr) (n c : Nat) (st : List (List Int)), vs = [.ref p] ∧ MachAt C H p n c st ∧ ∀ H' a, Same H H' → H a = none → LsT H' a ((cmds c).map (single st)) → Q (.ref a) H'
theorem scSingle : FnScope ["machine", "row", "command"] ["machine"] (defScope tSingle) := ⟨rfl, rfl, rfl, by decide +kernel, rfl, by decide +kernel, by decide +kernel⟩
theorem has_single (B : Bi mg) (T : MC K mg C) (D : Df K mg "single_effects" tSingle) : Has P w K mg base 1 "single_effects" ["machine"] (spSingle C) := by
  refine D.has (fun F => F.ok scSingle (fun vs H Q E h => ?_) (fun cdv A outer s H vs Q E hr h => ?_)) (fun F => F.binds fun _ _ _ _ _ _ us hl => match us, hl with | [_], _ => rfl)
  · obtain ⟨p, n, c, st, rfl, _⟩ := h
    rfl
  · obtain ⟨p, n, c, st, rfl, hM, q⟩ := h
    refine ⟨_, pss_one (ps_ret (pe_lc (own := [("command", 2)]) (g := gName 2) (te := tThen (tLc (iTup K (tFld K (tVar 0) "steps")) (gName 1) tYes (tOp (rIxT K) (tVar 1) (tVar 2)) [1]) (kTup K)) (by rfl) scSingle.nd (pi_range1 rfl B.range (pa_cons (pe_fld (pv 0) rfl) pa_nil))
        (blkOk_by (own := [("command", 2)]) (N := ["machine", "row", "command"]) (sc := defScope tSingle) (by decide +kernel)) (fun _ _ _ _ _ => pg_name (i := 2) scSingle.nd rfl (Or.inr rfl)) (fun _ _ _ _ _ => pts_nil)
        (fun _ _ _ _ _ => by exact (pe_tupleOf (by rfl) B.tuple (pe_lc (own := [("row", 1)]) (g := gName 1) (te := tOp (rIxT K) (tVar 1) (tVar 2)) (by rfl) scSingle.nd (pi_tup (pe_fld (pv 0) rfl))
          (blkOk_by (own := [("row", 1)]) (N := ["machine", "row", "command"]) (sc := relS scCmd (defScope tSingle)) (by decide +kernel)) (fun _ _ _ _ _ => pg_name (i := 1) scSingle.nd rfl (Or.inl rfl)) (fun _ _ _ _ _ => pts_nil)
          (fun _ _ _ _ _ => by exact (pe_ix ix_tup (pv 1) (pv 2) (fun _ _ => rfl)))))))), ?_⟩
    obtain ⟨dx, ts, hp, hts, M, hn, hc⟩ := id hM
    refine ⟨_, rfl, p, C, dx, _, _, rfl, hp, T.cl, T.nC, mf_c _ _ _, _, rfl, by omega, by omega, fun Dl hD => lc_fill (walk_range (lo := 0) (n := c)) (fun _ => False) (fun _ => True) (fun i H' v => ∃ t z, ((cmds c).map (single st))[i]? = some z ∧ v = .ref t ∧ TI H' t z) hD (by omega) (fun z => z) (fun _ _ _ _ => trivial)
      (fun i v H4 H5 e _ hd ⟨t, z, e1, e2, h⟩ => ⟨t, z, e1, e2, ti_put e (lists_no _) hd h⟩) trivial (fun H' e _ => trivial) (fun i x H' H'' hi e _ _ hy Q k => ?_) mono_yes (mono_name 2) (fun H' acc e _ hd hl2 hr2 => ?_)⟩
    · obtain ⟨rfl, rfl⟩ := hy
      have hts' := hts.same e.same
      obtain ⟨bs, hbs, pbs⟩ := id hts'
      have hbl : bs.length = n := (Paired.length pbs).trans M.len
      refine ⟨rfl, rfl, _, rfl, p, C, dx, _, _, rfl, e.same _ _ hp, T.cl, T.nT, mf_t _ _ _, ts, rfl, ⟨_, SqT.of hbs⟩, fun D2 hD2 => lc_fill (walk_tup (xs := bs.map V.ref)) (fun _ => False) (fun _ => True) (fun j _ v => ∃ z, (single st (i : Int))[j]? = some z ∧ v = .int z) hD2 (by rw [List.length_map]; omega) (fun z => z) (fun _ _ _ _ => trivial)
        (fun _ _ _ _ _ _ _ h => h) trivial (fun H2 e2 _ => SqT.of (e2.same _ _ hbs)) (fun j x2 H2 H2' hj e2 _ _ hy2 Q2 k2 => ?_) mono_yes (mono_name 1) (fun H2 acc2 e2 _ hd2 hl2 hr2 => ?_)⟩
      · obtain ⟨rfl, hx2⟩ := hy2
        obtain ⟨b, hb, rfl⟩ := get_ref hx2
        obtain ⟨r, hr', hrb⟩ := pd_at1 pbs hb
        have hlt : i < r.length := by
          rw [(M.row r (List.mem_of_getElem? hr')).1]
          exact hi
        have e0 : (0 : Int) + (i : Int) = ((i : Nat) : Int) := Int.zero_add _
        refine ⟨rfl, rfl, _, rfl, _, rfl, b, _, _, .int r[i], rfl, rfl, (hrb.same e2.same).sq, ?_, k2 _ _ (Ex.refl _ _) trivial ⟨_, ?_, rfl⟩⟩
        · rw [e0]
          exact atI_nat (by rw [List.getElem?_map, List.getElem?_eq_getElem hlt]; rfl)
        · unfold single
          rw [List.getElem?_map, hr']
          show some (r.getD (i : Int).toNat 0) = some r[i]
          rw [Int.toNat_natCast, List.getD_eq_getElem?_getD, List.getElem?_eq_getElem hlt]
          rfl
      · have ea : acc2 = (single st (i : Int)).map V.int := lst_int (by rw [hl2, List.length_map, hbl]; unfold single; rw [List.length_map, M.len]) hr2
        refine .inl ⟨D2, acc2, rfl, SqL.of hd2, fun t ht => k _ _ (Ex.of (e2.same.trans (same_new ht))) trivial ⟨t, single st i, ?_, rfl, ?_⟩⟩
        · rw [List.getElem?_map, cmds_get hi]
          rfl
        · show upd _ t _ t = _
          rw [upd_same, ea]
    · have pr : Paired (fun v r => ∃ a, v = V.ref a ∧ TI H' a r) acc ((cmds c).map (single st)) := pd_of (by rw [hl2, List.length_map, cmds_length]) fun i v r h1 h2 => by
        obtain ⟨t', r', e1, e2, h⟩ := hr2 i v h1
        rw [h2] at e1
        cases e1
        exact ⟨t', e2, h⟩
      obtain ⟨as, ea, pa⟩ := pd_refs pr
      exact q _ _ e.same hD ⟨as, by rw [hd, ea], pa⟩
/-! ### is_effect -/
def okV (n : Nat) : V → Bool
  | .int i => decide (0 ≤ i ∧ i < n)
  | _ => false
def effB (n : Nat) (xs : List V) : Bool := decide (xs.length = n) && xs.all (okV n)
/-- what is no tuple -/
inductive NotTup (H : Hp) : V → Prop where
  | non : NotTup H .non
  | int (i : Int) : NotTup H (.int i)
  | str (z : Str) : NotTup H (.str z)
  | dict {a : Addr} {kvs : List (Key × V)} (h : H a = some (.dK kvs)) : NotTup H (.ref a)
def spIsEff (C : Addr) : Sp := fun vs H Q _ => ∃ (p : Addr) (x : V) (n c : Nat) (st : List (List Int)), vs = [.ref p, x] ∧ MachAt C H p n c st ∧
  ((∃ (t : Addr) (xs : List V), x = .ref t ∧ H t = some (.tup xs) ∧ (∀ y ∈ xs, ∃ b, Plain y b) ∧ ∀ H', Same H H' → Q (.bl (effB n xs)) H') ∨ (NotTup H x ∧ ∀ H', Same H H' → Q (.bl false) H'))
theorem scIsEff : FnScope ["machine", "value", "state"] ["machine", "value"] (defScope tIsEffect) := ⟨rfl, rfl, rfl, by decide +kernel, rfl, by decide +kernel, by decide +kernel⟩
theorem has_isEff (B : Bi mg) (T : MC K mg C) (G3 : Has P w K mg base 3 "is_index" ["value", "many"] spIsIdx) (D : Df K mg "is_effect" tIsEffect) : Has P w K mg base 4 "is_effect" ["machine", "value"] (spIsEff C) := by
  refine D.has (fun F => F.ok scIsEff (fun vs H Q E h => ?_) (fun cdv A outer s H vs Q E hr h => ?_)) (fun F => F.binds fun _ _ _ _ _ _ us hl => match us, hl with | [_, _], _ => rfl)
  · obtain ⟨p, x, n, c, st, rfl, _⟩ := h
    rfl
  · obtain ⟨p, x, n, c, st, rfl, hM, h⟩ := h
    refine ⟨_, pss_cons (ps_if (PW.pt (pw_or (pt_not (pt_val (pe_callB call_isi (by rfl) B.isinstance (by decide +kernel) (pa_cons (pv 1) (pa_cons (pe_bltn (v := .ty "tuple") (by rfl) B.tuple (by decide +kernel) rfl) pa_nil)))))
        (pw_or1 (pt_cmpR op_ne (pe_callB call_len_seq (by rfl) B.len PySem.boot_len (pa_cons (pv 1) pa_nil)) (pe_fld (pv 0) rfl) (nomark _))))) (pss_one (ps_ret pe_bl)) pss_nil)
      (pss_one (ps_ret (pe_callB (cr_all rfl) (by rfl) B.all (by decide +kernel) (pa_cons (pe_lc (own := [("state", 2)]) (g := gName 2) (te := tCl spIsIdx (tCons (tVar 2) (tCons (tFld K (tVar 0) "states") tNil))) (by rfl) scIsEff.nd (pi_tup (pv 1)) (blkOk_by (own := [("state", 2)]) (N := ["machine", "value", "state"]) (sc := defScope tIsEffect) (by decide +kernel))
            (fun _ _ _ _ _ => pg_name (i := 2) scIsEff.nd rfl (Or.inl rfl)) (fun _ _ _ _ _ => pts_nil) (fun _ _ _ _ _ => by exact (pe_h G3 hr (by decide) (pa_cons (pv 2) (pa_cons (pe_fld (pv 0) rfl) pa_nil))))) pa_nil)))), ?_⟩
    obtain ⟨dx, ts, hp, hts, M, hn, hc⟩ := id hM
    rcases h with ⟨t, xs, rfl, ht, hx, q⟩ | ⟨hx, q⟩
    · refine ⟨_, rfl, _, _, _, _, _, rfl, .ty _, .base (.tup ht), kit_ty (by decide +kernel), true, rfl, iteF ?_⟩
      refine ⟨_, rfl, _, _, rfl, .inr (SqT.of ht), _, rfl, p, C, dx, _, _, rfl, hp, T.cl, T.nS, mf_n _ _ _, rfl, _, rfl, ?_⟩
      by_cases hl : xs.length = n
      · refine iteNF (by rw [hl]) ?_
        refine ⟨_, rfl, t, rfl, ⟨_, SqT.of ht⟩, fun Dl hD => lc_fill (walk_tup (xs := xs)) (fun _ => False) (fun _ => True) (fun i _ v => ∃ y, xs[i]? = some y ∧ v = .bl (okV n y)) hD (by omega) (fun z => z) (fun _ _ _ _ => trivial)
          (fun _ _ _ _ _ _ _ h => h) trivial (fun H' e _ => SqT.of (e.same _ _ ht)) (fun i y H' H'' hi e _ _ hy Q k => ?_) mono_yes (mono_name 2) (fun H' acc e _ hd hl2 hr2 => ?_)⟩
        · obtain ⟨rfl, hy⟩ := hy
          refine ⟨rfl, rfl, _, rfl, _, rfl, p, C, dx, _, _, rfl, e.same _ _ hp, T.cl, T.nS, mf_n _ _ _, y, n, rfl, ?_⟩
          obtain ⟨b, hb⟩ := hx y (List.mem_of_getElem? hy)
          have fin := k (.bl (okV n y)) H'' (Ex.refl _ _) trivial ⟨y, hy, rfl⟩
          cases hb with
          | int z => exact .inl ⟨z, rfl, fin⟩
          | non => exact .inr ⟨.non, fin⟩
          | str z => exact .inr ⟨.str z, fin⟩
        · have ea : acc = (xs.map (okV n)).map V.bl := by
            refine List.ext_getElem? fun i => ?_
            rw [List.getElem?_map, List.getElem?_map]
            cases e : acc[i]? with
            | none =>
              have := List.getElem?_eq_none_iff.mp e
              rw [List.getElem?_eq_none (by omega)]
              rfl
            | some v =>
              obtain ⟨y, hy, rfl⟩ := hr2 i v e
              rw [hy]
              rfl
          rw [ea] at hd
          refine ⟨Dl, _, rfl, SqL.of hd, ?_⟩
          have e1 : (xs.map (okV n)).all id = effB n xs := by
            unfold effB
            rw [decide_eq_true hl, List.all_map]
            rfl
          rw [e1]
          exact q _ e.same
      · refine iteNT (fun z => hl ?_) ?_
        · injection z with z
          omega
        · have e1 : effB n xs = false := by
            unfold effB
            rw [decide_eq_false hl]
            rfl
          rw [e1] at q
          exact q _ (Same.refl H)
    · cases hx with
      | non => exact ⟨_, rfl, _, _, _, _, _, rfl, .ty _, .base .non, kit_ty (by decide +kernel), false, rfl, iteT (q _ (Same.refl H))⟩
      | int i => exact ⟨_, rfl, _, _, _, _, _, rfl, .ty _, .base (.int i), kit_ty (by decide +kernel), false, rfl, iteT (q _ (Same.refl H))⟩
      | str z => exact ⟨_, rfl, _, _, _, _, _, rfl, .ty _, .base (.str z), kit_ty (by decide +kernel), false, rfl, iteT (q _ (Same.refl H))⟩
      | dict hk => exact ⟨_, rfl, _, _, _, _, _, rfl, .ty _, .base (.dK hk), kit_ty (by decide +kernel), false, rfl, iteT (q _ (Same.refl H))⟩
end
end K02

set_option Elab.async false
set_option linter.all false
set_option maxRecDepth 100000
set_option maxHeartbeats 4000000
namespace K02
open PySem L2
abbrev tFirst : Stmt := top 20
section
variable {P : Program} {w : World} {K : PySem.W.Frag} {mg : Str → Option Value} {base : Heap} {C : Addr}
/-! ### a dict from ints to rows -/
def EntK (H : Hp) (kv : Key × V) (p : Int × Row) : Prop := kv.1 = Sum.inl p.1 ∧ ∃ t, kv.2 = .ref t ∧ TI H t p.2
def DictK (H : Hp) (d : Addr) (Bs : List (Int × Row)) : Prop := ∃ kvs : List (Key × V), H d = some (.dK kvs) ∧ Paired (EntK H) kvs Bs
theorem entK_ex {H H' : Hp} {d : Addr} {kv : Key × V} {p : Int × Row} (h : EntK H kv p) (e : Ex (fun b => b = d) H H') (hd : ∃ o, H d = some o ∧ ∀ xs, o ≠ .tup xs) : EntK H' kv p := by
  obtain ⟨h1, t, h2, h3⟩ := h
  obtain ⟨o, ho, hn⟩ := hd
  refine ⟨h1, t, h2, e _ _ (fun z => ?_) h3⟩
  have h3 : H t = _ := h3
  rw [z, ho] at h3
  exact hn _ (Option.some.inj h3)
theorem DictK.same {H H' : Hp} {d : Addr} {Bs : List (Int × Row)} (h : DictK H d Bs) (s : Same H H') : DictK H' d Bs :=
  let ⟨kvs, h1, h2⟩ := h; ⟨kvs, s _ _ h1, pd_imp (fun _ _ ⟨q1, t, q2, q3⟩ => ⟨q1, t, q2, q3.same s⟩) h2⟩
theorem valV_none {H : Hp} {a : Int} : ∀ {kvs : List (Key × V)} {Bs : List (Int × Row)}, Paired (EntK H) kvs Bs → look Bs a = none → valV kvs (Sum.inl a) = none
  | _, _, .nil, _ => rfl
  | _, _, @Paired.cons _ _ _ kv p kvs Bs ⟨h1, _⟩ t, h => by
    unfold look at h
    by_cases e : p.1 = a
    · rw [List.find?_cons_of_pos (by simpa using e)] at h
      cases h
    · rw [List.find?_cons_of_neg (by simpa using e)] at h
      rw [valV_neg (by rw [h1]; intro z; injection z with z; exact e z)]
      exact valV_none t h
theorem valV_some {H : Hp} {a : Int} {r : Row} : ∀ {kvs : List (Key × V)} {Bs : List (Int × Row)}, Paired (EntK H) kvs Bs → look Bs a = some r → ∃ t, valV kvs (Sum.inl a) = some (.ref t) ∧ TI H t r
  | _, _, .nil, h => by cases h
  | _, _, @Paired.cons _ _ _ kv p kvs Bs ⟨h1, t0, h2, h3⟩ t, h => by
    unfold look at h
    by_cases e : p.1 = a
    · rw [List.find?_cons_of_pos (by simpa using e)] at h
      have h := Option.some.inj h
      rw [valV_pos (by rw [h1, e])]
      exact ⟨t0, by rw [h2], by rw [← h]; exact h3⟩
    · rw [List.find?_cons_of_neg (by simpa using e)] at h
      rw [valV_neg (by rw [h1]; intro z; injection z with z; exact e z)]
      exact valV_some t h
/-- t + (k,) of a row -/
theorem catA {K : PySem.W.Frag} {H : Hp} {a b : Addr} {r q : List Int} {Q : VK} (ha : TI H a r) (hb : TI H b q) (hz : r.length + q.length ≤ sizeLine) (k : ∀ H' t, Same H H' → TI H' t (r ++ q) → Q (.ref t) H') : rCatA K (.ref a) (.ref b) H Q := by
  refine ⟨a, b, _, _, rfl, rfl, ha.sq, hb.sq, by rw [List.length_map, List.length_map]; exact hz, fun e => ?_, fun e1 e2 => ?_, fun _ _ t ht => ?_⟩
  · have : r = [] := List.map_eq_nil_iff.mp e
    subst this
    exact k H b (Same.refl H) hb
  · have : q = [] := List.map_eq_nil_iff.mp e2
    subst this
    refine k H a (Same.refl H) ?_
    rw [List.append_nil]
    exact ha
  · refine k _ t (same_new ht) ?_
    show upd _ t _ t = _
    rw [upd_same, List.map_append]
/-- Same, and what was made new stays apart -/
theorem same_put {H0 H : Hp} {a : Addr} {o : HO} (s : Same H0 H) (h : H0 a = none) : Same H0 (upd H a o) := fun b u e => by
  rw [upd_ne (ne_of_none e h)]
  exact s b u e
def spFirst (C : Addr) : Sp := fun vs H Q _ => ∃ (p : Addr) (a : Int) (n c : Nat) (st : List (List Int)), vs = [.ref p, .int a] ∧ MachAt C H p n c st ∧ a ∈ cmds n ∧
  ∀ H' d, Same H H' → DictK H' d (full c (stp st) a n) → Q (.ref d) H'
theorem scFirst : FnScope ["machine", "start", "rows", "fresh", "later", "state", "command", "behind"] ["machine", "start"] (defScope tFirst) := ⟨rfl, rfl, rfl, by decide +kernel, rfl, by decide +kernel, by decide +kernel⟩
theorem has_first (B : Bi mg) (T : MC K mg C) (D : Df K mg "first_rows" tFirst) : Has P w K mg base 1 "first_rows" ["machine", "start"] (spFirst C) := by
  refine D.has (fun F => F.ok scFirst (fun vs H Q E h => ?_) (fun cdv A outer s H vs Q E hr h => ?_)) (fun F => F.binds fun _ _ _ _ _ _ us hl => match us, hl with | [_, _], _ => rfl)
  · obtain ⟨p, a, n, c, st, rfl, _⟩ := h
    rfl
  · obtain ⟨p, a, n, c, st, rfl, hM, ha, q⟩ := h
    have hu := hu_of hr
    refine ⟨_, pss_cons (ps_par (i := 2) (j := 3) (by rfl) scFirst.nd rfl rfl (by decide) rfl rfl (pa_cons (pe_disp (pps_cons (pv 1) (pe_tup pa_nil) pps_nil) (by rfl) (by rfl) (fun z => by cases z) (by decide)) (pa_cons (pe_lst (pa_cons (pv 1) pa_nil)) pa_nil)) (by rfl))
      (pss_cons (ps_while PassesOwn.never (pt_cmpR op_gt (pe_callB call_len_seq (by rfl) B.len PySem.boot_len (pa_cons (pv 3) pa_nil)) pe_int (nomark _))
        (pss_cons (ps_set (i := 4) scFirst.nd rfl (Or.inl rfl) (pe_lst pa_nil))
        (pss_cons (ps_for PassesOwn.never rfl (pi_list (pv 3)) (pg_name (i := 5) scFirst.nd rfl (Or.inl rfl))
          (pss_one (ps_for PassesOwn.never rfl (pi_enumT (by rfl) B.enumerate (pa_cons (pe_ix ix_tup (pe_fld (pv 0) rfl) (pv 5) (fun _ _ => rfl)) pa_nil)) (pg_tup rfl (pgs_cons (pg_name (i := 6) scFirst.nd rfl (Or.inl rfl)) (pgs_cons (pg_name (i := 7) scFirst.nd rfl (Or.inl rfl)) pgs_nil)))
            (pss_one (ps_if (pt_cmp (pc_dnotin hu (pv 7) (pv 2)))
              (pss_cons (ps_dput hu (pv 2) (pv 7) (pe_op op_catA (pe_dget hu (pv 2) (pv 5) (fun _ _ => rfl)) (pe_tup (pa_cons (pv 6) pa_nil))) rfl)
                (pss_one (ps_expr (pe_bm PySem.F.plainAttrs_list PySem.F.slot_list_append PySem.F.type_list_append mt_append (pv 4) (pa_cons (pv 7) pa_nil))))) pss_nil)))))
        (pss_one (ps_set (i := 3) scFirst.nd rfl (Or.inl rfl) (pv 4))))))
      (pss_one (ps_ret (pv 2)))), ?_⟩
    obtain ⟨dx, ts, hp, hts, M, hn, hc⟩ := id hM
    have hin : ∀ L, ∀ x ∈ keys (full c (stp st) a L), x ∈ cmds n := full_P c (stp st) a (fun x => x ∈ cmds n) ha fun x hx k hk => M.stp_in hx hk
    have hend : fresh c (stp st) a n = [] := by
      have := fresh_end c (stp st) a (cmds n) hin
      rw [cmds_length] at this
      exact this
    have hlen : ∀ L, (full c (stp st) a L).length ≤ 100 := fun L => by
      have := pigeon _ (cmds n) (full_nodup c (stp st) a L) (hin L)
      rw [cmds_length, List.length_map] at this
      omega
    have big : 11000 < sizeLine := by decide
    -- rows, fresh = {start: ()}, [start]
    intro d hd
    refine ⟨_, rfl, Nat.zero_le _, fun t0 ht0 => ?_⟩
    have hdt : d ≠ t0 := ne_of_none upd_same ht0
    refine ⟨(upd_ne hdt).trans upd_same, [(Sum.inl a, .ref t0)], rfl, by show 1 ≤ 15; decide, ?_⟩
    refine ⟨_, rfl, by show 1 ≤ sizeLine; omega, fun f0 hf0 => ⟨_, _, rfl, ?_⟩⟩
    have ht0' : H t0 = none := by
      rw [upd_ne hdt.symm] at ht0
      exact ht0
    have hm : mergeK [] [((Sum.inl a : Key), V.ref t0)] = [(Sum.inl a, .ref t0)] := rfl
    rw [hm] at hf0 ⊢
    generalize hH1 : upd (upd (upd (upd H d (.dK [])) t0 (.tup [])) d (.dK [(Sum.inl a, .ref t0)])) f0 (.lst [.int a]) = H1
    have hfd : d ≠ f0 := ne_of_none upd_same hf0
    have hft : t0 ≠ f0 := ne_of_none (by rw [upd_ne hdt.symm, upd_same]) hf0
    have hf0' : H f0 = none := by
      rw [upd_ne hfd.symm, upd_ne hft.symm, upd_ne hfd.symm] at hf0
      exact hf0
    have s1 : Same H H1 := by
      rw [← hH1]
      exact same_put (same_put (same_put (same_put (Same.refl H) hd) ht0') hd) hf0'
    refine ⟨fun m σ H' => ∃ (L : Nat) (f : Addr) (v4 v5 v6 v7 : Option V), m = n - L ∧ L ≤ n ∧ σ = [some (.ref p), some (.int a), some (.ref d), some (.ref f), v4, v5, v6, v7] ∧ Same H H' ∧ DictK H' d (full c (stp st) a L) ∧ H' f = some (.lst ((keys (fresh c (stp st) a L)).map V.int)),
      ⟨n - 0, 0, f0, none, none, none, none, rfl, Nat.zero_le _, rfl, s1, ?_, ?_⟩, ?_⟩
    · refine ⟨[(Sum.inl a, .ref t0)], ?_, .cons ⟨rfl, t0, rfl, ?_⟩ .nil⟩
      · rw [← hH1, upd_ne hfd, upd_same]
      · show H1 t0 = _
        rw [← hH1, upd_ne hft, upd_ne hdt.symm, upd_same]
        rfl
    · rw [← hH1, upd_same]
      rfl
    rintro m σ H2 ⟨L, f, v4, v5, v6, v7, rfl, hL, rfl, s2, hD, hf⟩
    refine ⟨_, rfl, f, _, rfl, .inl (SqL.of hf), _, _, rfl, rfl, _, rfl, ?_⟩
    by_cases hfr : fresh c (stp st) a L = []
    · refine iteDF ?_ ?_
      · rw [hfr]
        exact Int.lt_irrefl 0
      · refine ⟨_, rfl, q _ d s2 ?_⟩
        rw [full_stop2 c (stp st) a hfr hL]
        exact hD
    · have hpos : 0 < (fresh c (stp st) a L).length := List.length_pos_iff.mpr hfr
      have hLn : L < n := by
        rcases Nat.lt_or_ge L n with z | z
        · exact z
        · have e : L = n := by omega
          rw [e] at hfr
          exact absurd hend hfr
      refine iteDT (by rw [List.length_map, List.length_map]; omega) ⟨fun σ' H' => ∃ (f : Addr) (v4 v5 v6 v7 : Option V), σ' = [some (.ref p), some (.int a), some (.ref d), some (.ref f), v4, v5, v6, v7] ∧ Same H H' ∧ DictK H' d (full c (stp st) a (L + 1)) ∧ H' f = some (.lst ((keys (fresh c (stp st) a (L + 1))).map V.int)),
        fun σ' H' ⟨f, v4, v5, v6, v7, h⟩ => ⟨n - (L + 1), by omega, L + 1, f, v4, v5, v6, v7, rfl, hLn, h⟩, ?_⟩
      refine ⟨Nat.zero_le _, fun l hl => ?_⟩
      have hfl : f ≠ l := ne_of_none hf hl
      have hdl : d ≠ l := by
        obtain ⟨kvs, h1, _⟩ := hD
        exact ne_of_none h1 hl
      have hl0 : H l = none := s2.free hl
      have hdf : f ≠ d := by
        obtain ⟨kvs, h1, _⟩ := hD
        exact ne_of hf h1 (by intro z; cases z)
      have s3 : Same H2 (upd H2 l (.lst [])) := same_new hl
      refine ⟨_, rfl, f, rfl, ⟨_, SqL.of (s3 _ _ hf)⟩, for_list (K := K) (a := f) (xs := (keys (fresh c (stp st) a L)).map V.int) (fun i σ H' => ∃ (v5 v6 v7 : Option V), σ = [some (.ref p), some (.int a), some (.ref d), some (.ref f), some (.ref l), v5, v6, v7] ∧ Same H H' ∧ DictK H' d (part c (stp st) a L i) ∧
          H' l = some (.lst ((keys ((part c (stp st) a L i).drop (full c (stp st) a L).length)).map V.int)) ∧ H' f = some (.lst ((keys (fresh c (stp st) a L)).map V.int)))
        ⟨v5, v6, v7, rfl, s2.trans s3, hD.same s3, by rw [upd_same, part_zero, List.drop_length]; rfl, s3 _ _ hf⟩ (fun i σ H' _ ⟨_, _, _, _, _, _, _, h⟩ => SqL.of h) ?_ ?_⟩
      · rintro i x σ H3 hi ⟨v5, v6, v7, rfl, s4, hD3, hl3, hf3⟩
        obtain ⟨z, hz, rfl⟩ := get_int hi
        obtain ⟨pr, hpr, ez⟩ : ∃ pr, (fresh c (stp st) a L)[i]? = some pr ∧ pr.1 = z := by
          unfold keys at hz
          rw [List.getElem?_map] at hz
          exact Option.map_eq_some_iff.mp hz
        subst ez
        have hzin : pr.1 ∈ cmds n := by
          refine hin L _ ?_
          obtain ⟨pre, e⟩ := fresh_sub c (stp st) a L
          rw [e]
          exact List.mem_map.mpr ⟨pr, List.mem_append_right _ (List.mem_of_getElem? hpr), rfl⟩
        obtain ⟨r, hr1, hr2, _⟩ := M.get hzin
        obtain ⟨bs, b, e1, e2, e3⟩ := (hts.same s4).row hr1
        have hrl := (M.row r hr2).1
        have hxl : (r.map V.int).length = c := by rw [List.length_map, hrl]
        refine ⟨_, rfl, p, C, dx, _, _, rfl, s4 _ _ hp, T.cl, T.nT, mf_t _ _ _, _, rfl, ts, _, _, .ref b, rfl, rfl, SqT.of e1, by rw [nat_of hzin]; exact atI_nat e2, b, r.map V.int, rfl, e3.sq,
          for_it (walk_enumT (xs := r.map V.int)) (fun j σ H' => ∃ (v6 v7 : Option V), σ = [some (.ref p), some (.int a), some (.ref d), some (.ref f), some (.ref l), some (.int pr.1), v6, v7] ∧ Same H H' ∧ TI H' b r ∧ DictK H' d (part1 c (stp st) a L i pr j) ∧
            H' l = some (.lst ((keys ((part1 c (stp st) a L i pr j).drop (full c (stp st) a L).length)).map V.int)) ∧ H' f = some (.lst ((keys (fresh c (stp st) a L)).map V.int)))
          ⟨v6, v7, rfl, s4, e3, hD3, hl3, hf3⟩ (fun j σ H' _ ⟨_, _, _, _, h, _⟩ => h.sq) ?_ ?_⟩
        · rintro j x σ H4 H4' hj ⟨v6, v7, rfl, s5, hb5, ⟨kvs, hk, hkv⟩, hl5, hf5⟩ ⟨T5, x', y', rfl, hT, rfl, ex, ey⟩
          have hjc : j < c := by rw [← hxl]; exact hj
          have ex : some (V.int (j : Int)) = some x' := ex
          have ex := Option.some.inj ex
          subst ex
          obtain ⟨z, hz2, rfl⟩ := get_int ey
          have hjin : (j : Int) ∈ cmds c := mem_cmds.mpr ⟨by omega, by omega⟩
          have ez : z = stp st pr.1 (j : Int) := by
            obtain ⟨r', q1, _, q3, _⟩ := M.cell hzin hjin
            rw [hr1] at q1
            cases q1
            rw [Int.toNat_natCast, hz2] at q3
            exact Option.some.inj q3
          have s6 : Same H4 (upd H4 T5 (.tup [.int (j : Int), .int z])) := same_new hT
          refine ⟨T5, _, rfl, SqT.of upd_same, rfl, _, _, rfl, _, _, rfl, rfl, ?_⟩
          generalize hH5 : upd H4 T5 (.tup [.int (j : Int), .int z]) = H5 at s6 ⊢
          have hk5 := s6 _ _ hk
          have hkv5 : Paired (EntK H5) kvs (part1 c (stp st) a L i pr j) := pd_imp (fun _ _ ⟨q1, t, q2, q3⟩ => ⟨q1, t, q2, q3.same s6⟩) hkv
          refine ⟨_, rfl, _, rfl, d, _, rfl, DGet.k (k := Sum.inl z) hk5, _, rfl, ?_⟩
          have hsucc := part1_succ c (stp st) a L i pr hjc
          rw [← ez] at hsucc
          cases hlk : look (part1 c (stp st) a L i pr j) z with
          | none =>
            rw [valV_none hkv5 hlk]
            refine iteT ?_
            obtain ⟨t6, hv6, ht6⟩ := valV_some hkv5 (part1_look c (stp st) a hpr j)
            refine ⟨_, rfl, _, rfl, d, .ref t6, rfl, by rw [← hv6]; exact DGet.k (k := Sum.inl pr.1) hk5, _, rfl, by show 1 ≤ sizeLine; omega, fun t7 ht7 => ?_⟩
            have s7 : Same H5 (upd H5 t7 (.tup [.int (j : Int)])) := same_new ht7
            have rowlen : pr.2.length ≤ 1000 := by
              have h1 := (fresh_row c (stp st) a L (List.mem_of_getElem? hpr)).1
              have h2 := allRows_len c L _ h1
              omega
            refine catA (K := K) (r := pr.2) (q := [(j : Int)]) (ht6.same s7) upd_same (by show pr.2.length + 1 ≤ sizeLine; omega) fun H8 t8 s8 h8 => ?_
            have s9 : Same H5 H8 := s7.trans s8
            have hk8 := s9 _ _ hk5
            have hkl : kvs.length ≤ 10100 := by
              rw [Paired.length hkv5]
              have h1 := part1_le c (stp st) a hpr j (by omega)
              have h2 := hlen L
              have h3 : (full c (stp st) a L).length * c ≤ 100 * 100 := Nat.mul_le_mul h2 hc
              omega
            refine ⟨_, rfl, _, rfl, d, _, rfl, DPut.k (k := Sum.inl z) hk8 (by omega), ?_⟩
            have hmem : z ∉ keys (part1 c (stp st) a L i pr j) := look_none.mp hlk
            have hvn := valV_none hkv5 hlk
            rw [putK_new (.ref t8) hvn]
            have hl8 : upd H8 d (.dK (kvs ++ [(Sum.inl z, .ref t8)])) l = some (.lst ((keys ((part1 c (stp st) a L i pr j).drop (full c (stp st) a L).length)).map V.int)) := by
              rw [upd_ne hdl.symm]
              exact s9 _ _ (s6 _ _ hl5)
            refine ⟨_, rfl, .inl ⟨rfl, _, SqL.of hl8⟩, _, rfl, l, _, _, rfl, rfl, hl8, ?_, ?_⟩
            · rw [List.length_map, List.length_map, List.length_drop]
              have := Paired.length hkv5
              omega
            · have hd0 : H d = none := hd
              have sF : Same H (upd (upd H8 d (.dK (kvs ++ [(Sum.inl z, .ref t8)]))) l (.lst ((keys ((part1 c (stp st) a L i pr j).drop (full c (stp st) a L).length)).map V.int ++ [.int z]))) := same_put (same_put (s5.trans (s6.trans s9)) hd0) hl0
              refine ⟨_, _, rfl, sF, ?_, ?_, ?_, ?_⟩
              · have hb8 := hb5.same (s6.trans s9)
                have n1 : b ≠ d := ne_of hb8 hk8 (by intro z; cases z)
                have n2 : b ≠ l := ne_of hb8 (s9 _ _ (s6 _ _ hl5)) (by intro z; cases z)
                show upd _ l _ b = _
                rw [upd_ne n2, upd_ne n1]
                exact hb8
              · rw [hsucc, scan1_new hmem]
                refine ⟨kvs ++ [(Sum.inl z, .ref t8)], by rw [upd_ne hdl, upd_same], ?_⟩
                have ent : ∀ kv q, EntK H8 kv q → EntK (upd (upd H8 d (.dK (kvs ++ [(Sum.inl z, .ref t8)]))) l (.lst ((keys ((part1 c (stp st) a L i pr j).drop (full c (stp st) a L).length)).map V.int ++ [.int z]))) kv q := fun kv q ⟨q1, t, q2, q3⟩ => by
                  have n1 : t ≠ d := ne_of q3 hk8 (by intro z; cases z)
                  have n2 : t ≠ l := ne_of q3 (s9 _ _ (s6 _ _ hl5)) (by intro z; cases z)
                  refine ⟨q1, t, q2, ?_⟩
                  show upd _ l _ t = _
                  rw [upd_ne n2, upd_ne n1]
                  exact q3
                refine pd_app (pd_imp (fun kv q ⟨q1, t, q2, q3⟩ => ent kv q ⟨q1, t, q2, q3.same s9⟩) hkv5) (.cons (ent _ _ ⟨rfl, t8, rfl, h8⟩) .nil)
              · rw [upd_same, hsucc, drop_scan1 (part1_ge c (stp st) a L i pr j) hmem, List.map_append]
                rfl
              · rw [upd_ne hfl, upd_ne hdf]
                exact s9 _ _ (s6 _ _ hf5)
          | some r0 =>
            obtain ⟨t6, hv6, ht6⟩ := valV_some hkv5 hlk
            rw [hv6]
            refine iteF ⟨_, _, rfl, s5.trans s6, hb5.same s6, ?_, ?_, s6 _ _ hf5⟩
            · have hmem : z ∈ keys (part1 c (stp st) a L i pr j) := Classical.byContradiction fun hno => by
                rw [look_none.mpr hno] at hlk
                cases hlk
              rw [hsucc, scan1_mem hmem]
              exact ⟨kvs, hk5, hkv5⟩
            · have hmem : z ∈ keys (part1 c (stp st) a L i pr j) := Classical.byContradiction fun hno => by
                rw [look_none.mpr hno] at hlk
                cases hlk
              rw [hsucc, scan1_mem hmem]
              exact s6 _ _ hl5
        · rintro σ H4 ⟨v6, v7, rfl, s5, hb5, hD5, hl5, hf5⟩
          rw [hxl, part1_end c (stp st) a hpr] at hD5 hl5
          exact ⟨_, _, _, rfl, s5, hD5, hl5, hf5⟩
      · rintro σ H3 ⟨v5, v6, v7, rfl, s4, hD3, hl3, hf3⟩
        have e : ((keys (fresh c (stp st) a L)).map V.int).length = (fresh c (stp st) a L).length := by rw [List.length_map, List.length_map]
        rw [e, fresh_keys] at hl3
        rw [e, part_end] at hD3
        exact ⟨_, rfl, l, _, _, _, _, rfl, s4, hD3, hl3⟩
end
end K02

set_option Elab.async false
set_option linter.all false
set_option maxRecDepth 100000
set_option maxHeartbeats 4000000
namespace K02
open PySem L2
abbrev tReached : Stmt := top 21
abbrev tReachRow : Stmt := top 22
section
variable {P : Program} {w : World} {K : PySem.W.Frag} {mg : Str → Option Value} {base : Heap} {C : Addr}
/-! ### reached -/
def spReached (C : Addr) : Sp := fun vs H Q _ => ∃ (p : Addr) (a : Int) (n c : Nat) (st : List (List Int)), vs = [.ref p, .int a] ∧ MachAt C H p n c st ∧ a ∈ cmds n ∧
  ∀ H' t ns, Same H H' → ns.Perm (keys (full c (stp st) a n)) → ns.Pairwise (· ≤ ·) → TI H' t ns → Q (.ref t) H'
theorem scReached : FnScope ["machine", "start"] ["machine", "start"] (defScope tReached) := ⟨rfl, rfl, rfl, by decide +kernel, rfl, by decide +kernel, by decide +kernel⟩
theorem has_reached (B : Bi mg) (G : Has P w K mg base 1 "first_rows" ["machine", "start"] (spFirst C)) (D : Df K mg "reached" tReached) : Has P w K mg base 2 "reached" ["machine", "start"] (spReached C) := by
  refine D.has (fun F => F.ok scReached (fun vs H Q E h => ?_) (fun cdv A outer s H vs Q E hr h => ?_)) (fun F => F.binds fun _ _ _ _ _ _ us hl => match us, hl with | [_, _], _ => rfl)
  · obtain ⟨p, a, n, c, st, rfl, _⟩ := h
    rfl
  · obtain ⟨p, a, n, c, st, rfl, hM, ha, q⟩ := h
    refine ⟨_, pss_one (ps_ret (pe_tupleOf (by rfl) B.tuple (pe_callB cr_sortedI (by rfl) B.sorted (by decide +kernel) (pa_cons (pe_callTy (call_list_dK rfl) (by rfl) B.list (by decide +kernel) (pa_cons (pe_h G hr (by decide) (pa_cons (pv 0) (pa_cons (pv 1) pa_nil))) pa_nil)) pa_nil)))), ?_⟩
    refine ⟨_, rfl, _, rfl, p, a, n, c, st, rfl, hM, ha, fun H1 d s1 hD => ?_⟩
    obtain ⟨kvs, hd, hp⟩ := hD
    refine ⟨d, kvs, rfl, hd, fun l hl => ⟨l, keys (full c (stp st) a n), rfl, ?_, fun ns t h1 h2 ht => .inl ⟨t, _, rfl, SqL.of upd_same, fun u hu => q _ u ns ?_ h1 h2 ?_⟩⟩⟩
    · have e : (kvs.map fun kv => kV kv.1) = (keys (full c (stp st) a n)).map V.int := by
        rw [List.map_map]
        exact List.ext_getElem? fun i => by
          rw [List.getElem?_map, List.getElem?_map]
          cases e1 : kvs[i]? with
          | none =>
            have := List.getElem?_eq_none_iff.mp e1
            rw [List.getElem?_eq_none (by rw [← Paired.length hp]; exact this)]
            rfl
          | some kv =>
            obtain ⟨b, h1, h2, _⟩ := pd_at1 hp e1
            rw [h1]
            show some (kV kv.1) = some (V.int b.1)
            rw [h2]
            rfl
      rw [e]
      exact SqL.of upd_same
    · exact (s1.trans (same_new hl)).trans ((same_new ht).trans (same_new hu))
    · show upd _ u _ u = _
      rw [upd_same]
/-! ### reaching_row -/
def spReach (C : Addr) : Sp := fun vs H Q _ => ∃ (p : Addr) (a z : Int) (n c : Nat) (st : List (List Int)) (r : Row), vs = [.ref p, .int a, .int z] ∧ MachAt C H p n c st ∧ a ∈ cmds n ∧ look (full c (stp st) a n) z = some r ∧
  ∀ H' t, Same H H' → TI H' t r → Q (.ref t) H'
theorem scReach : FnScope ["machine", "start", "state", "rows"] ["machine", "start", "state"] (defScope tReachRow) := ⟨rfl, rfl, rfl, by decide +kernel, rfl, by decide +kernel, by decide +kernel⟩
theorem has_reach (G : Has P w K mg base 1 "first_rows" ["machine", "start"] (spFirst C)) (D : Df K mg "reaching_row" tReachRow) : Has P w K mg base 2 "reaching_row" ["machine", "start", "state"] (spReach C) := by
  refine D.has (fun F => F.ok scReach (fun vs H Q E h => ?_) (fun cdv A outer s H vs Q E hr h => ?_)) (fun F => F.binds fun _ _ _ _ _ _ us hl => match us, hl with | [_, _, _], _ => rfl)
  · obtain ⟨p, a, z, n, c, st, r, rfl, _⟩ := h
    rfl
  · obtain ⟨p, a, z, n, c, st, r, rfl, hM, ha, hz, q⟩ := h
    have hu := hu_of hr
    refine ⟨_, pss_cons (ps_set (i := 3) scReach.nd rfl (Or.inl rfl) (pe_h G hr (by decide) (pa_cons (pv 0) (pa_cons (pv 1) pa_nil))))
      (pss_cons (ps_if (pt_cmp (pc_dnotin hu (pv 2) (pv 3))) (pss_one ps_never) pss_nil)
      (pss_one (ps_ret (pe_dget hu (pv 3) (pv 2) (fun _ _ => rfl))))), ?_⟩
    refine ⟨_, rfl, _, rfl, p, a, n, c, st, rfl, hM, ha, fun H1 d s1 hD => ?_⟩
    obtain ⟨kvs, hd, hp⟩ := hD
    obtain ⟨t, hv, ht⟩ := valV_some hp hz
    have hg : DGet H1 d (.int z) (some (.ref t)) := by rw [← hv]; exact DGet.k (k := Sum.inl z) hd
    exact ⟨_, rfl, _, rfl, d, _, rfl, hg, _, rfl, iteF ⟨_, rfl, _, rfl, d, .ref t, rfl, hg, q _ t s1 ht⟩⟩
/-- where the state is not reached: Refused(0) -/
def spReachX (C R : Addr) : Sp := fun vs H _ E => ∃ (p : Addr) (a z : Int) (n c : Nat) (st : List (List Int)), vs = [.ref p, .int a, .int z] ∧ MachAt C H p n c st ∧ a ∈ cmds n ∧ look (full c (stp st) a n) z = none ∧
  ∀ H' d, Same H H' → H d = none → H' d = some (.xd [(("at" : Str), .int 0)]) → E (.ref R) (some d) H'
theorem ok_reachX {f R fI cc : Addr} {fd : FuncData} (T : RTxt P K mg R fI cc) (G : Has P w K mg base 1 "first_rows" ["machine", "start"] (spFirst C)) (F : Fun K "reaching_row" "reaching_row" tReachRow f fd) : FnOk P w K mg base (L2.CX P w) 3 f fd ["machine", "start", "state"] (spReachX C R) := by
  refine F.okX scReach (fun vs H Q E h => ?_) (fun cdv A outer s H vs Q E hr h => ?_)
  · obtain ⟨p, a, z, n, c, st, rfl, _⟩ := h
    rfl
  · obtain ⟨p, a, z, n, c, st, rfl, hM, ha, hz, q⟩ := h
    have hu := hu_of hr
    refine ⟨_, pss_cons (ps_set (i := 3) scReach.nd rfl (Or.inl rfl) (pe_h G hr (by decide) (pa_cons (pv 0) (pa_cons (pv 1) pa_nil))))
      (pss_cons (ps_if (pt_cmp (pc_dnotin hu (pv 2) (pv 3))) (pss_one (ps_raiseR (W := fun cls d _ H => E cls d H) rfl T hr (takes_of rfl rfl rfl rfl) (by exact (pa_cons pe_int pa_nil)))) pss_nil)
      pss_never), ?_⟩
    refine ⟨_, rfl, _, rfl, p, a, n, c, st, rfl, hM, ha, fun H1 d s1 hD => ?_⟩
    obtain ⟨kvs, hd, hp⟩ := hD
    have hv := valV_none hp hz
    have hg : DGet H1 d (.int z) none := by rw [← hv]; exact DGet.k (k := Sum.inl z) hd
    refine ⟨_, rfl, _, rfl, d, _, rfl, hg, _, rfl, ?_⟩
    exact iteT ⟨_, rfl, fun e he => q _ e (s1.trans (same_new he)) (s1.free he) upd_same⟩
end
end K02

set_option Elab.async false
set_option linter.all false
set_option maxRecDepth 100000
set_option maxHeartbeats 8000000
namespace K02
open PySem L2
abbrev tRowFor : Stmt := top 19
section
variable {P : Program} {w : World} {K : PySem.W.Frag} {mg : Str → Option Value} {base : Heap} {C : Addr}
/-! ### a dict from effects to rows -/
def kk (ns : List Int) : List Key := ns.map Sum.inl
theorem kk_map (ns : List Int) : (kk ns).map kV = ns.map V.int := by
  unfold kk
  rw [List.map_map]
  rfl
theorem kk_inj : ∀ {a b : List Int}, kk a = kk b → a = b
  | [], [], _ => rfl
  | [], _ :: _, h => by cases h
  | _ :: _, [], h => by cases h
  | x :: a, y :: b, h => by
    have h1 := (List.cons.inj h).1
    have h2 := kk_inj (a := a) (b := b) (List.cons.inj h).2
    injection h1 with h1
    rw [h1, h2]
def EntT (H : Hp) (kv : List Key × V) (p : List Int × Row) : Prop := kv.1 = kk p.1 ∧ ∃ t, kv.2 = .ref t ∧ TI H t p.2
def DictT (H : Hp) (d : Addr) (Bs : List (List Int × Row)) : Prop := ∃ kvs : List (List Key × V), H d = some (.dT kvs) ∧ Paired (EntT H) kvs Bs
theorem DictT.same {H H' : Hp} {d : Addr} {Bs : List (List Int × Row)} (h : DictT H d Bs) (s : Same H H') : DictT H' d Bs :=
  let ⟨kvs, h1, h2⟩ := h; ⟨kvs, s _ _ h1, pd_imp (fun _ _ ⟨q1, t, q2, q3⟩ => ⟨q1, t, q2, q3.same s⟩) h2⟩
theorem valT_none {H : Hp} {a : List Int} : ∀ {kvs : List (List Key × V)} {Bs : List (List Int × Row)}, Paired (EntT H) kvs Bs → look Bs a = none → valV kvs (kk a) = none
  | _, _, .nil, _ => rfl
  | _, _, @Paired.cons _ _ _ kv p kvs Bs ⟨h1, _⟩ t, h => by
    unfold look at h
    by_cases e : p.1 = a
    · rw [List.find?_cons_of_pos (by simpa using e)] at h
      cases h
    · rw [List.find?_cons_of_neg (by simpa using e)] at h
      rw [valV_neg (by rw [h1]; intro z; exact e (kk_inj z))]
      exact valT_none t h
theorem valT_some {H : Hp} {a : List Int} {r : Row} : ∀ {kvs : List (List Key × V)} {Bs : List (List Int × Row)}, Paired (EntT H) kvs Bs → look Bs a = some r → ∃ t, valV kvs (kk a) = some (.ref t) ∧ TI H t r
  | _, _, .nil, h => by cases h
  | _, _, @Paired.cons _ _ _ kv p kvs Bs ⟨h1, t0, h2, h3⟩ t, h => by
    unfold look at h
    by_cases e : p.1 = a
    · rw [List.find?_cons_of_pos (by simpa using e)] at h
      have h := Option.some.inj h
      rw [valV_pos (by rw [h1, e])]
      exact ⟨t0, by rw [h2], by rw [← h]; exact h3⟩
    · rw [List.find?_cons_of_neg (by simpa using e)] at h
      rw [valV_neg (by rw [h1]; intro z; exact e (kk_inj z))]
      exact valT_some t h
theorem ti_kk {H : Hp} {b : Addr} {ns : List Int} (h : TI H b ns) : H b = some (.tup ((kk ns).map kV)) := by
  rw [kk_map]
  exact h
def RowV (H : Hp) (y : V) : Option Row → Prop
  | none => y = .non
  | some r => ∃ t, y = .ref t ∧ TI H t r
theorem effB_yes {n : Nat} {wn : List Int} (h : wn ∈ allRows n n) : effB n (wn.map V.int) = true := by
  obtain ⟨h1, h2⟩ := (mem_allRows n n wn).mp h
  unfold effB
  rw [List.length_map, decide_eq_true h1, List.all_map]
  show List.all _ _ = true
  exact List.all_eq_true.mpr fun x hx => decide_eq_true (mem_cmds.mp (h2 x hx))
theorem cmds_eff (n : Nat) : cmds n ∈ allRows n n := (mem_allRows n n _).mpr ⟨cmds_length n, fun _ h => h⟩
theorem rgV_cmds (n : Nat) : rgV 0 (n : Int) = (cmds n).map V.int := by
  unfold rgV cmds
  rw [show ((n : Int) - 0).toNat = n by omega, List.map_map]
  refine List.map_congr_left fun i _ => ?_
  show V.int (0 + (i : Int)) = V.int (i : Int)
  rw [Int.zero_add]
def spRow (C : Addr) : Sp := fun vs H Q _ => ∃ (p : Addr) (x : V) (n c : Nat) (st : List (List Int)), vs = [.ref p, x] ∧ MachAt C H p n c st ∧
  ((∃ (t : Addr) (wn : List Int) (N : Nat), x = .ref t ∧ TI H t wn ∧ wn ∈ allRows n n ∧ N ≤ 1000 ∧ (∀ L, L ≤ N → (full c (effStep st) (cmds n) L).length ≤ 1000) ∧ (fresh c (effStep st) (cmds n) N = [] ∨ wn ∈ keys (full c (effStep st) (cmds n) N)) ∧
      ∀ H' y, Same H H' → RowV H' y (look (full c (effStep st) (cmds n) N) wn) → Q y H') ∨
   (∃ (t : Addr) (xs : List V), x = .ref t ∧ H t = some (.tup xs) ∧ (∀ y ∈ xs, ∃ b, Plain y b) ∧ effB n xs = false ∧ ∀ H', Same H H' → Q .non H') ∨
   (NotTup H x ∧ ∀ H', Same H H' → Q .non H'))
theorem scRow : FnScope ["machine", "wanted", "start", "singles", "rows", "fresh", "later", "one", "command", "other", "behind"] ["machine", "wanted"] (defScope tRowFor) := ⟨rfl, rfl, rfl, by decide +kernel, rfl, by decide +kernel, by decide +kernel⟩
theorem has_row (B : Bi mg) (T : MC K mg C) (G1 : Has P w K mg base 4 "is_effect" ["machine", "value"] (spIsEff C)) (G2 : Has P w K mg base 1 "single_effects" ["machine"] (spSingle C)) (G3 : Has P w K mg base 1 "followed" ["one", "other"] spFollowed)
    (D : Df K mg "row_for" tRowFor) : Has P w K mg base 5 "row_for" ["machine", "wanted"] (spRow C) := by
  refine D.has (fun F => F.ok scRow (fun vs H Q E h => ?_) (fun cdv A outer s H vs Q E hr h => ?_)) (fun F => F.binds fun _ _ _ _ _ _ us hl => match us, hl with | [_, _], _ => rfl)
  · obtain ⟨p, x, n, c, st, rfl, _⟩ := h
    rfl
  · obtain ⟨p, x, n, c, st, rfl, hM, h⟩ := h
    have hu := hu_of hr
    refine ⟨_, pss_cons (ps_if (pt_not (pt_val (pe_h G1 hr (by decide) (pa_cons (pv 0) (pa_cons (pv 1) pa_nil))))) (pss_one (ps_ret pe_non)) pss_nil)
      (pss_cons (ps_par (i := 2) (j := 3) (by rfl) scRow.nd rfl rfl (by decide) rfl rfl (pa_cons (pe_tupRg rfl (by rfl) B.tuple (prg_1 rfl B.range (pe_fld (pv 0) rfl))) (pa_cons (pe_h G2 hr (by decide) (pa_cons (pv 0) pa_nil)) pa_nil)) (by rfl))
      (pss_cons (ps_par (i := 4) (j := 5) (by rfl) scRow.nd rfl rfl (by decide) rfl rfl (pa_cons (pe_disp1 hu (pv 2) (pe_tup pa_nil)) (pa_cons (pe_lst (pa_cons (pv 2) pa_nil)) pa_nil)) (by rfl))
      (pss_cons (ps_while PassesOwn.never (PW.pt (pw_and (pt_cmpR op_gt (pe_callB call_len_seq (by rfl) B.len PySem.boot_len (pa_cons (pv 5) pa_nil)) pe_int (nomark _)) (pw_and1 (pt_cmp (pc_dnotin hu (pv 1) (pv 4))))))
        (pss_cons (ps_set (i := 6) scRow.nd rfl (Or.inl rfl) (pe_lst pa_nil))
        (pss_cons (ps_for PassesOwn.never rfl (pi_list (pv 5)) (pg_name (i := 7) scRow.nd rfl (Or.inl rfl))
          (pss_one (ps_for PassesOwn.never rfl (pi_enum (by rfl) B.enumerate (pa_cons (pv 3) pa_nil)) (pg_tup rfl (pgs_cons (pg_name (i := 8) scRow.nd rfl (Or.inl rfl)) (pgs_cons (pg_name (i := 9) scRow.nd rfl (Or.inl rfl)) pgs_nil)))
            (pss_cons (ps_set (i := 10) scRow.nd rfl (Or.inl rfl) (pe_h G3 hr (by decide) (pa_cons (pv 7) (pa_cons (pv 9) pa_nil))))
            (pss_one (ps_if (pt_cmp (pc_dnotin hu (pv 10) (pv 4)))
              (pss_cons (ps_dput hu (pv 4) (pv 10) (pe_op op_catA (pe_dget hu (pv 4) (pv 7) (fun _ _ => rfl)) (pe_tup (pa_cons (pv 8) pa_nil))) rfl)
                (pss_one (ps_expr (pe_bm PySem.F.plainAttrs_list PySem.F.slot_list_append PySem.F.type_list_append mt_append (pv 6) (pa_cons (pv 10) pa_nil))))) pss_nil))))))
        (pss_one (ps_set (i := 5) scRow.nd rfl (Or.inl rfl) (pv 6))))))
      (pss_one (ps_ret (pe_dget1 hu (pv 4) (pv 1) ⟨by rfl, by rfl, by rfl, by rfl⟩)))))), ?_⟩
    rcases h with ⟨t, wn, N, rfl, ht, hw, hN, hlen, hend, q⟩ | ⟨t, xs, rfl, ht, hx, hb, q⟩ | ⟨hx, q⟩
    · refine ⟨_, rfl, _, rfl, p, _, n, c, st, rfl, hM, .inl ⟨t, _, rfl, ht, ?_, fun H1 s1 => ?_⟩⟩
      · intro y hy
        obtain ⟨z, _, rfl⟩ := List.mem_map.mp hy
        exact ⟨true, .int z⟩
      rw [effB_yes hw]
      refine ⟨true, rfl, iteF ?_⟩
      obtain ⟨dx, ts, hp, hts, M, hn, hc⟩ := id hM
      have hp1 := s1 _ _ hp
      have hin : ∀ L, ∀ x ∈ keys (full c (effStep st) (cmds n) L), x ∈ allRows n n := full_P c (effStep st) (cmds n) (fun x => x ∈ allRows n n) (cmds_eff n) fun x hx k hk => M.step_in hx hk
      have big : 200000 < sizeLine := by decide
      -- start, singles
      refine ⟨_, rfl, p, C, dx, _, _, rfl, hp1, T.cl, T.nS, mf_n _ _ _, n, rfl, RgOk.of_le (by omega) (by omega) (by omega) (by omega), fun s0 hs0 => ?_⟩
      have s2 : Same H1 (upd H1 s0 (.tup (rgV 0 n))) := same_new hs0
      refine ⟨_, rfl, p, n, c, st, rfl, hM.same (s1.trans s2), fun H2 sg s3 _ hsg => ⟨_, _, rfl, ?_⟩⟩
      have st2 : TI H2 s0 (cmds n) := by
        refine s3 _ _ ?_
        rw [upd_same, rgV_cmds]
      have sA : Same H H2 := s1.trans (s2.trans s3)
      have ht2 := ht.same sA
      -- rows, fresh
      intro d hd
      refine ⟨_, rfl, Nat.zero_le _, fun t0 ht0 => ?_⟩
      have hdt : d ≠ t0 := ne_of_none upd_same ht0
      have ht0' : H2 t0 = none := by
        rw [upd_ne hdt.symm] at ht0
        exact ht0
      refine ⟨(upd_ne hdt).trans upd_same, s0, kk (cmds n), rfl, ?_, ?_⟩
      · exact ti_kk ((st2.same (same_new hd)).same (same_new ht0))
      refine ⟨_, rfl, by show 1 ≤ sizeLine; omega, fun f0 hf0 => ⟨_, _, rfl, ?_⟩⟩
      generalize hH3 : upd (upd (upd (upd H2 d (.dT [])) t0 (.tup [])) d (.dT [(kk (cmds n), .ref t0)])) f0 (.lst [.ref s0]) = H3
      have hfd : d ≠ f0 := ne_of_none upd_same hf0
      have hft : t0 ≠ f0 := ne_of_none (by rw [upd_ne hdt.symm, upd_same]) hf0
      have hf0' : H2 f0 = none := by
        rw [upd_ne hfd.symm, upd_ne hft.symm, upd_ne hfd.symm] at hf0
        exact hf0
      have s4 : Same H2 H3 := by
        rw [← hH3]
        exact same_put (same_put (same_put (same_put (Same.refl H2) hd) ht0') hd) hf0'
      refine ⟨fun m σ H' => ∃ (L : Nat) (f : Addr) (v6 v7 v8 v9 v10 : Option V), m = N - L ∧ L ≤ N ∧ σ = [some (.ref p), some (.ref t), some (.ref s0), some (.ref sg), some (.ref d), some (.ref f), v6, v7, v8, v9, v10] ∧ Same H2 H' ∧ DictT H' d (full c (effStep st) (cmds n) L) ∧ LsT H' f (keys (fresh c (effStep st) (cmds n) L)),
        ⟨N - 0, 0, f0, none, none, none, none, none, rfl, Nat.zero_le _, rfl, s4, ?_, ?_⟩, ?_⟩
      · refine ⟨[(kk (cmds n), .ref t0)], ?_, .cons ⟨rfl, t0, rfl, ?_⟩ .nil⟩
        · rw [← hH3, upd_ne hfd, upd_same]
        · show H3 t0 = _
          rw [← hH3, upd_ne hft, upd_ne hdt.symm, upd_same]
          rfl
      · refine ⟨[s0], ?_, .cons (st2.same s4) .nil⟩
        rw [← hH3, upd_same]
        rfl
      rintro m σ H4 ⟨L, f, v6, v7, v8, v9, v10, rfl, hL, rfl, s5, hD, hf⟩
      obtain ⟨fs, hfs, pfs⟩ := id hf
      have hfl : fs.length = (fresh c (effStep st) (cmds n) L).length := by
        rw [Paired.length pfs]
        exact List.length_map _
      have fin : ∀ (H' : Hp), Same H2 H' → DictT H' d (full c (effStep st) (cmds n) L) → look (full c (effStep st) (cmds n) L) wn = look (full c (effStep st) (cmds n) N) wn → IsD H' d ∧ ∃ o, DGet H' d (.ref t) o ∧ Q (o.getD .non) H' := fun H' s6 ⟨kvs, hk, hkv⟩ e => by
        refine ⟨.inr ⟨kvs, .inl hk⟩, _, DGet.t hk (ti_kk (ht2.same s6)), ?_⟩
        refine q H' _ (sA.trans s6) ?_
        rw [← e]
        cases hlk : look (full c (effStep st) (cmds n) L) wn with
        | none => rw [valT_none hkv hlk]; exact rfl
        | some r =>
          obtain ⟨u, h1, h2⟩ := valT_some hkv hlk
          rw [h1]
          exact ⟨u, rfl, h2⟩
      refine ⟨_, rfl, f, _, rfl, .inl (SqL.of hfs), _, _, rfl, rfl, _, rfl, ?_⟩
      by_cases hfr : fresh c (effStep st) (cmds n) L = []
      · refine iteDF ?_ ?_
        · rw [List.length_map, hfl, hfr]
          exact Int.lt_irrefl 0
        · obtain ⟨g1, o, g2, g3⟩ := fin H4 s5 hD (by rw [full_stop2 c (effStep st) (cmds n) hfr hL])
          exact ⟨_, rfl, d, rfl, g1, _, rfl, o, g2, g3⟩
      · have hpos : 0 < (fresh c (effStep st) (cmds n) L).length := List.length_pos_iff.mpr hfr
        refine iteDT (by rw [List.length_map, hfl]; omega) ?_
        obtain ⟨kvs, hk, hkv⟩ := id hD
        refine ⟨_, rfl, _, rfl, d, _, rfl, DGet.t hk (ti_kk (ht2.same s5)), _, rfl, ?_⟩
        cases hlw : look (full c (effStep st) (cmds n) L) wn with
        | some r =>
          obtain ⟨u, h1, h2⟩ := valT_some hkv hlw
          rw [h1]
          refine iteF ?_
          obtain ⟨g1, o, g2, g3⟩ := fin H4 s5 hD (by
            obtain ⟨rr, e⟩ := full_prefix c (effStep st) (cmds n) hL
            rw [e, look_append, hlw]
            rfl)
          exact ⟨_, rfl, d, rfl, g1, _, rfl, o, g2, g3⟩
        | none =>
          rw [valT_none hkv hlw]
          have hLn : L < N := by
            rcases Nat.lt_or_ge L N with z | z
            · exact z
            · have e : L = N := by omega
              rw [e] at hfr hlw
              rcases hend with z | z
              · exact absurd z hfr
              · exact absurd z (look_none.mp hlw)
          refine iteT ⟨fun σ' H' => ∃ (f : Addr) (v6 v7 v8 v9 v10 : Option V), σ' = [some (.ref p), some (.ref t), some (.ref s0), some (.ref sg), some (.ref d), some (.ref f), v6, v7, v8, v9, v10] ∧ Same H2 H' ∧ DictT H' d (full c (effStep st) (cmds n) (L + 1)) ∧ LsT H' f (keys (fresh c (effStep st) (cmds n) (L + 1))),
            fun σ' H' ⟨f, v6, v7, v8, v9, v10, h⟩ => ⟨N - (L + 1), by omega, L + 1, f, v6, v7, v8, v9, v10, rfl, hLn, h⟩, ?_⟩
          refine ⟨Nat.zero_le _, fun l hl => ?_⟩
          have hfl' : f ≠ l := ne_of_none hfs hl
          have hdl : d ≠ l := ne_of_none hk hl
          have hl0 : H2 l = none := s5.free hl
          have hdf : f ≠ d := ne_of hfs hk (by intro z; cases z)
          have s6 : Same H4 (upd H4 l (.lst [])) := same_new hl
          refine ⟨_, rfl, f, rfl, ⟨_, SqL.of (s6 _ _ hfs)⟩, for_list (K := K) (a := f) (xs := fs.map V.ref) (fun i σ H' => ∃ (v7 v8 v9 v10 : Option V), σ = [some (.ref p), some (.ref t), some (.ref s0), some (.ref sg), some (.ref d), some (.ref f), some (.ref l), v7, v8, v9, v10] ∧ Same H2 H' ∧ DictT H' d (part c (effStep st) (cmds n) L i) ∧
              LsT H' l (keys ((part c (effStep st) (cmds n) L i).drop (full c (effStep st) (cmds n) L).length)) ∧ H' f = some (.lst (fs.map V.ref)) ∧ Paired (TI H') fs (keys (fresh c (effStep st) (cmds n) L)))
            ⟨v7, v8, v9, v10, rfl, s5.trans s6, hD.same s6, ⟨[], by rw [upd_same]; rfl, by rw [part_zero, List.drop_length]; exact .nil⟩, s6 _ _ hfs, pd_imp (fun _ _ h => h.same s6) pfs⟩ (fun i σ H' _ ⟨_, _, _, _, _, _, _, _, h, _⟩ => SqL.of h) ?_ ?_⟩
          · rintro i x σ H5 hi ⟨v7, v8, v9, v10, rfl, s7, hD5, hl5, hf5, pf5⟩
            obtain ⟨b, hb, rfl⟩ := get_ref hi
            obtain ⟨z, hz, hbz⟩ := pd_at1 pf5 hb
            obtain ⟨pr, hpr, ez⟩ : ∃ pr, (fresh c (effStep st) (cmds n) L)[i]? = some pr ∧ pr.1 = z := by
              unfold keys at hz
              rw [List.getElem?_map] at hz
              exact Option.map_eq_some_iff.mp hz
            subst ez
            have hzin : pr.1 ∈ allRows n n := by
              refine hin L _ ?_
              obtain ⟨pre, e⟩ := fresh_sub c (effStep st) (cmds n) L
              rw [e]
              exact List.mem_map.mpr ⟨pr, List.mem_append_right _ (List.mem_of_getElem? hpr), rfl⟩
            obtain ⟨hz1, hz2⟩ := (mem_allRows n n _).mp hzin
            obtain ⟨gs, hgs, pgs⟩ := id (hsg.same s7)
            have hgl : gs.length = c := by
              rw [Paired.length pgs, List.length_map, cmds_length]
            refine ⟨_, rfl, sg, gs.map V.ref, rfl, SqL.of hgs,
              for_it (walk_enum (xs := gs.map V.ref)) (fun j σ H' => ∃ (v8 v9 v10 : Option V), σ = [some (.ref p), some (.ref t), some (.ref s0), some (.ref sg), some (.ref d), some (.ref f), some (.ref l), some (.ref b), v8, v9, v10] ∧ Same H2 H' ∧ TI H' b pr.1 ∧ H' sg = some (.lst (gs.map V.ref)) ∧ Paired (TI H') gs ((cmds c).map (single st)) ∧ DictT H' d (part1 c (effStep st) (cmds n) L i pr j) ∧
                LsT H' l (keys ((part1 c (effStep st) (cmds n) L i pr j).drop (full c (effStep st) (cmds n) L).length)) ∧ H' f = some (.lst (fs.map V.ref)) ∧ Paired (TI H') fs (keys (fresh c (effStep st) (cmds n) L)))
              ⟨v8, v9, v10, rfl, s7, hbz, hgs, pgs, hD5, hl5, hf5, pf5⟩ (fun j σ H' _ ⟨_, _, _, _, _, _, h, _⟩ => SqL.of h) ?_ ?_⟩
            · rintro j x σ H6 H6' hj ⟨v8, v9, v10, rfl, s8, hb6, hg6, pg6, hD6, hl6, hf6, pf6⟩ ⟨T5, x', y', rfl, hT, rfl, ex, ey⟩
              have hjc : j < c := by
                rw [List.length_map, hgl] at hj
                exact hj
              have ex : some (V.int (j : Int)) = some x' := ex
              have ex := Option.some.inj ex
              subst ex
              obtain ⟨g, hg, rfl⟩ := get_ref ey
              obtain ⟨w1, hw1, hgw⟩ := pd_at1 pg6 hg
              have ew : w1 = single st (j : Int) := by
                rw [List.getElem?_map, cmds_get hjc] at hw1
                exact (Option.some.inj hw1).symm
              subst ew
              have hjin : (j : Int) ∈ cmds c := mem_cmds.mpr ⟨by omega, by omega⟩
              have s9 : Same H6 (upd H6 T5 (.tup [.int (j : Int), .ref g])) := same_new hT
              refine ⟨T5, _, rfl, SqT.of upd_same, rfl, _, _, rfl, _, _, rfl, rfl, ?_⟩
              refine ⟨_, rfl, _, rfl, b, g, n, pr.1, single st (j : Int), rfl, hb6.same s9, hgw.same s9, ?_, by omega, hz2, fun H7 bh s10 hbh => ?_⟩
              · unfold single
                rw [List.length_map]
                exact M.len
              rw [M.fol_single hz2] at hbh
              have s11 : Same H6 H7 := s9.trans s10
              obtain ⟨kv6, hk6, hkv6⟩ := hD6
              obtain ⟨ls, hls, pls⟩ := hl6
              have hk7 := s11 _ _ hk6
              have hls7 := s11 _ _ hls
              have hkv7 : Paired (EntT H7) kv6 (part1 c (effStep st) (cmds n) L i pr j) := pd_imp (fun _ _ ⟨q1, t, q2, q3⟩ => ⟨q1, t, q2, q3.same s11⟩) hkv6
              have pls7 := pd_imp (fun _ _ h => TI.same h s11) pls
              refine ⟨_, rfl, _, rfl, d, _, rfl, DGet.t hk7 (ti_kk hbh), _, rfl, ?_⟩
              have hsucc := part1_succ c (effStep st) (cmds n) L i pr hjc
              cases hlk : look (part1 c (effStep st) (cmds n) L i pr j) (effStep st pr.1 (j : Int)) with
              | none =>
                rw [valT_none hkv7 hlk]
                refine iteT ?_
                obtain ⟨t6, hv6, ht6⟩ := valT_some hkv7 (part1_look c (effStep st) (cmds n) hpr j)
                refine ⟨_, rfl, _, rfl, d, .ref t6, rfl, by rw [← hv6]; exact DGet.t hk7 (ti_kk (hb6.same s11)), _, rfl, by show 1 ≤ sizeLine; omega, fun t7 ht7 => ?_⟩
                have s12 : Same H7 (upd H7 t7 (.tup [.int (j : Int)])) := same_new ht7
                have rowlen : pr.2.length ≤ 1000 := by
                  have h1 := (fresh_row c (effStep st) (cmds n) L (List.mem_of_getElem? hpr)).1
                  have h2 := allRows_len c L _ h1
                  omega
                refine catA (K := K) (r := pr.2) (q := [(j : Int)]) (ht6.same s12) upd_same (by show pr.2.length + 1 ≤ sizeLine; omega) fun H8 t8 s13 h8 => ?_
                have s14 : Same H7 H8 := s12.trans s13
                have hk8 := s14 _ _ hk7
                have hls8 := s14 _ _ hls7
                have hkl : kv6.length ≤ 101000 := by
                  rw [Paired.length hkv7]
                  have h1 := part1_le c (effStep st) (cmds n) hpr j (by omega)
                  have h2 := hlen L hL
                  have h3 : (full c (effStep st) (cmds n) L).length * c ≤ 1000 * 100 := Nat.mul_le_mul h2 hc
                  omega
                refine ⟨_, rfl, _, rfl, d, _, rfl, DPut.t hk8 (ti_kk (hbh.same s14)) (by omega), ?_⟩
                have hmem : effStep st pr.1 (j : Int) ∉ keys (part1 c (effStep st) (cmds n) L i pr j) := look_none.mp hlk
                rw [putK_new (.ref t8) (valT_none hkv7 hlk)]
                generalize hH9 : upd H8 d (.dT (kv6 ++ [(kk (effStep st pr.1 (j : Int)), .ref t8)])) = H9
                have hl9 : H9 l = some (.lst (ls.map V.ref)) := by
                  rw [← hH9, upd_ne hdl.symm]
                  exact hls8
                refine ⟨_, rfl, .inl ⟨rfl, _, SqL.of hl9⟩, _, rfl, l, _, _, rfl, rfl, hl9, ?_, ?_⟩
                · rw [List.length_map, Paired.length pls, List.length_map, List.length_drop]
                  have := Paired.length hkv7
                  omega
                · have sF : Same H2 (upd H9 l (.lst (ls.map V.ref ++ [.ref bh]))) := by
                    rw [← hH9]
                    exact same_put (same_put (s8.trans (s11.trans s14)) hd) hl0
                  have tiF : ∀ (b : Addr) (ns : List Int), TI H8 b ns → TI (upd H9 l (.lst (ls.map V.ref ++ [.ref bh]))) b ns := fun b ns h => by
                    have n1 : b ≠ d := ne_of h hk8 (by intro z; cases z)
                    have n2 : b ≠ l := ne_of h hls8 (by intro z; cases z)
                    show upd _ l _ b = _
                    rw [upd_ne n2, ← hH9, upd_ne n1]
                    exact h
                  have s15 : Same H6 H8 := s11.trans s14
                  have ent : ∀ kv q, EntT H8 kv q → EntT (upd H9 l (.lst (ls.map V.ref ++ [.ref bh]))) kv q := fun kv q ⟨q1, t, q2, q3⟩ => ⟨q1, t, q2, tiF _ _ q3⟩
                  have hgl' : sg ≠ l := ne_of_none (hsg.choose_spec.1) hl0
                  have hgd : sg ≠ d := ne_of_none (hsg.choose_spec.1) hd
                  refine ⟨_, _, _, rfl, sF, tiF _ _ (hb6.same s15), ?_, pd_imp (fun _ _ h => tiF _ _ (h.same s15)) pg6, ?_, ?_, ?_, pd_imp (fun _ _ h => tiF _ _ (h.same s15)) pf6⟩
                  · rw [upd_ne hgl', ← hH9, upd_ne hgd]
                    exact s15 _ _ hg6
                  · rw [hsucc, scan1_new hmem]
                    refine ⟨_, by rw [upd_ne hdl, ← hH9, upd_same], pd_app (pd_imp (fun kv q ⟨q1, t, q2, q3⟩ => ent kv q ⟨q1, t, q2, q3.same s14⟩) hkv7) (.cons (ent _ _ ⟨rfl, t8, rfl, h8⟩) .nil)⟩
                  · rw [hsucc, drop_scan1 (part1_ge c (effStep st) (cmds n) L i pr j) hmem]
                    refine ⟨ls ++ [bh], ?_, pd_app (pd_imp (fun _ _ h => tiF _ _ (h.same s14)) pls7) (.cons (tiF _ _ (hbh.same s14)) .nil)⟩
                    rw [upd_same, List.map_append]
                    rfl
                  · rw [upd_ne hfl', ← hH9, upd_ne hdf]
                    exact s15 _ _ hf6
              | some r0 =>
                obtain ⟨t6, hv6, ht6⟩ := valT_some hkv7 hlk
                rw [hv6]
                have hmem : effStep st pr.1 (j : Int) ∈ keys (part1 c (effStep st) (cmds n) L i pr j) := Classical.byContradiction fun hno => by
                  rw [look_none.mpr hno] at hlk
                  cases hlk
                rw [hsucc, scan1_mem hmem]
                exact iteF ⟨_, _, _, rfl, s8.trans s11, hb6.same s11, s11 _ _ hg6, pd_imp (fun _ _ h => TI.same h s11) pg6, ⟨kv6, hk7, hkv7⟩, ⟨ls, hls7, pls7⟩, s11 _ _ hf6, pd_imp (fun _ _ h => TI.same h s11) pf6⟩
            · rintro σ H6 ⟨v8, v9, v10, rfl, s8, hb6, hg6, pg6, hD6, hl6, hf6, pf6⟩
              rw [List.length_map, hgl, part1_end c (effStep st) (cmds n) hpr] at hD6 hl6
              exact ⟨_, _, _, _, rfl, s8, hD6, hl6, hf6, pf6⟩
          · rintro σ H5 ⟨v7, v8, v9, v10, rfl, s7, hD5, hl5, hf5, pf5⟩
            rw [List.length_map, hfl] at hD5 hl5
            rw [fresh_keys] at hl5
            rw [part_end] at hD5
            exact ⟨_, rfl, l, _, _, _, _, _, rfl, s7, hD5, hl5⟩
    · refine ⟨_, rfl, _, rfl, p, _, n, c, st, rfl, hM, .inl ⟨t, _, rfl, ht, hx, fun H1 s1 => ?_⟩⟩
      rw [hb]
      exact ⟨false, rfl, iteT (q _ s1)⟩
    · exact ⟨_, rfl, _, rfl, p, _, n, c, st, rfl, hM, .inr ⟨hx, fun H1 s1 => ⟨false, rfl, iteT (q _ s1)⟩⟩⟩
end
end K02

set_option Elab.async false
set_option linter.all false
set_option maxRecDepth 100000
set_option maxHeartbeats 8000000
namespace K02
open PySem L2
abbrev tEffs : Stmt := top 17
/-! ### ascending lists of effects -/
theorem code_one {B : Int} : ∀ {a b : List Int}, a.length = b.length → TS.Bd B a → TS.Bd B b → TS.code B a = TS.code B b → a = b
  | [], [], _, _, _, _ => rfl
  | [], _ :: _, h, _, _, _ => by simp at h
  | _ :: _, [], h, _, _, _ => by simp at h
  | x :: a, y :: b, h, ha, hb, e => by
    have hl : a.length = b.length := by simpa using h
    rcases Int.lt_trichotomy x y with c | c | c
    · have := TS.code_lt hl ha.tail hb.tail c
      omega
    · subst c
      have e2 : TS.code B a = TS.code B b := by
        have e' : x * B ^ a.length + TS.code B a = x * B ^ b.length + TS.code B b := e
        rw [hl] at e'
        omega
      rw [code_one hl ha.tail hb.tail e2]
    · have := TS.code_lt hl.symm hb.tail ha.tail c
      omega
structure EffL (n c : Nat) (st : List (List Int)) (L : Nat) (l : List (List Int)) : Prop where
  up : l.Pairwise fun x y => TS.code n x < TS.code n y
  mem : ∀ x, x ∈ l ↔ x ∈ effs st n c L
theorem EffL.unique {n c : Nat} {st : List (List Int)} {L : Nat} {l l' : List (List Int)} (h : EffL n c st L l) (h' : EffL n c st L l') : l = l' := up_unique h.up h'.up fun x => (h.mem x).trans (h'.mem x).symm
theorem EffL.nodup {n c : Nat} {st : List (List Int)} {L : Nat} {l : List (List Int)} (h : EffL n c st L l) : l.Nodup := h.up.imp fun {a b} hab e => by
  rw [e] at hab
  exact absurd hab (Int.lt_irrefl _)
theorem eff_bd {n : Nat} {x : List Int} (h : x ∈ allRows n n) : x.length = n ∧ TS.Bd (n : Int) x := by
  obtain ⟨h1, h2⟩ := (mem_allRows n n x).mp h
  exact ⟨h1, fun m hm => mem_cmds.mp (h2 m hm)⟩
/-- a sorted set of effects -/
theorem EffL.of {n c : Nat} {st : List (List Int)} {L : Nat} (M : Mach n c st) {T : List (Addr × List Int)} (nd : (T.map (·.2)).Nodup) (up : T.Pairwise fun q r => TS.code n q.2 ≤ TS.code n r.2) (mem : ∀ x, x ∈ T.map (·.2) ↔ x ∈ effs st n c L) : EffL n c st L (T.map (·.2)) := by
  refine ⟨?_, mem⟩
  have h1 : (T.map (·.2)).Pairwise fun x y => TS.code n x ≤ TS.code n y := List.pairwise_map.mpr up
  refine List.Pairwise.imp_of_mem (fun {a b} ha hb h => ?_) (List.Pairwise.and nd h1)
  obtain ⟨hne, hle⟩ := h
  obtain ⟨a1, a2⟩ := eff_bd (M.effs_in ((mem a).mp ha))
  obtain ⟨b1, b2⟩ := eff_bd (M.effs_in ((mem b).mp hb))
  rcases Int.lt_or_eq_of_le hle with z | z
  · exact z
  · exact absurd (code_one (a1.trans b1.symm) a2 b2 z) hne
theorem EffL.zero {n c : Nat} {st : List (List Int)} : EffL n c st 0 [cmds n] := ⟨List.pairwise_singleton _ _, fun x => by rw [effs_zero]⟩
/-- the members of a set, tracked -/
def SetV (P : Program) (w : World) (H : Hp) (D : Addr) (T : List (Addr × List Int)) : Prop := H D = some (SetTO P w D T) ∧ (∀ p ∈ T, TI H p.1 p.2) ∧ (T.map (·.2)).Nodup
theorem added_keys {T T' : List (Addr × List Int)} {b : Addr} {q : List Int} (a : Added T T' b q) (nd : (T.map (·.2)).Nodup) : (T'.map (·.2)).Nodup ∧ ∀ x, x ∈ T'.map (·.2) ↔ x ∈ T.map (·.2) ∨ x = q := by
  by_cases c : q ∈ T.map (·.2)
  · rw [a.1 c]
    exact ⟨nd, fun x => ⟨.inl, fun z => z.elim id fun z => by rw [z]; exact c⟩⟩
  · have pm := (a.2 c).map (·.2)
    refine ⟨pm.nodup_iff.mpr (List.nodup_cons.mpr ⟨c, nd⟩), fun x => ?_⟩
    rw [pm.mem_iff, List.map_cons, List.mem_cons]
    exact Or.comm
theorem added_sub {T T' : List (Addr × List Int)} {b : Addr} {q : List Int} (a : Added T T' b q) : ∀ p ∈ T', p ∈ T ∨ p = (b, q) := fun p hp => by
  by_cases c : q ∈ T.map (·.2)
  · rw [a.1 c] at hp
    exact .inl hp
  · rcases List.mem_cons.mp ((a.2 c).mem_iff.mp hp) with z | z
    · exact .inr z
    · exact .inl z
theorem LsT.ti {H : Hp} {bs : List Addr} {l : List (List Int)} (h : Paired (TI H) bs l) {i : Nat} {b : Addr} (e : bs[i]? = some b) : ∃ x, l[i]? = some x ∧ TI H b x := pd_at1 h e
theorem hu8_of {A : Around} {k : Nat} (hr : Room k A) : A.units + 8 < cLine := by
  have := hr.un
  omega
theorem pd_pairs {H : Hp} : ∀ {T : List (Addr × List Int)}, (∀ p ∈ T, TI H p.1 p.2) → Paired (TI H) (T.map (·.1)) (T.map (·.2))
  | [], _ => .nil
  | p :: T, h => .cons (h p List.mem_cons_self) (pd_pairs fun q hq => h q (List.mem_cons_of_mem _ hq))
theorem map_refs (T : List (Addr × List Int)) : (T.map fun q => V.ref q.1) = (T.map (·.1)).map V.ref := by
  rw [List.map_map]
  rfl
theorem setTO_tup {P : Program} {w : World} {D : Addr} {T : List (Addr × List Int)} {xs : List V} : HO.tup xs ≠ SetTO P w D T := by
  intro z
  unfold SetTO at z
  cases z
section
variable {P : Program} {w : World} {K : PySem.W.Frag} {mg : Str → Option Value} {base : Heap} {C : Addr}
def spEffs (C : Addr) : Sp := fun vs H Q _ => ∃ (p : Addr) (n c L : Nat) (st : List (List Int)), vs = [.ref p, .int L] ∧ MachAt C H p n c st ∧ L ≤ 1000 ∧ Few st n c ∧ ∀ H' t l, Same H H' → EffL n c st L l → TuT H' t l → Q (.ref t) H'
theorem scEffs : FnScope ["machine", "length", "found", "singles", "turn", "one", "other"] ["machine", "length"] (defScope tEffs) := ⟨rfl, rfl, rfl, by decide +kernel, rfl, by decide +kernel, by decide +kernel⟩
theorem has_effs (B : Bi mg) (T : MC K mg C) (G2 : Has P w K mg base 1 "single_effects" ["machine"] (spSingle C)) (G3 : Has P w K mg base 1 "followed" ["one", "other"] spFollowed) (D : Df K mg "effects_of_length" tEffs) : Has P w K mg base 2 "effects_of_length" ["machine", "length"] (spEffs C) := by
  refine D.has (fun F => F.ok scEffs (fun vs H Q E h => ?_) (fun cdv A outer s H vs Q E hr h => ?_)) (fun F => F.binds fun _ _ _ _ _ _ us hl => match us, hl with | [_, _], _ => rfl)
  · obtain ⟨p, n, c, L, st, rfl, _⟩ := h
    rfl
  · obtain ⟨p, n, c, L, st, rfl, hM, hL, few, q⟩ := h
    refine ⟨_, pss_cons (ps_asg (pe_tup (pa_cons (pe_lst (pa_cons (pe_tupRg rfl (by rfl) B.tuple (prg_1 rfl B.range (pe_fld (pv 0) rfl))) pa_nil)) (pa_cons (pe_h G2 hr (by decide) (pa_cons (pv 0) pa_nil)) pa_nil))) (pg_tup rfl (pgs_cons (pg_name (i := 2) scEffs.nd rfl (Or.inl rfl)) (pgs_cons (pg_name (i := 3) scEffs.nd rfl (Or.inr rfl)) pgs_nil))))
      (pss_cons (ps_for PassesOwn.never rfl (pi_range1 rfl B.range (pa_cons (pv 1) pa_nil)) (pg_name (i := 4) scEffs.nd rfl (Or.inl rfl))
        (pss_one (ps_set (i := 2) scEffs.nd rfl (Or.inl rfl) (pe_callB (cr_sortedT rfl) (by rfl) B.sorted (by decide +kernel) (pa_cons
          (pe_sc2 (own := [("one", 5), ("other", 6)]) (vs1 := [6]) (wi := iList K (tVar 2)) (wi1 := iList K (tVar 3)) (g := gName 5) (g1 := gName 6) (te := tCl spFollowed (tCons (tVar 5) (tCons (tVar 6) tNil))) (hu8_of hr) rfl scEffs.nd (pi_list (pv 2))
            (blkOk_by (own := [("one", 5), ("other", 6)]) (N := ["machine", "length", "found", "singles", "turn", "one", "other"]) (sc := defScope tEffs) (by decide +kernel)) (by decide)
            (fun _ _ _ _ _ => pg_name (i := 5) scEffs.nd rfl (Or.inl rfl)) (fun _ _ _ _ _ => by exact (pi_list (pv 3))) (fun _ _ _ _ _ => pg_name (i := 6) scEffs.nd rfl (Or.inl rfl)) (fun _ _ _ _ _ => by exact (pe_h G3 hr (by decide) (pa_cons (pv 5) (pa_cons (pv 6) pa_nil))))) pa_nil)))))
      (pss_one (ps_ret (pe_tupleOf (by rfl) B.tuple (pv 2))))), ?_⟩
    obtain ⟨dx, ts, hp, hts, M, hn, hc⟩ := id hM
    have hn0 := M.pos
    refine ⟨_, rfl, p, C, dx, _, _, rfl, hp, T.cl, T.nS, mf_n _ _ _, n, rfl, RgOk.of_le (by omega) (by omega) (by omega) (by omega), fun s0 hs0 => ?_⟩
    have s1 : Same H (upd H s0 (.tup (rgV 0 n))) := same_new hs0
    refine ⟨by show 1 ≤ sizeLine; decide, fun f0 hf0 => ?_⟩
    generalize hH1 : upd (upd H s0 (.tup (rgV 0 n))) f0 (.lst [.ref s0]) = H1
    have s2 : Same H H1 := by
      rw [← hH1]
      exact s1.trans (same_new hf0)
    refine ⟨_, rfl, p, n, c, st, rfl, hM.same s2, fun H2 sg s3 _ hsg => ⟨by show 2 ≤ sizeLine; decide, fun tp htp => ?_⟩⟩
    have s4 : Same H2 (upd H2 tp (.tup [.ref f0, .ref sg])) := same_new htp
    refine ⟨tp, _, rfl, SqT.of upd_same, rfl, _, _, rfl, _, _, rfl, rfl, ?_⟩
    generalize hH3 : upd H2 tp (.tup [.ref f0, .ref sg]) = H3 at s4 ⊢
    have sA : Same H H3 := s2.trans (s3.trans s4)
    have hsg3 := hsg.same s4
    have hf3 : LsT H3 f0 [cmds n] := by
      have e0 : TI H1 s0 (cmds n) := by
        show H1 s0 = _
        rw [← hH1, upd_ne (ne_of_none upd_same hf0), upd_same, rgV_cmds]
      refine ⟨[s0], (s3.trans s4) _ _ ?_, .cons (e0.same (s3.trans s4)) .nil⟩
      rw [← hH1, upd_same]
      rfl
    refine ⟨_, rfl, _, rfl, by omega, by omega, for_it (walk_range (lo := 0) (n := L)) (fun i σ H' => ∃ (f : Addr) (l : List (List Int)) (v4 : Option V), σ = [some (.ref p), some (.int L), some (.ref f), some (.ref sg), v4, none, none] ∧ Same H3 H' ∧ LsT H' f l ∧ EffL n c st i l)
      ⟨f0, _, none, rfl, Same.refl _, hf3, EffL.zero⟩ (fun _ _ _ _ _ => trivial) ?_ ?_⟩
    · rintro i x σ H50 H5 hi ⟨f, l, v4, rfl, s5, ⟨as, has, pas⟩, hl⟩ ⟨rfl, rfl⟩
      obtain ⟨gs, hgs, pgs⟩ := hsg3.same s5
      have hgl : gs.length = c := by rw [Paired.length pgs, List.length_map, cmds_length]
      have hal : as.length = l.length := Paired.length pas
      have lin : ∀ a ∈ l, a ∈ allRows n n := fun a ha => M.effs_in ((hl.mem a).mp ha)
      refine ⟨_, rfl, f, rfl, ⟨_, SqL.of has⟩, fun D hD => ?_⟩
      refine ⟨fun i m H' => m = as.length - i ∧ i ≤ as.length ∧ Same H5 H' ∧ ∃ T, SetV P w H' D T ∧ ∀ x, x ∈ T.map (·.2) ↔ ∃ a ∈ l.take i, ∃ k ∈ cmds c, x = effStep st a k, ⟨_, rfl, Nat.zero_le _, same_new hD, [], ⟨upd_same, (fun p hp => nomatch hp), List.nodup_nil⟩, fun x => ⟨fun z => (nomatch z), fun ⟨a, ha, _⟩ => by rw [List.take_zero] at ha; cases ha⟩⟩, ?_⟩
      rintro i1 m H' ⟨rfl, hi1, s6, T1, hT1, mem1⟩
      by_cases hlt : i1 < as.length
      · refine .inr ⟨⟨as.map V.ref, .ref as[i1], SqL.of (s6 _ _ has), by simp [hlt]⟩, fun H' => Same H5 H' ∧ ∃ T, SetV P w H' D T ∧ ∀ x, x ∈ T.map (·.2) ↔ ∃ a ∈ l.take (i1 + 1), ∃ k ∈ cmds c, x = effStep st a k, fun H' h => ⟨as.length - (i1 + 1), by omega, rfl, hlt, h⟩, ?_⟩
        rintro x H'' ⟨rfl, hy⟩
        have hx := hy _ (SqL.of (s6 _ _ has))
        obtain ⟨a, ha, rfl⟩ := get_ref hx
        obtain ⟨av, hav, hta⟩ := pd_at1 pas ha
        have hain := lin av (List.mem_of_getElem? hav)
        obtain ⟨ha1, ha2⟩ := (mem_allRows n n av).mp hain
        refine ⟨rfl, _, rfl, sg, rfl, ⟨_, SqL.of (s6 _ _ hgs)⟩, ?_⟩
        refine ⟨fun j m H' => m = gs.length - j ∧ j ≤ gs.length ∧ Same H5 H' ∧ ∃ T, SetV P w H' D T ∧ ∀ x, x ∈ T.map (·.2) ↔ (∃ a ∈ l.take i1, ∃ k ∈ cmds c, x = effStep st a k) ∨ ∃ k ∈ (cmds c).take j, x = effStep st av k, ⟨_, rfl, Nat.zero_le _, s6, T1, hT1, fun x => (mem1 x).trans ⟨.inl, fun z => z.elim id fun ⟨k, hk, _⟩ => by rw [List.take_zero] at hk; cases hk⟩⟩, ?_⟩
        rintro j m H6 ⟨rfl, hj, s7, T2, hT2, mem2⟩
        by_cases hjl : j < gs.length
        · refine .inr ⟨⟨gs.map V.ref, .ref gs[j], SqL.of (s7 _ _ hgs), by simp [hjl]⟩, fun H' => Same H5 H' ∧ ∃ T, SetV P w H' D T ∧ ∀ x, x ∈ T.map (·.2) ↔ (∃ a ∈ l.take i1, ∃ k ∈ cmds c, x = effStep st a k) ∨ ∃ k ∈ (cmds c).take (j + 1), x = effStep st av k, fun H' h => ⟨gs.length - (j + 1), by omega, rfl, hjl, h⟩, ?_⟩
          rintro x H7 ⟨rfl, hy⟩
          have hx := hy _ (SqL.of (s7 _ _ hgs))
          obtain ⟨g, hg, rfl⟩ := get_ref hx
          obtain ⟨gv, hgv, htg⟩ := pd_at1 pgs hg
          have hjc : j < c := by omega
          have hjk : (cmds c)[j]? = some (j : Int) := cmds_get hjc
          have hjin : (j : Int) ∈ cmds c := List.mem_of_getElem? hjk
          have eg : gv = single st (j : Int) := by
            rw [List.getElem?_map, hjk] at hgv
            exact (Option.some.inj hgv).symm
          subst eg
          refine ⟨rfl, _, rfl, _, rfl, a, g, n, av, single st (j : Int), rfl, hta.same s7, htg.same s7, ?_, by omega, ha2, fun H8 r s8 hr8 => ?_⟩
          · unfold single
            rw [List.length_map]
            exact M.len
          rw [M.fol_single ha2] at hr8
          obtain ⟨e1, e2, e3⟩ := hT2
          have bound : ∀ x ∈ T2.map (·.2), x ∈ effs st n c (i + 1) := fun x hx => by
            rcases (mem2 x).mp hx with ⟨a', ha', k, hk, e⟩ | ⟨k, hk, e⟩
            · exact (effs_succ st n c i x).mpr ⟨a', (hl.mem a').mp (List.mem_of_mem_take ha'), k, hk, e⟩
            · exact (effs_succ st n c i x).mpr ⟨av, (hl.mem av).mp (List.mem_of_getElem? hav), k, List.mem_of_mem_take hk, e⟩
          have hle : T2.length ≤ 62 := by
            have := few (i + 1) _ e3 bound
            rw [List.length_map] at this
            omega
          have hD8 := s8 _ _ e1
          refine ⟨r, effStep st av (j : Int), T2, rfl, hr8, hD8, fun p hp => (e2 p hp).same s8, hle, fun T3 ad => ⟨same_put (s7.trans s8) hD, T3, ⟨upd_same, fun p hp => ?_, (added_keys ad e3).1⟩, fun x => ?_⟩⟩
          · have ht : TI H8 p.1 p.2 := by
              rcases added_sub ad p hp with z | z
              · exact (e2 p z).same s8
              · rw [z]; exact hr8
            show upd H8 D _ p.1 = _
            rw [upd_ne (ne_of ht hD8 setTO_tup)]
            exact ht
          · rw [(added_keys ad e3).2 x, mem2 x, take_more hjk]
            constructor
            · rintro ((z | ⟨k, hk, e⟩) | z)
              · exact .inl z
              · exact .inr ⟨k, List.mem_append_left _ hk, e⟩
              · exact .inr ⟨_, List.mem_append_right _ List.mem_cons_self, z⟩
            · rintro (z | ⟨k, hk, e⟩)
              · exact .inl (.inl z)
              · rcases List.mem_append.mp hk with hk | hk
                · exact .inl (.inr ⟨k, hk, e⟩)
                · rw [List.mem_singleton.mp hk] at e
                  exact .inr e
        · have ej : j = gs.length := by omega
          subst ej
          refine .inl ⟨⟨_, SqL.of (s7 _ _ hgs), by simp⟩, s7, T2, hT2, fun x => ?_⟩
          rw [mem2 x, take_more hav, show (cmds c).take gs.length = cmds c from List.take_of_length_le (by rw [cmds_length]; omega)]
          constructor
          · rintro (⟨a', ha', z⟩ | z)
            · exact ⟨a', List.mem_append_left _ ha', z⟩
            · exact ⟨av, List.mem_append_right _ List.mem_cons_self, z⟩
          · rintro ⟨a', ha', z⟩
            rcases List.mem_append.mp ha' with ha' | ha'
            · exact .inl ⟨a', ha', z⟩
            · rw [List.mem_singleton.mp ha'] at z
              exact .inr z
      · have ei : i1 = as.length := by omega
        subst ei
        refine .inl ⟨⟨_, SqL.of (s6 _ _ has), by simp⟩, ?_⟩
        obtain ⟨e1, e2, e3⟩ := hT1
        have mem3 : ∀ x, x ∈ T1.map (·.2) ↔ x ∈ effs st n c (i + 1) := fun x => by
          rw [mem1 x, effs_succ, hal, List.take_length]
          exact ⟨fun ⟨a, ha, z⟩ => ⟨a, (hl.mem a).mp ha, z⟩, fun ⟨a, ha, z⟩ => ⟨a, (hl.mem a).mpr ha, z⟩⟩
        refine ⟨D, T1, n, n, rfl, e1, fun p hp => (e2 p hp).sq, hn0, fun p hp => eff_bd (M.effs_in ((mem3 _).mp (List.mem_map.mpr ⟨p, hp, rfl⟩))), fun T2 f2 pm nd _ up hf2 => ?_⟩
        refine ⟨f2, T2.map (·.2), _, rfl, s5.trans (s6.trans (same_new hf2)), ⟨T2.map (·.1), by rw [upd_same, map_refs], ?_⟩, EffL.of M nd up fun x => ?_⟩
        · exact pd_imp (fun _ _ h => h.same (same_new hf2)) (pd_pairs fun p hp => e2 p (pm.mem_iff.mp hp))
        · rw [← mem3 x]
          exact (pm.map (·.2)).mem_iff
    · rintro σ H5 ⟨f, l, v4, rfl, s5, ⟨as, has, pas⟩, hl⟩
      refine ⟨_, rfl, .inl ⟨f, _, rfl, SqL.of has, fun t ht => q _ t l (sA.trans (s5.trans (same_new ht))) hl ⟨as, upd_same, pd_imp (fun _ _ h => h.same (same_new ht)) pas⟩⟩⟩
end
end K02

set_option Elab.async false
set_option linter.all false
set_option maxRecDepth 100000
set_option maxHeartbeats 4000000
/-! repr; defs that call it -/
namespace K02
open PySem PySem.Spec PyProof.Rows L2
/-! ### what is shown -/
def iT (ns : List Int) : PyData := .tuple (ns.map PyData.int)
def tT (l : List (List Int)) : PyData := .tuple (l.map iT)
structure Shows (d : PyData) : Prop where
  show_ : d.showable = true
  dict : d.hasDict = false
  depth : d.depth ≤ 3
  size : d.shown.length ≤ sizeLine
def Low (k : Int) : Prop := 0 ≤ k ∧ k < 1000
theorem low_show {k : Int} (h : Low k) : PyData.showable (.int k) = true := by
  have e : k.natAbs < 2 ^ 10 := by have := h.1; have := h.2; omega
  unfold PyData.showable
  refine decide_eq_true ?_
  by_cases z : k.natAbs = 0
  · rw [z]; decide
  · exact Nat.lt_trans ((Nat.log2_lt z).mpr e) (by decide)
theorem ints_all (ns : List Int) (h : ∀ k ∈ ns, Low k) : PyData.showableAll (ns.map .int) = true ∧ PyData.hasDictAll (ns.map .int) = false ∧ PyData.depthAll (ns.map .int) = 0 ∧ PyData.leavesShortAll 13 (ns.map .int) = true ∧ PyData.bulkAll (ns.map .int) = ns.length := by
  induction ns with
  | nil => exact ⟨rfl, rfl, rfl, rfl, rfl⟩
  | cons k ns ih =>
    obtain ⟨a, b, c, d, e⟩ := ih fun x hx => h x (List.mem_cons_of_mem _ hx)
    have hk := h k List.mem_cons_self
    refine ⟨?_, ?_, ?_, ?_, ?_⟩
    · rw [List.map_cons, PyData.showableAll, low_show hk, a]; rfl
    · rw [List.map_cons, PyData.hasDictAll, b]; rfl
    · rw [List.map_cons, PyData.depthAll, c]; rfl
    · rw [List.map_cons, PyData.leavesShortAll, d, PyData.leavesShort, decide_eq_true (PyData.shown_int_le2 (by have := hk.1; omega) (by have := hk.2; omega))]; rfl
    · rw [List.map_cons, PyData.bulkAll, e, PyData.bulk, List.length_cons]; omega
theorem shows_iT {ns : List Int} (h : ∀ k ∈ ns, Low k) (hl : ns.length ≤ 1000) : Shows (iT ns) := by
  obtain ⟨a, b, c, d, e⟩ := ints_all ns h
  refine ⟨by rw [iT, PyData.showable]; exact a, by rw [iT, PyData.hasDict]; exact b, by rw [iT, PyData.depth, c]; decide, ?_⟩
  have h1 := PyData.shown_le_bulk 13 (by decide) (iT ns) (by rw [iT, PyData.leavesShort]; exact d)
  rw [iT, PyData.bulk, e] at h1
  have big : 100000 ≤ sizeLine := by decide
  exact Nat.le_trans h1 (by omega)
theorem tups_all (l : List (List Int)) (h : ∀ r ∈ l, r.length ≤ 100 ∧ ∀ k ∈ r, Low k) : PyData.showableAll (l.map iT) = true ∧ PyData.hasDictAll (l.map iT) = false ∧ PyData.depthAll (l.map iT) ≤ 1 ∧ PyData.leavesShortAll 13 (l.map iT) = true ∧ PyData.bulkAll (l.map iT) ≤ 101 * l.length := by
  induction l with
  | nil => exact ⟨rfl, rfl, by decide, rfl, Nat.zero_le _⟩
  | cons r l ih =>
    obtain ⟨a, b, c, d, e⟩ := ih fun x hx => h x (List.mem_cons_of_mem _ hx)
    obtain ⟨hl, hk⟩ := h r List.mem_cons_self
    obtain ⟨a', b', c', d', e'⟩ := ints_all r hk
    refine ⟨?_, ?_, ?_, ?_, ?_⟩
    · rw [List.map_cons, PyData.showableAll, a, iT, PyData.showable, a']; rfl
    · rw [List.map_cons, PyData.hasDictAll, b, iT, PyData.hasDict, b']; rfl
    · rw [List.map_cons, PyData.depthAll, iT, PyData.depth, c']; omega
    · rw [List.map_cons, PyData.leavesShortAll, d, iT, PyData.leavesShort, d']; rfl
    · rw [List.map_cons, PyData.bulkAll, iT, PyData.bulk, e', List.length_cons]; omega
theorem shows_tT {l : List (List Int)} (h : ∀ r ∈ l, r.length ≤ 100 ∧ ∀ k ∈ r, Low k) (hl : l.length ≤ 1000) : Shows (tT l) := by
  obtain ⟨a, b, c, d, e⟩ := tups_all l h
  refine ⟨by rw [tT, PyData.showable]; exact a, by rw [tT, PyData.hasDict]; exact b, by rw [tT, PyData.depth]; omega, ?_⟩
  have h1 := PyData.shown_le_bulk 13 (by decide) (tT l) (by rw [tT, PyData.leavesShort]; exact d)
  rw [tT, PyData.bulk] at h1
  have big : 2000000 ≤ sizeLine := by decide
  exact Nat.le_trans h1 (by omega)
theorem shows_none : Shows .none := ⟨rfl, rfl, by decide, by decide +kernel⟩
theorem dp_ints {K : PySem.W.Frag} {H : Hp} : ∀ ns : List Int, DpAll K H (ns.map V.int) (ns.map PyData.int)
  | [] => .nil
  | _ :: ns => .cons (.int _) (dp_ints ns)
theorem dp_iT {K : PySem.W.Frag} {H : Hp} {a : Addr} {ns : List Int} (h : K02.TI H a ns) : Dp K H (.ref a) (iT ns) := .tup (SqT.of h) (dp_ints ns)
theorem dp_tis {K : PySem.W.Frag} {H : Hp} : ∀ {as : List Addr} {l : List (List Int)}, Paired (K02.TI H) as l → DpAll K H (as.map V.ref) (l.map iT)
  | _, _, .nil => .nil
  | _, _, .cons h t => .cons (dp_iT h) (dp_tis t)
theorem dp_tT {K : PySem.W.Frag} {H : Hp} {a : Addr} {l : List (List Int)} (h : TuT H a l) : Dp K H (.ref a) (tT l) :=
  let ⟨_, h1, h2⟩ := h; .tup (SqT.of h1) (dp_tis h2)
/-! ### repr -/
def rRepr (K : PySem.W.Frag) : List V → Hp → VK → Prop := fun xs H Q => ∃ (x : V) (d : PyData), xs = [x] ∧ Dp K H x d ∧ Shows d ∧ ((∃ a, x = .ref a) ∨ d = .none) ∧ Q (.str d.shown) H
theorem cr_repr {X : Cx} (hg : X.A.guards = some []) (hu : X.A.units + 8 < cLine) : CallR X (.builtin "repr") (rRepr X.K) := by
  intro pins s σ H xs us Q I r h
  obtain ⟨x, d, rfl, hd, sh, hx, q⟩ := h
  obtain ⟨u, rfl, ru⟩ := vals1 r
  rcases hx with ⟨a, rfl⟩ | rfl
  · obtain ⟨as, rd⟩ := Dp.reads I d _ _ hd ru
    obtain rfl : u = Value.ref a := ru
    exact repr_of_reads' rd sh.show_ (PyData.noDict_hsm sh.dict) hg (by have := sh.depth; omega) (fun _ _ e => e) (fun h' t tk hk => ⟨.str _, H, I.kept (t' := tk) hk, ⟨t, rfl⟩, q⟩) sh.size
  · cases hd
    obtain rfl : u = Value.none := ru
    exact PySem.P.repr_of_none ⟨.str _, H, I.tok _, ⟨_, rfl⟩, q⟩
/-! ### a def that is run where nothing is being shown -/
structure FnG (P : Program) (w : World) (K : PySem.W.Frag) (mg : Str → Option Value) (base : Heap) (k : Nat) (f : Addr) (fd : FuncData) (ps : List Str) (sp : Sp) : Prop where
  len : ∀ vs H Q E, sp vs H Q E → vs.length = ps.length
  run : ∀ (A : Around) (outer : List Env) (s : Shared) (H : Hp) (args : Args) (us : List Value) (vs : List V) (Q : VK) (E : XK), Room k A → A.guards = some [] → Env0 P w K mg base A outer s H → BindsTo s fd args (ps.zip us) → Vals vs us → sp vs H Q E →
    codeAny (model P w) A (.call (.ref f) args) (CR CX0 outer P w H s Q E) s
section
variable {P : Program} {w : World} {K : PySem.W.Frag} {mg : Str → Option Value} {base : Heap}
theorem fun_g {x qual : Str} {st : Stmt} {f : Addr} {fd : FuncData} {N ps : List Str} {k : Nat} {sp : Sp} (F : Fun K x qual st f fd) (S : FnScope N ps (defScope st)) (len : ∀ vs H Q E, sp vs H Q E → vs.length = ps.length)
    (hbody : ∀ (cdv : Value) (A : Around) (outer : List Env) (s : Shared) (H : Hp) (vs : List V) (Q : VK) (E : XK), Room k (A.deeper (envOfC qual (defScope st) s.heap.objs.size f cdv)) → (A.deeper (envOfC qual (defScope st) s.heap.objs.size f cdv)).guards = some [] → sp vs H Q E →
      ∃ t, PSs (cxOf CX0 P w K mg base N qual (defScope st) f cdv A outer s H E).nox (defBody st) t ∧ t { nx := fun _ H' => Q .non H', rt := Q } (L2.start N vs) H) : FnG P w K mg base (k + 1) f fd ps sp := by
  obtain ⟨oc, od, kV, doc, pm, an, cdv, ct, osl, rfl, lk, hcd⟩ := F.ex
  refine ⟨len, fun A outer s H args us vs Q E hr hg e0 hb hv hs => ?_⟩
  refine LamX.run_ofS lk hcd S hr e0 hb hv (len _ _ _ _ hs) fun hr' => ?_
  obtain ⟨t, h, q⟩ := hbody cdv A outer s H vs Q E hr' hg hs
  exact ⟨t, h.nox, q⟩
structure HasG (P : Program) (w : World) (K : PySem.W.Frag) (mg : Str → Option Value) (base : Heap) (k : Nat) (x : Str) (ps : List Str) (sp : Sp) : Prop where
  ex : ∃ (f : Addr) (fd : FuncData), FnG P w K mg base k f fd ps sp ∧ mg x = some (.ref f) ∧ PySem.W.keepIn K (.ref f) = true ∧ Binds K fd ps []
theorem Df.hasG {k : Nat} {x : Str} {st : Stmt} {ps : List Str} {sp : Sp} (D : Df K mg x st) (h : ∀ {f : Addr} {fd : FuncData}, Fun K x x st f fd → FnG P w K mg base k f fd ps sp) (hb : ∀ {f : Addr} {fd : FuncData}, Fun K x x st f fd → Binds K fd ps []) : HasG P w K mg base k x ps sp := by
  obtain ⟨f, fd, F, hm⟩ := D.ex
  exact ⟨f, fd, h F, hm, F.kp, hb F⟩
end
theorem pe_hg {X : Cx} {k j : Nat} {x : Str} {ps : List Str} {sp : Sp} {e : Expr} {es : List Expr} {t : TA} {p pos : Pos} (h : HasG X.prog X.w X.K X.mg X.base k x ps sp) (hr : Room j X.A) (hgd : X.A.guards = some []) (hk : k ≤ j) (ha : PA X (e :: es) t) (hg : Gl X x := by rfl) (hdb : (x == ("__debug__" : Str)) = false := by decide)
    (he : starEach (e :: es) X.env = (false, eval e X.env) :: starEach es X.env := by rfl) (hpl : (backTo pos (starEach es X.env)).any (·.1) = false := by rfl) :
    PE X (.Call (.Name x p) (e :: es) [] pos) (tCl sp t) := by
  obtain ⟨f, fd, F, hm, hkp, hb⟩ := h.ex
  refine ⟨fun pins s σ H Q I h => ?_⟩
  refine wpAny_Call_Name_kw (ld_glob I hg hm ?_ hdb)
  refine PySem.W.callWith_K (h₀ := X.base) I.ok.mod.kin hkp (thn (ha.run pos pins s σ H _ I h) fun us s1 ⟨vs, H1, I1, r, q⟩ => ⟨I1.kIn, ?_⟩) he hpl
  have hl : us.length = ps.length := by rw [← r.length]; exact F.len _ _ _ _ q
  have b := hb s1 us I1.kIn (by rw [List.append_nil]; exact hl)
  rw [List.append_nil] at b
  refine wpAny_call (codeAny_mono (F.run X.A X.stack s1 H1 ⟨us, []⟩ us vs Q E0 (hr.mono hk) hgd I1.env0 b r q) fun r s' hq => ?_)
  cases r with
  | error e => exact False.elim hq
  | ok fl =>
    cases fl with
    | ret u => exact I1.after hq
    | next => exact False.elim hq
    | brk => exact False.elim hq
    | cont => exact False.elim hq
end K02

set_option Elab.async false
set_option linter.all false
set_option maxRecDepth 100000
set_option maxHeartbeats 8000000
namespace K02
open PySem L2
abbrev tDraw : Stmt := top 24
abbrev tAny : Stmt := top 25
abbrev tOf : Stmt := top 26
abbrev tMixed : Stmt := top 27
/-! ### the deal -/
structure DealV (H : Hp) (d g : Addr) (b : Int) (ns : List Int) : Prop where
  hd : H d = some (.lst [.ref g, .int b])
  hg : H g = some (.lst (ns.map V.int))
  ne : d ≠ g
  nn : ∀ x ∈ ns, 0 ≤ x
  b0 : 0 ≤ b
  b1 : b < 2147483647
  few : ns.length ≤ 100
def Deal (H : Hp) (d g : Addr) : Prop := ∃ b ns, DealV H d g b ns
def WD (d g : Addr) : Addr → Prop := fun x => x = d ∨ x = g
theorem Deal.lists {H : Hp} {d g : Addr} (h : Deal H d g) : Lists (WD d g) H := fun x hx => by
  obtain ⟨b, ns, h⟩ := h
  rcases hx with e | e
  · rw [e]; exact ⟨_, h.hd⟩
  · rw [e]; exact ⟨_, h.hg⟩
theorem DealV.same {H H' : Hp} {d g : Addr} {b : Int} {ns : List Int} (h : DealV H d g b ns) (s : Same H H') : DealV H' d g b ns := ⟨s _ _ h.hd, s _ _ h.hg, h.ne, h.nn, h.b0, h.b1, h.few⟩
theorem Deal.same {H H' : Hp} {d g : Addr} (h : Deal H d g) (s : Same H H') : Deal H' d g := let ⟨b, ns, h⟩ := h; ⟨b, ns, h.same s⟩
/-- what is kept beside the deal -/
theorem TI.wd {H H' : Hp} {d g a : Addr} {ns : List Int} (h : TI H a ns) (s : Ex (WD d g) H H') (D : Deal H d g) : TI H' a ns := h.ex s D.lists
def dI (ns : List Int) : PyData := .list (ns.map PyData.int)
theorem lay_ints : ∀ ns : List Int, PyData.canLayAll0 (ns.map PyData.int) = true ∧ PyData.depthAll (ns.map PyData.int) = 0
  | [] => ⟨rfl, rfl⟩
  | k :: ns => by
    obtain ⟨a, b⟩ := lay_ints ns
    refine ⟨?_, ?_⟩
    · rw [List.map_cons, PyData.canLayAll0, a]; rfl
    · rw [List.map_cons, PyData.depthAll, b]; rfl
theorem shaped_dI (ns : List Int) : SeqAt.shaped (dI ns) = true := by
  obtain ⟨a, b⟩ := lay_ints ns
  unfold SeqAt.shaped dI
  rw [PyData.canLay0, a, PyData.depth, b]
  decide
theorem shaped_iT (ns : List Int) : SeqAt.shaped (iT ns) = true := by
  obtain ⟨a, b⟩ := lay_ints ns
  unfold SeqAt.shaped iT
  rw [PyData.canLay0, a, PyData.depth, b]
  decide
theorem shaped_nil : SeqAt.shaped (.list []) = true := by decide +kernel
theorem dp_lst {K : PySem.W.Frag} {H : Hp} {a : Addr} {ns : List Int} (h : H a = some (.lst (ns.map V.int))) : Dp K H (.ref a) (dI ns) := .lst (SqL.of h) (dp_ints ns)
theorem dp_nil {K : PySem.W.Frag} {H : Hp} {a : Addr} (h : H a = some (.lst [])) : Dp K H (.ref a) (.list []) := .lst (SqL.of h) .nil
theorem eqv_nil (ns : List Int) : PyData.eqv (dI ns) (.list []) = decide (ns = []) := by
  cases ns with
  | nil => simp [dI, PyData.eqv, PyData.eqvAll]
  | cons k ns => simp [dI, PyData.eqv, PyData.eqvAll]
theorem units64 {A : Around} {k : Nat} (hr : Room k A) : A.units + 64 < cLine := by
  have := hr.un
  omega
theorem at_last {l : List V} {y : V} : atI (l ++ [y]) (-1) = some y := by
  unfold atI ixN
  rw [if_neg (by decide), List.length_append, List.length_singleton]
  have e : (-1 + ((l.length + 1 : Nat) : Int)).toNat = l.length := by omega
  first
    | (rw [if_pos (by omega)]; show (l ++ [y])[_]? = _; rw [e]; simp)
    | (simp [e])
theorem at0 {x : V} {xs : List V} : atI (x :: xs) 0 = some x := by
  have : atI (x :: xs) ((0 : Nat) : Int) = some x := atI_nat rfl
  exact this
theorem at1 {x y : V} {xs : List V} : atI (x :: y :: xs) 1 = some y := by
  have : atI (x :: y :: xs) ((1 : Nat) : Int) = some y := atI_nat rfl
  exact this
section
variable {P : Program} {w : World} {K : PySem.W.Frag} {mg : Str → Option Value} {base : Heap}
def spAny : Sp := fun vs H Q _ => ∃ (d g : Addr) (n : Int), vs = [.ref d, .int n] ∧ Deal H d g ∧ 1 ≤ n ∧ n < 1000000 ∧ ∀ H' r, Ex (WD d g) H H' → Deal H' d g → 0 ≤ r → r < n → Q (.int r) H'
theorem scAny : FnScope ["_law_deal", "_law_bound", "_law_rest"] ["_law_deal", "_law_bound"] (defScope tAny) := ⟨rfl, rfl, rfl, by decide +kernel, rfl, by decide +kernel, by decide +kernel⟩
theorem has_any (B : Bi mg) (D : Df K mg "_law_any" tAny) : Has P w K mg base 1 "_law_any" ["_law_deal", "_law_bound"] spAny := by
  refine D.has (fun F => F.ok scAny (fun vs H Q E h => ?_) (fun cdv A outer s H vs Q E hr h => ?_)) (fun F => F.binds fun _ _ _ _ _ _ us hl => match us, hl with | [_, _], _ => rfl)
  · obtain ⟨d, g, n, rfl, _⟩ := h
    rfl
  · obtain ⟨d, g, n, rfl, hD, h1, h2, q⟩ := h
    have hu := units64 hr
    refine ⟨_, pss_cons (ps_while PassesOwn.never (PW.pt (pw_and (pt_cmpR (op_neD hu) (pe_ix ix_list (pv 0) pe_int (fun _ _ => rfl)) (pe_lst pa_nil) (nomark _)) (pw_and1 (pt_cmpR op_eq (pe_ix ix_list (pe_ix ix_list (pv 0) pe_int (fun _ _ => rfl)) (pe_un un_neg pe_int) (fun _ _ => rfl)) pe_int (nomark _)))))
        (pss_one (ps_expr (pe_bm0 PySem.F.plainAttrs_list PySem.F.slot_list_pop PySem.F.type_list_pop mt_pop (pe_ix ix_list (pv 0) pe_int (fun _ _ => rfl))))))
      (pss_cons (ps_if (pt_cmpR (op_neD hu) (pe_ix ix_list (pv 0) pe_int (fun _ _ => rfl)) (pe_lst pa_nil) (nomark _))
        (pss_cons (ps_set (i := 2) scAny.nd rfl (Or.inl rfl) (pe_callTy call_int1 (by rfl) B.int (by decide +kernel) (pa_cons (pe_bm0 PySem.F.plainAttrs_list PySem.F.slot_list_pop PySem.F.type_list_pop mt_pop (pe_ix ix_list (pv 0) pe_int (fun _ _ => rfl))) pa_nil)))
        (pss_cons (ps_expr (pe_bm PySem.F.plainAttrs_list PySem.F.slot_list_append PySem.F.type_list_append mt_append (pe_ix ix_list (pv 0) pe_int (fun _ _ => rfl)) (pa_cons (pe_op op_fdiv (pv 2) (pv 1)) pa_nil)))
        (pss_one (ps_ret (pe_op op_mod (pv 2) (pv 1)))))) pss_nil)
      (pss_cons (ps_asg (pe_op op_mod (pe_callTy call_int1 (by rfl) B.int (by decide +kernel) (pa_cons (pe_op op_add (pe_op op_mul (pe_ix ix_list (pv 0) pe_int (fun _ _ => rfl)) pe_int) pe_int) pa_nil)) pe_int) (pg_sub (pv 0) pe_int set_list))
      (pss_one (ps_ret (pe_op op_mod (pe_callTy call_int1 (by rfl) B.int (by decide +kernel) (pa_cons (pe_op op_fdiv (pe_ix ix_list (pv 0) pe_int (fun _ _ => rfl)) pe_int) pa_nil)) (pv 1)))))), ?_⟩
    obtain ⟨b0, ns0, hd0⟩ := hD
    have one : 1 ≤ sizeLine := by decide
    have big : 1000 < sizeLine := by decide
    refine ⟨fun m σ H' => ∃ b ns, m = ns.length ∧ σ = [some (.ref d), some (.int n), none] ∧ Ex (WD d g) H H' ∧ DealV H' d g b ns, ⟨_, b0, ns0, rfl, rfl, Ex.refl _ _, hd0⟩, ?_⟩
    rintro m σ H1 ⟨b, ns, rfl, rfl, e1, D1⟩
    refine ⟨_, rfl, d, _, _, _, rfl, rfl, SqL.of D1.hd, at0, Nat.zero_le _, fun p hp => ?_⟩
    have s2 : Same H1 (upd H1 p (.lst [])) := same_new hp
    have D2 := D1.same s2
    have e2 : Ex (WD d g) H (upd H1 p (.lst [])) := e1.trans (Ex.of s2)
    refine ⟨_, _, dp_lst D2.hg, dp_nil upd_same, shaped_dI _, shaped_nil, _, rfl, ?_⟩
    rw [eqv_nil]
    generalize upd H1 p (.lst []) = H2 at D2 e2
    rcases List.eq_nil_or_concat ns with rfl | ⟨l, z, ens⟩
    · refine iteNF rfl ?_
      refine ⟨_, rfl, d, _, _, _, rfl, rfl, SqL.of D2.hd, at0, Nat.zero_le _, fun p3 hp3 => ?_⟩
      have s3 : Same H2 (upd H2 p3 (.lst [])) := same_new hp3
      have D3 := D2.same s3
      have e3 : Ex (WD d g) H (upd H2 p3 (.lst [])) := e2.trans (Ex.of s3)
      refine ⟨_, _, dp_lst D3.hg, dp_nil upd_same, shaped_dI _, shaped_nil, _, rfl, ?_⟩
      rw [eqv_nil]
      refine iteNF rfl ?_
      generalize upd H2 p3 (.lst []) = H3 at D3 e3
      have c0 := D3.b0
      have c1 := D3.b1
      refine ⟨_, rfl, d, _, _, .int b, rfl, rfl, SqL.of D3.hd, at1, _, _, rfl, rfl, .inl ⟨by omega, by omega⟩, _, _, rfl, rfl, .inl ⟨_, rfl, _, _, rfl, rfl, (by decide : (0 : Int) < 2147483647), ?_⟩⟩
      refine ⟨_, rfl, d, _, 1, 1, rfl, rfl, D3.hd, rfl, ?_⟩
      have hm0 := Int.emod_nonneg (b * 40693 + 71) (show (2147483647 : Int) ≠ 0 by decide)
      have hm1 := Int.emod_lt_of_pos (b * 40693 + 71) (show (0 : Int) < 2147483647 by decide)
      have D4 : DealV (upd H3 d (.lst [.ref g, .int ((b * 40693 + 71) % 2147483647)])) d g ((b * 40693 + 71) % 2147483647) [] := ⟨upd_same, by rw [upd_ne D3.ne.symm]; exact D3.hg, D3.ne, D3.nn, hm0, hm1, D3.few⟩
      have e4 : Ex (WD d g) H (upd H3 d (.lst [.ref g, .int ((b * 40693 + 71) % 2147483647)])) := e3.trans (Ex.put (Or.inl rfl))
      refine ⟨_, rfl, d, _, _, .int _, rfl, rfl, SqL.of D4.hd, at1, _, _, rfl, rfl, ⟨by decide, by decide⟩, .inl ⟨_, rfl, _, rfl, _, _, rfl, rfl, (by omega : (0 : Int) < n), ?_⟩⟩
      exact q _ _ e4 ⟨_, _, D4⟩ (Int.emod_nonneg _ (by omega)) (Int.emod_lt_of_pos _ (by omega))
    · rw [List.concat_eq_append] at ens
      subst ens
      have hz : 0 ≤ z := D2.nn z (List.mem_append_right _ List.mem_cons_self)
      have hll : l.length ≤ 99 := by
        have := D2.few
        rw [List.length_append, List.length_singleton] at this
        omega
      have em : (l ++ [z]).map V.int = l.map V.int ++ [.int z] := by rw [List.map_append]; rfl
      have hne : ¬ (l ++ [z] = []) := by simp
      refine iteNT hne ?_
      refine ⟨_, rfl, d, _, _, _, rfl, rfl, SqL.of D2.hd, at0, _, rfl, g, _, -1, .int z, rfl, rfl, SqL.of D2.hg, by rw [em]; exact at_last, rfl, _, rfl, ?_⟩
      have popd : ((l ++ [z]).map V.int)[((l ++ [z]).map V.int).length - 1]? = some (.int z) := by
        rw [em, List.length_append, List.length_singleton, Nat.add_sub_cancel]
        simp
      have dl : ((l ++ [z]).map V.int).dropLast = l.map V.int := by rw [em, List.dropLast_concat]
      have D5 : ∀ H', DealV H' d g b (l ++ [z]) → DealV (upd H' g (.lst (l.map V.int))) d g b l := fun H' D' => ⟨by rw [upd_ne D'.ne]; exact D'.hd, upd_same, D'.ne, fun x hx => D'.nn x (List.mem_append_left _ hx), D'.b0, D'.b1, by omega⟩
      by_cases z0 : z = 0
      · refine iteDT (congrArg V.int z0) ?_
        refine ⟨fun σ H' => ∃ b, σ = [some (.ref d), some (.int n), none] ∧ Ex (WD d g) H H' ∧ DealV H' d g b l, fun σ H' ⟨b, h1, h2, h3⟩ => ⟨l.length, by rw [List.length_append, List.length_singleton]; omega, b, l, rfl, h1, h2, h3⟩, ?_⟩
        refine ⟨_, rfl, d, _, _, _, rfl, rfl, SqL.of D2.hd, at0, .inl ⟨rfl, _, SqL.of D2.hg⟩, g, _, .int z, rfl, rfl, D2.hg, popd, ?_⟩
        rw [dl]
        exact ⟨b, rfl, e2.trans (Ex.put (Or.inr rfl)), D5 _ D2⟩
      · refine iteDF (fun e => z0 (V.int.inj e)) ?_
        refine ⟨_, rfl, d, _, _, _, rfl, rfl, SqL.of D2.hd, at0, Nat.zero_le _, fun p3 hp3 => ?_⟩
        have s3 : Same H2 (upd H2 p3 (.lst [])) := same_new hp3
        have D3 := D2.same s3
        have e3 : Ex (WD d g) H (upd H2 p3 (.lst [])) := e2.trans (Ex.of s3)
        refine ⟨_, _, dp_lst D3.hg, dp_nil upd_same, shaped_dI _, shaped_nil, _, rfl, ?_⟩
        rw [eqv_nil]
        refine iteNT hne ?_
        generalize upd H2 p3 (.lst []) = H3 at D3 e3
        refine ⟨_, rfl, d, _, _, _, rfl, rfl, SqL.of D3.hd, at0, .inl ⟨rfl, _, SqL.of D3.hg⟩, g, _, .int z, rfl, rfl, D3.hg, popd, .inl ⟨z, rfl, ?_⟩⟩
        rw [dl]
        have D4 := D5 _ D3
        have e4 : Ex (WD d g) H (upd H3 g (.lst (l.map V.int))) := e3.trans (Ex.put (Or.inr rfl))
        generalize upd H3 g (.lst (l.map V.int)) = H4 at D4 e4
        refine ⟨_, rfl, d, _, _, _, rfl, rfl, SqL.of D4.hd, at0, .inl ⟨rfl, _, SqL.of D4.hg⟩, _, rfl, _, rfl, z, n, rfl, rfl, ⟨by omega, by omega⟩, g, _, .int (z / n), rfl, rfl, D4.hg, by rw [List.length_map]; omega, ?_⟩
        refine ⟨_, rfl, _, rfl, z, n, rfl, rfl, (by omega : (0 : Int) < n), ?_⟩
        refine q _ _ (e4.trans (Ex.put (Or.inr rfl))) ⟨b, l ++ [z / n], ⟨by rw [upd_ne D4.ne]; exact D4.hd, by rw [upd_same, List.map_append]; rfl, D4.ne, fun x hx => ?_, D4.b0, D4.b1, by rw [List.length_append, List.length_singleton]; omega⟩⟩ (Int.emod_nonneg _ (by omega)) (Int.emod_lt_of_pos _ (by omega))
        rcases List.mem_append.mp hx with hx | hx
        · exact D4.nn x hx
        · rw [List.mem_singleton.mp hx]
          exact Int.ediv_nonneg hz (by omega)
end
end K02

set_option Elab.async false
set_option linter.all false
set_option maxRecDepth 100000
set_option maxHeartbeats 8000000
namespace K02
open PySem L2
theorem Ex.put_new {W : Addr → Prop} {H0 H : Hp} {a : Addr} {o : HO} (s : Ex W H0 H) (h : H0 a = none) : Ex W H0 (upd H a o) := fun b u n e => by
  rw [upd_ne (ne_of_none e h)]
  exact s b u n e
theorem Deal.off {H : Hp} {d g a : Addr} {o : HO} (D : Deal H d g) (h : ¬ WD d g a) : Deal (upd H a o) d g := by
  obtain ⟨b, ns, v⟩ := D
  exact ⟨b, ns, by rw [upd_ne (fun z => h (.inl z.symm))]; exact v.hd, by rw [upd_ne (fun z => h (.inr z.symm))]; exact v.hg, v.ne, v.nn, v.b0, v.b1, v.few⟩
section
variable {P : Program} {w : World} {K : PySem.W.Frag} {mg : Str → Option Value} {base : Heap}
/-! ### one of a list -/
def spOf : Sp := fun vs H Q _ => ∃ (d g a : Addr) (xs : List V), vs = [.ref d, .ref a] ∧ Deal H d g ∧ ¬ WD d g a ∧ H a = some (.lst xs) ∧ 1 ≤ xs.length ∧ xs.length < 1000000 ∧ ∀ H' x, Ex (WD d g) H H' → Deal H' d g → x ∈ xs → Q x H'
theorem scOf : FnScope ["_law_deal", "_law_some"] ["_law_deal", "_law_some"] (defScope tOf) := ⟨rfl, rfl, rfl, by decide +kernel, rfl, by decide +kernel, by decide +kernel⟩
theorem has_of (B : Bi mg) (G : Has P w K mg base 1 "_law_any" ["_law_deal", "_law_bound"] spAny) (D : Df K mg "_law_of" tOf) : Has P w K mg base 2 "_law_of" ["_law_deal", "_law_some"] spOf := by
  refine D.has (fun F => F.ok scOf (fun vs H Q E h => ?_) (fun cdv A outer s H vs Q E hr h => ?_)) (fun F => F.binds fun _ _ _ _ _ _ us hl => match us, hl with | [_, _], _ => rfl)
  · obtain ⟨d, g, a, xs, rfl, _⟩ := h
    rfl
  · obtain ⟨d, g, a, xs, rfl, hD, hW, ha, h1, h2, q⟩ := h
    refine ⟨_, pss_one (ps_ret (pe_ix ix_list (pv 1) (pe_h G hr (by decide) (pa_cons (pv 0) (pa_cons (pe_callB call_len_seq (by rfl) B.len PySem.boot_len (pa_cons (pv 1) pa_nil)) pa_nil))) (fun _ _ => rfl))), ?_⟩
    refine ⟨_, rfl, _, rfl, _, rfl, _, _, rfl, .inl (SqL.of ha), d, g, _, rfl, hD, by omega, by omega, fun H' r e D' r0 r1 => ?_⟩
    have hr' : r.toNat < xs.length := by omega
    refine ⟨a, xs, r, xs[r.toNat], rfl, rfl, SqL.of (e _ _ hW ha), ?_, q _ _ e D' (List.getElem_mem hr')⟩
    have er : ((r.toNat : Nat) : Int) = r := by omega
    have z : atI xs ((r.toNat : Nat) : Int) = some xs[r.toNat] := atI_nat (by simp [hr'])
    rw [er] at z
    exact z
/-! ### mixed -/
def spMixed : Sp := fun vs H Q _ => ∃ (d g a : Addr) (ns : List Int), vs = [.ref d, .ref a] ∧ Deal H d g ∧ ¬ WD d g a ∧ H a = some (.lst (ns.map V.int)) ∧ ns.length ≤ 1000 ∧
  ∀ H' f (l : List Int), Ex (WD d g) H H' → Deal H' d g → H f = none → H' f = some (.lst (l.map V.int)) → l.length = ns.length → (∀ x ∈ l, x ∈ ns) → Q (.ref f) H'
theorem scMixed : FnScope ["_law_deal", "_law_some", "_law_left", "_law_found"] ["_law_deal", "_law_some"] (defScope tMixed) := ⟨rfl, rfl, rfl, by decide +kernel, rfl, by decide +kernel, by decide +kernel⟩
theorem wd_new {H : Hp} {d g a : Addr} (D : Deal H d g) (h : H a = none) : ¬ WD d g a := fun z => by
  obtain ⟨xs, e⟩ := D.lists a z
  rw [h] at e
  cases e
theorem erase_map (l : List Int) (k : Nat) : (l.map V.int).eraseIdx k = (l.eraseIdx k).map V.int := by
  induction l generalizing k with
  | nil => rfl
  | cons x l ih =>
    cases k with
    | zero => rfl
    | succ k => simp [ih]
theorem has_mixed (B : Bi mg) (G : Has P w K mg base 1 "_law_any" ["_law_deal", "_law_bound"] spAny) (D : Df K mg "_law_mixed" tMixed) : Has P w K mg base 2 "_law_mixed" ["_law_deal", "_law_some"] spMixed := by
  refine D.has (fun F => F.ok scMixed (fun vs H Q E h => ?_) (fun cdv A outer s H vs Q E hr h => ?_)) (fun F => F.binds fun _ _ _ _ _ _ us hl => match us, hl with | [_, _], _ => rfl)
  · obtain ⟨d, g, a, ns, rfl, _⟩ := h
    rfl
  · obtain ⟨d, g, a, ns, rfl, hD, hW, ha, hn, q⟩ := h
    have hu := units64 hr
    refine ⟨_, pss_cons (ps_par (i := 2) (j := 3) (by rfl) scMixed.nd rfl rfl (by decide) rfl rfl (pa_cons (pe_callTy call_list_of (by rfl) B.list (by decide +kernel) (pa_cons (pv 1) pa_nil)) (pa_cons (pe_lst pa_nil) pa_nil)) (by rfl))
      (pss_cons (ps_while PassesOwn.never (pt_cmpR (op_neD hu) (pv 2) (pe_lst pa_nil) (nomark _))
        (pss_one (ps_expr (pe_bm PySem.F.plainAttrs_list PySem.F.slot_list_append PySem.F.type_list_append mt_append (pv 3)
          (pa_cons (pe_bm PySem.F.plainAttrs_list PySem.F.slot_list_pop PySem.F.type_list_pop mt_popAt (pv 2) (pa_cons (pe_h G hr (by decide) (pa_cons (pv 0) (pa_cons (pe_callB call_len_seq (by rfl) B.len PySem.boot_len (pa_cons (pv 2) pa_nil)) pa_nil))) pa_nil)) pa_nil)))))
      (pss_one (ps_ret (pv 3)))), ?_⟩
    have big : 1000 < sizeLine := by decide
    refine ⟨_, rfl, a, _, rfl, .inl (SqL.of ha), fun p hp => ⟨Nat.zero_le _, fun f hf => ⟨_, _, rfl, ?_⟩⟩⟩
    have hpf : p ≠ f := ne_of_none upd_same hf
    have hf0 : H f = none := by
      rw [upd_ne hpf.symm] at hf
      exact hf
    have s1 : Same H (upd (upd H p (.lst (ns.map V.int))) f (.lst [])) := same_put (same_new hp) hf0
    have pW := wd_new hD hp
    have fW := wd_new hD hf0
    refine ⟨fun m σ H' => ∃ left l, m = left.length ∧ σ = [some (.ref d), some (.ref a), some (.ref p), some (.ref f)] ∧ Ex (WD d g) H H' ∧ Deal H' d g ∧ H' p = some (.lst (left.map V.int)) ∧ H' f = some (.lst (l.map V.int)) ∧ left.length + l.length = ns.length ∧ (∀ x ∈ left, x ∈ ns) ∧ ∀ x ∈ l, x ∈ ns,
      ⟨_, ns, [], rfl, rfl, Ex.of s1, hD.same s1, by rw [upd_ne hpf, upd_same], upd_same, Nat.add_zero _, fun x hx => hx, fun x hx => (nomatch hx)⟩, ?_⟩
    rintro m σ H2 ⟨left, l, rfl, rfl, e2, D2, hp2, hf2, hl, m1, m2⟩
    refine ⟨_, rfl, Nat.zero_le _, fun p3 hp3 => ?_⟩
    have s3 : Same H2 (upd H2 p3 (.lst [])) := same_new hp3
    refine ⟨_, _, dp_lst (s3 _ _ hp2), dp_nil upd_same, shaped_dI _, shaped_nil, _, rfl, ?_⟩
    rw [eqv_nil]
    have D3 := D2.same s3
    have e3 : Ex (WD d g) H (upd H2 p3 (.lst [])) := e2.trans (Ex.of s3)
    have hp4 := s3 _ _ hp2
    have hf4 := s3 _ _ hf2
    generalize upd H2 p3 (.lst []) = H3 at D3 e3 hp4 hf4
    by_cases h0 : left = []
    · subst h0
      refine iteNF rfl ⟨_, rfl, ?_⟩
      exact q _ _ _ e3 D3 hf0 hf4 (by simpa using hl) m2
    · have hpos : 0 < left.length := List.length_pos_iff.mpr h0
      refine iteNT h0 ?_
      refine ⟨fun σ' H' => ∃ left' l', left'.length < left.length ∧ σ' = [some (.ref d), some (.ref a), some (.ref p), some (.ref f)] ∧ Ex (WD d g) H H' ∧ Deal H' d g ∧ H' p = some (.lst (left'.map V.int)) ∧ H' f = some (.lst (l'.map V.int)) ∧ left'.length + l'.length = ns.length ∧ (∀ x ∈ left', x ∈ ns) ∧ ∀ x ∈ l', x ∈ ns,
        fun σ' H' ⟨left', l', h, r⟩ => ⟨_, h, left', l', rfl, r⟩, ?_⟩
      refine ⟨_, rfl, .inl ⟨rfl, _, SqL.of hf4⟩, _, rfl, .inl ⟨rfl, _, SqL.of hp4⟩, _, rfl, _, rfl, _, _, rfl, .inl (SqL.of hp4), d, g, _, rfl, D3, by rw [List.length_map]; omega, by rw [List.length_map]; omega, fun H5 r e5 D5 r0 r1 => ?_⟩
      have hp5 := e5 _ _ pW hp4
      have hf5 := e5 _ _ fW hf4
      have hlm : (left.map V.int).length = left.length := List.length_map _
      rw [hlm] at r1
      have hrn : r.toNat < left.length := by omega
      refine ⟨p, _, r, r.toNat, .int left[r.toNat], rfl, rfl, hp5, by omega, by omega, ?_, by simp [hrn], ?_⟩
      · rw [hlm]
        exact seqIndex_of r0 r1
      refine ⟨f, _, .int left[r.toNat], rfl, rfl, by rw [upd_ne hpf.symm]; exact hf5, by rw [List.length_map]; omega, ?_⟩
      rw [erase_map]
      refine ⟨left.eraseIdx r.toNat, l ++ [left[r.toNat]], by rw [List.length_eraseIdx_of_lt hrn]; omega, rfl, ((e3.trans e5).put_new hp).put_new hf0, (D5.off pW).off fW, by rw [upd_ne hpf, upd_same], by rw [upd_same, List.map_append]; rfl, ?_, fun x hx => m1 x (List.mem_of_mem_eraseIdx hx), fun x hx => ?_⟩
      · rw [List.length_eraseIdx_of_lt hrn, List.length_append, List.length_singleton]
        omega
      · rcases List.mem_append.mp hx with hx | hx
        · exact m2 x hx
        · rw [List.mem_singleton.mp hx]
          exact m1 _ (List.getElem_mem hrn)
end
end K02

set_option Elab.async false
set_option linter.all false
set_option maxRecDepth 100000
set_option maxHeartbeats 8000000
namespace K02
open PySem L2
/-! ### a comprehension with a test that is known -/
theorem range_filter_succ (p : Nat → Bool) (i : Nat) : (List.range (i + 1)).filter p = (List.range i).filter p ++ (if p i = true then [i] else []) := by
  rw [List.range_succ, List.filter_append]
  congr 1
  cases h : p i <;> simp [h]
section
variable {J : It} {n : Nat} {G : Hp → Prop} {Y : Nat → Hp → V → Hp → Prop}
theorem lc_filt (w : Walk J n G Y) {g : TG} {tt : TT} {te : TE} {vs : List Nat} {σ : L2.St} {H1 : Hp} {D : Addr} {Qd : Hp → Prop} (W : Addr → Prop) (Iv : Hp → Prop) (p : Nat → Bool) (R : Nat → Hp → V → Prop) (hD : H1 D = none) (hn : n ≤ 1000) (hW : ¬ W D)
    (hI : ∀ H H', Ex (fun b => b = D) H H' → Iv H → Iv H') (hR : ∀ i v H H', Ex (fun b => W b ∨ b = D) H H' → Iv H → (∃ acc, H D = some (.lst acc)) → R i H v → R i H' v) (h0 : Iv H1) (hG : ∀ H, Ex W H1 H → Iv H → G H)
    (hs : ∀ i x H H', i < n → Ex W H1 H → Iv H → (∃ acc, H D = some (.lst acc)) → Y i H x H' → ∀ (Qn : Hp → Prop) (Q : VK), (p i = false → ∀ H4, Ex W H H4 → Iv H4 → Qn H4) → (p i = true → ∀ y H4, Ex W H H4 → Iv H4 → R i H4 y → Q y H4) →
      g x (wipe σ vs) H' fun σ2 H2 => wipe σ2 vs = wipe σ vs ∧ tt σ2 H2 fun b H3 => if b = true then te σ2 H3 Q else Qn H3)
    (hd : ∀ H acc, Ex W H1 H → Iv H → H D = some (.lst acc) → Paired (fun v j => R j H v) acc ((List.range n).filter p) → Qd H) :
    ∃ W : Nat → Nat → Hp → Prop, (∃ m, W 0 m (upd H1 D (.lst []))) ∧ ∀ i m H, W i m H →
      (J.stop i H ∧ Qd H) ∨ (J.go i H ∧ ∃ Nx : Hp → Prop, (∀ H', Nx H' → ∃ m', m' < m ∧ W (i + 1) m' H') ∧ ∀ x H', J.yld i H x H' → g x (wipe σ vs) H' fun σ2 H2 => wipe σ2 vs = wipe σ vs ∧ tt σ2 H2 fun b H3 =>
        if b = true then te σ2 H3 fun y H4 => ∃ acc, H4 D = some (.lst acc) ∧ acc.length < sizeLine ∧ Nx (upd H4 D (.lst (acc ++ [y]))) else Nx H3) := by
  have big : 1000 < sizeLine := by decide
  refine lc_it w (fun i H => ∃ acc, H D = some (.lst acc) ∧ Ex W H1 H ∧ Iv H ∧ acc.length ≤ i ∧ Paired (fun v j => R j H v) acc ((List.range i).filter p)) ⟨[], upd_same, Ex.new hD, hI _ _ (Ex.put rfl) h0, Nat.le_refl _, .nil⟩ (fun i H _ ⟨_, _, e, v, _⟩ => hG H e v) ?_ ?_
  · rintro i x H H' hi ⟨acc, hd, hx, hv, hl, pr⟩ hy
    refine hs i x H H' hi hx hv ⟨_, hd⟩ hy _ _ (fun hp H4 e4 v4 => ?_) fun hp y H4 e4 v4 r4 => ?_
    · refine ⟨acc, e4 _ _ hW hd, hx.trans e4, v4, by omega, ?_⟩
      rw [range_filter_succ, hp, if_neg Bool.false_ne_true, List.append_nil]
      exact pd_imp (fun v j h => hR j v H H4 (e4.mono fun b z => .inl z) hv ⟨_, hd⟩ h) pr
    · have hd4 : H4 D = some (.lst acc) := e4 _ _ hW hd
      have e5 : Ex (fun b => b = D) H4 (upd H4 D (.lst (acc ++ [y]))) := Ex.put rfl
      have e6 : Ex (fun b => W b ∨ b = D) H4 (upd H4 D (.lst (acc ++ [y]))) := e5.mono fun b z => .inr z
      refine ⟨acc, hd4, by omega, acc ++ [y], upd_same, (hx.trans e4).put_new hD, hI _ _ e5 v4, by rw [List.length_append, List.length_singleton]; omega, ?_⟩
      rw [range_filter_succ, hp, if_pos rfl]
      refine pd_app (pd_imp (fun v j h => hR j v H4 _ e6 v4 ⟨_, hd4⟩ (hR j v H H4 (e4.mono fun b z => .inl z) hv ⟨_, hd⟩ h)) pr) (.cons (hR i y H4 _ e6 v4 ⟨_, hd4⟩ r4) .nil)
  · rintro H ⟨acc, hd', hx, hv, hl, pr⟩
    exact hd H acc hx hv hd' pr
end
/-! ### the draw -/
theorem cut_ints (ns : List Int) (lo hi : Option Int) : ∃ ms : List Int, cutV (ns.map V.int) lo hi = ms.map V.int ∧ ms.length ≤ ns.length := by
  refine ⟨(ns.drop (HT.sIx (ns.map V.int).length 0 lo)).take (HT.sIx (ns.map V.int).length (ns.map V.int).length hi - HT.sIx (ns.map V.int).length 0 lo), ?_, ?_⟩
  · unfold cutV
    rw [List.map_take, List.map_drop]
  · rw [List.length_take, List.length_drop]
    omega
theorem ints_of : ∀ l : List V, (∀ v ∈ l, ∃ z : Int, 0 ≤ z ∧ v = .int z) → ∃ cs : List Int, l = cs.map V.int ∧ ∀ z ∈ cs, 0 ≤ z := by
  intro l
  induction l with
  | nil => exact fun _ => ⟨[], rfl, fun z hz => (nomatch hz)⟩
  | cons v l ih =>
    intro h
    obtain ⟨z, hz, e⟩ := h v List.mem_cons_self
    obtain ⟨cs, e1, e2⟩ := ih fun u hu => h u (List.mem_cons_of_mem _ hu)
    exact ⟨z :: cs, by rw [e, e1]; rfl, fun y hy => (List.mem_cons.mp hy).elim (fun q => by rw [q]; exact hz) (e2 y)⟩
section
variable {P : Program} {w : World} {K : PySem.W.Frag} {mg : Str → Option Value} {base : Heap}
def spDraw (K : PySem.W.Frag) : Sp := fun vs H Q _ => ∃ (a : Addr) (ns : List Int), vs = [.ref a, .int 2] ∧ SqL K H a (ns.map V.int) ∧ ns.length ≤ 100 ∧ ∀ H' d g, Same H H' → H d = none → H g = none → Deal H' d g → Q (.ref d) H'
theorem scDraw : FnScope ["_law_script", "_law_salt", "_law_cell", "_law_cells", "_law_blend"] ["_law_script", "_law_salt"] (defScope tDraw) := ⟨rfl, rfl, rfl, by decide +kernel, rfl, by decide +kernel, by decide +kernel⟩
theorem has_draw (B : Bi mg) (D : Df K mg "_law_draw" tDraw) : Has P w K mg base 1 "_law_draw" ["_law_script", "_law_salt"] (spDraw K) := by
  refine D.has (fun F => F.ok scDraw (fun vs H Q E h => ?_) (fun cdv A outer s H vs Q E hr h => ?_)) (fun F => F.binds fun _ _ _ _ _ _ us hl => match us, hl with | [_, _], _ => rfl)
  · obtain ⟨a, ns, rfl, _⟩ := h
    rfl
  · obtain ⟨a, ns, rfl, ha, hn, q⟩ := h
    refine ⟨_, pss_cons (ps_setLc (i := 3) (own := [("_law_cell", 2)]) (g := gName 2) (te := tCB (fun xs H Q => ∃ i, xs = [.int i] ∧ Q (.int (if i < 0 then -i else i)) H) (tCons (tCB (fun xs H Q => (∃ i, xs = [.int i] ∧ Q (.int i) H) ∨ ∃ k, xs = [.bl k] ∧ Q (.int (if k then 1 else 0)) H) (tCons (tVar 2) tNil)) tNil)) (by rfl) scDraw.nd rfl rfl (sw_true rfl rfl rfl (by decide +kernel)) (pi_list (pe_slice sl_list (pv 0) po_none (po_some pe_int)))
          (blkOk_by (own := [("_law_cell", 2)]) (N := ["_law_script", "_law_salt", "_law_cell", "_law_cells", "_law_blend"]) (sc := defScope tDraw) (by decide +kernel)) (fun _ _ _ _ _ => pg_name (i := 2) scDraw.nd rfl (Or.inl rfl)) (fun _ _ _ _ _ => pts_nil)
          (fun _ _ _ _ _ => by exact (pe_callB call_abs (by rfl) B.abs (by decide +kernel) (pa_cons (pe_callTy call_int1 (by rfl) B.int (by decide +kernel) (pa_cons (pv 2) pa_nil)) pa_nil))))
      (pss_cons (ps_set (i := 4) scDraw.nd rfl (Or.inl rfl) (pe_op op_add pe_int (pe_op op_mul pe_int (pv 1))))
      (pss_cons (ps_for PassesOwn.never rfl (pi_list (pv 3)) (pg_name (i := 2) scDraw.nd rfl (Or.inl rfl))
        (pss_one (ps_set (i := 4) scDraw.nd rfl (Or.inl rfl) (pe_op op_mod (pe_callTy call_int1 (by rfl) B.int (by decide +kernel) (pa_cons (pe_op op_add (pe_op op_add (pe_op op_mul (pv 4) pe_int) (pe_op op_mod (pv 2) pe_int)) pe_int) pa_nil)) pe_int))))
      (pss_one (ps_ret (pe_lst (pa_cons (pe_revL (pe_lc (own := [("_law_cell", 2)]) (g := gName 2) (tt := tTest (tOp (rI0 fun i j => .bl (decide (j ≤ i))) (tVar 2) (tOp (rI CPow fun i j => .int (i ^ j.toNat)) (tC (.int 10)) (tC (.int 18))))) (te := tVar 2) (by rfl) scDraw.nd (pi_list (pv 3))
          (blkOk_by (own := [("_law_cell", 2)]) (N := ["_law_script", "_law_salt", "_law_cell", "_law_cells", "_law_blend"]) (sc := defScope tDraw) (by decide +kernel)) (fun _ _ _ _ _ => pg_name (i := 2) scDraw.nd rfl (Or.inl rfl)) (fun _ _ _ _ _ => by exact (pts_one (pt_cmpR op_ge (pv 2) (pe_op op_pow pe_int pe_int) (nomark _)))) (fun _ _ _ _ _ => by exact (pv 2))))
          (pa_cons (pv 4) pa_nil)))))))
      , ?_⟩
    have big : 1000 < sizeLine := by decide
    obtain ⟨ms, ec, hm⟩ := cut_ints ns none (some 48)
    refine ⟨_, rfl, 48, rfl, a, _, rfl, ha, fun p hp => ?_⟩
    rw [ec]
    have s1 : Same H (upd H p (.lst (ms.map V.int))) := same_new hp
    refine ⟨p, rfl, ⟨_, SqL.of upd_same⟩, fun Dl hDl => lc_fill (walk_list (xs := ms.map V.int)) NoW (fun _ => True) (fun _ _ v => ∃ z : Int, 0 ≤ z ∧ v = .int z) hDl (by rw [List.length_map]; omega) (fun z => z) (fun _ _ _ _ => trivial) (fun _ _ _ _ _ _ _ h => h) trivial
      (fun H' e _ => SqL.of (e.same _ _ upd_same)) (fun j x H' H'' hj e _ _ hy Q k => ?_) mono_yes (mono_name 2) (fun H2 acc e2 _ hd2 hl2 hr2 => ?_)⟩
    · obtain ⟨rfl, hx⟩ := hy
      obtain ⟨z, hz, rfl⟩ := get_int hx
      refine ⟨rfl, rfl, _, rfl, .inl ⟨z, rfl, z, rfl, k _ _ (Ex.refl _ _) trivial ⟨_, ?_, rfl⟩⟩⟩
      split <;> omega
    · obtain ⟨cs, hcs, hcn⟩ : ∃ cs : List Int, acc = cs.map V.int ∧ ∀ z ∈ cs, 0 ≤ z := by
        refine ints_of acc fun v hv => ?_
        obtain ⟨j, hj⟩ := List.getElem?_of_mem hv
        exact hr2 j v hj
      subst hcs
      have hcl : cs.length ≤ 100 := by
        rw [List.length_map, List.length_map] at hl2
        omega
      have s2 : Same H H2 := s1.trans e2.same
      refine ⟨_, rfl, _, _, rfl, rfl, .inl ⟨by decide, by decide⟩, _, _, rfl, rfl, ?_⟩
      refine ⟨_, rfl, Dl, rfl, ⟨_, SqL.of hd2⟩, for_list (K := K) (a := Dl) (xs := cs.map V.int) (fun i σ H' => ∃ (b : Int) (v2 : Option V), σ = [some (.ref a), some (.int 2), v2, some (.ref Dl), some (.int b)] ∧ H' = H2 ∧ 0 ≤ b ∧ b < 2147483647) ⟨_, none, rfl, rfl, by decide, by decide⟩ (fun i σ H' _ ⟨_, _, _, e, _⟩ => by rw [e]; exact SqL.of hd2) ?_ ?_⟩
      · rintro i x σ H' hi ⟨b, v2, rfl, rfl, b0, b1⟩
        obtain ⟨z, hz, rfl⟩ := get_int hi
        refine ⟨_, rfl, _, _, rfl, rfl, .inl ⟨by omega, by omega⟩, _, rfl, _, _, rfl, rfl, (by decide : (0 : Int) < 2147483549), _, _, rfl, rfl, _, _, rfl, rfl, .inl ⟨_, rfl, _, _, rfl, rfl, (by decide : (0 : Int) < 2147483647), ?_⟩⟩
        exact ⟨_, some (.int z), rfl, rfl, Int.emod_nonneg _ (by decide), Int.emod_lt_of_pos _ (by decide)⟩
      · rintro σ H' ⟨b, v2, rfl, rfl, b0, b1⟩
        refine ⟨_, rfl, Dl, rfl, ⟨_, SqL.of hd2⟩, fun D2 hD2 => lc_filt (walk_list (xs := cs.map V.int)) NoW (fun _ => True) (fun i => decide ((10 : Int) ^ 18 ≤ cs.getD i 0)) (fun _ _ v => ∃ z : Int, 0 ≤ z ∧ v = .int z) hD2 (by rw [List.length_map]; omega) (fun z => z) (fun _ _ _ _ => trivial) (fun _ _ _ _ _ _ _ h => h) trivial
          (fun H' e _ => SqL.of (e.same _ _ hd2)) (fun j x H' H'' hj e _ _ hy Qn Q k1 k2 => ?_) (fun H3 acc e3 _ hd3 pr => ?_)⟩
        · obtain ⟨rfl, hx⟩ := hy
          obtain ⟨z, hz, rfl⟩ := get_int hx
          have ez : cs.getD j 0 = z := by rw [List.getD_eq_getElem?_getD, hz]; rfl
          refine ⟨rfl, _, rfl, _, _, rfl, rfl, ⟨by decide, by decide, by decide⟩, _, _, rfl, rfl, _, rfl, ?_⟩
          rw [ez] at k1 k2
          by_cases c : (10 : Int) ^ 18 ≤ z
          · exact iteDT c ⟨_, rfl, k2 (decide_eq_true c) _ _ (Ex.refl _ _) trivial ⟨z, hcn z (List.mem_of_getElem? hz), rfl⟩⟩
          · exact iteDF c (k1 (decide_eq_false c) _ (Ex.refl _ _) trivial)
        · obtain ⟨ts, hts, htn⟩ := ints_of acc fun v hv => by
            obtain ⟨i, hi⟩ := List.getElem?_of_mem hv
            obtain ⟨j, _, h⟩ := pd_at1 pr hi
            exact h
          subst hts
          have hl3 : ts.length ≤ 100 := by
            have h1 := Paired.length pr
            have h2 := List.length_filter_le (fun i => decide ((10 : Int) ^ 18 ≤ cs.getD i 0)) (List.range (cs.map V.int).length)
            rw [List.length_range, List.length_map] at h2
            rw [List.length_map, List.length_map] at h1
            omega
          refine ⟨D2, _, rfl, SqL.of hd3, fun r hr => ⟨_, rfl, by show 2 ≤ sizeLine; decide, fun t ht => ?_⟩⟩
          have hrt : r ≠ t := ne_of_none upd_same ht
          have s3 : Same H H3 := s2.trans e3.same
          have hr0 : H r = none := s3.free hr
          have ht0 : H t = none := (s3.trans (same_new hr)).free ht
          refine q _ t r ((s3.trans (same_new hr)).trans (same_new ht)) ht0 hr0 ⟨b, ts.reverse, upd_same, ?_, hrt.symm, fun x hx => htn x (List.mem_reverse.mp hx), b0, b1, by rw [List.length_reverse]; exact hl3⟩
          rw [upd_ne hrt, upd_same, List.map_reverse]
end
end K02

set_option Elab.async false
set_option linter.all false
set_option maxRecDepth 100000
set_option maxHeartbeats 8000000
namespace K02
open PySem L2
abbrev tMachine : Stmt := top 28
def scSt : Scope := { kind := .function, names := [(Str.ofString ".0", .local), (Str.ofString "_law_state", .cell), (Str.ofString "_law_columns", .free)], isGenerator := false, isCoroutine := false }
abbrev nMachine : List Str := ["_law_deal", "_law_most", "_law_commands", "_law_many", "_law_form", "_law_columns", "_law_command", "_law_state", "_law_column", "_law_shift"]
def ColOk (n : Nat) (r : List Int) : Prop := r.length = n ∧ ∀ k ∈ r, k ∈ cmds n
def ColAt (W : Addr → Prop) (n : Nat) (H : Hp) (b : Addr) (r : List Int) : Prop := ¬ W b ∧ H b = some (.lst (r.map V.int)) ∧ ColOk n r
theorem Ex.free {W : Addr → Prop} {H H' : Hp} {a : Addr} (s : Ex W H H') (n : ¬ W a) (h : H' a = none) : H a = none := by
  cases e : H a with
  | none => rfl
  | some o =>
    have := s a o n e
    rw [h] at this
    cases this
theorem Deal.ex_off {H H' : Hp} {d g D : Addr} (v : Deal H d g) (s : Ex (fun b => b = D) H H') (n : ¬ WD d g D) : Deal H' d g := by
  obtain ⟨b, ns, v⟩ := v
  exact ⟨b, ns, s _ _ (fun z => n (.inl z.symm)) v.hd, s _ _ (fun z => n (.inr z.symm)) v.hg, v.ne, v.nn, v.b0, v.b1, v.few⟩
theorem ColAt.ex {W : Addr → Prop} {n : Nat} {H H' : Hp} {b : Addr} {r : List Int} (h : ColAt W n H b r) (s : Ex W H H') : ColAt W n H' b r := ⟨h.1, s _ _ h.1 h.2.1, h.2.2⟩
theorem ColAt.upd {W : Addr → Prop} {n : Nat} {H : Hp} {a b : Addr} {o : HO} {r : List Int} (h : ColAt W n H b r) (ne : b ≠ a) : ColAt W n (upd H a o) b r := ⟨h.1, by rw [upd_ne ne]; exact h.2.1, h.2.2⟩
theorem ColAt.ne {W : Addr → Prop} {n : Nat} {H : Hp} {a b : Addr} {r : List Int} {bs : List Addr} (h : ColAt W n H b r) (hn : 0 < n) (ha : H a = some (.lst (bs.map V.ref))) : b ≠ a := fun z => by
  have e := h.2.1
  rw [z, ha] at e
  have hl := h.2.2.1
  cases r with
  | nil => simp at hl; omega
  | cons k r =>
    cases bs with
    | nil => simp at e
    | cons b bs => simp at e
theorem ints_in {n : Nat} : ∀ l : List V, (∀ v ∈ l, ∃ z : Int, z ∈ cmds n ∧ v = .int z) → ∃ cs : List Int, l = cs.map V.int ∧ ∀ z ∈ cs, z ∈ cmds n := by
  intro l
  induction l with
  | nil => exact fun _ => ⟨[], rfl, fun z hz => (nomatch hz)⟩
  | cons v l ih =>
    intro h
    obtain ⟨z, hz, e⟩ := h v List.mem_cons_self
    obtain ⟨cs, e1, e2⟩ := ih fun u hu => h u (List.mem_cons_of_mem _ hu)
    exact ⟨z :: cs, by rw [e, e1]; rfl, fun y hy => (List.mem_cons.mp hy).elim (fun q => by rw [q]; exact hz) (e2 y)⟩
theorem flat_rep (n : Nat) (x : V) : (List.replicate n [x]).flatten = List.replicate n x := by
  induction n with
  | zero => rfl
  | succ n ih => rw [List.replicate_succ, List.flatten_cons, ih, List.replicate_succ]; rfl
section
variable {P : Program} {w : World} {K : PySem.W.Frag} {mg : Str → Option Value} {base : Heap}
def spMachine : Sp := fun vs H Q _ => ∃ (d g : Addr) (m : Nat), vs = [.ref d, .int m] ∧ Deal H d g ∧ 1 ≤ m ∧ m ≤ 100 ∧
  ∀ H' t s (n c : Nat) st, Ex (WD d g) H H' → Deal H' d g → H' t = some (.tup [.int c, .ref s]) → LL (WD d g) H' s st → Mach n c st → n ≤ m → c ≤ 5 → Q (.ref t) H'
theorem scMachine : FnScope nMachine ["_law_deal", "_law_most"] (defScope tMachine) := ⟨rfl, rfl, rfl, by decide +kernel, rfl, by decide +kernel, by decide +kernel⟩
theorem has_machine (B : Bi mg) (G1 : Has P w K mg base 1 "_law_any" ["_law_deal", "_law_bound"] spAny) (G2 : Has P w K mg base 2 "_law_of" ["_law_deal", "_law_some"] spOf) (G3 : Has P w K mg base 2 "_law_mixed" ["_law_deal", "_law_some"] spMixed)
    (D : Df K mg "_law_machine" tMachine) : Has P w K mg base 3 "_law_machine" ["_law_deal", "_law_most"] spMachine := by
  refine D.has (fun F => F.ok scMachine (fun vs H Q E h => ?_) (fun cdv A outer s H vs Q E hr h => ?_)) (fun F => F.binds fun _ _ _ _ _ _ us hl => match us, hl with | [_, _], _ => rfl)
  · obtain ⟨d, g, m, rfl, _⟩ := h
    rfl
  · obtain ⟨d, g, m, rfl, hD, hm1, hm2, q⟩ := h
    refine ⟨_, pss_cons (ps_asg (pe_tup (pa_cons (pe_h G2 hr (by decide) (pa_cons (pv 0) (pa_cons (pe_lst (pa_cons pe_int (pa_cons pe_int (pa_cons pe_int (pa_cons pe_int (pa_cons pe_int (pa_cons pe_int (pa_cons pe_int pa_nil)))))))) pa_nil))) (pa_cons (pe_op op_add pe_int (pe_h G1 hr (by decide) (pa_cons (pv 0) (pa_cons (pv 1) pa_nil)))) (pa_cons (pe_h G1 hr (by decide) (pa_cons (pv 0) (pa_cons pe_int pa_nil))) pa_nil))))
        (pg_tup rfl (pgs_cons (pg_name (i := 2) scMachine.nd rfl (Or.inl rfl)) (pgs_cons (pg_name (i := 3) scMachine.nd rfl (Or.inr rfl)) (pgs_cons (pg_name (i := 4) scMachine.nd rfl (Or.inl rfl)) pgs_nil)))))
      (pss_cons (ps_set (i := 5) scMachine.nd rfl (Or.inr rfl) (pe_lst pa_nil))
      (pss_cons (ps_for PassesOwn.never rfl (pi_range1 rfl B.range (pa_cons (pv 2) pa_nil)) (pg_name (i := 6) scMachine.nd rfl (Or.inl rfl))
        (pss_cons (ps_setLc (i := 8) (own := [("_law_state", 7)]) (g := gName 7) (te := tCl spAny (tCons (tVar 0) (tCons (tVar 3) tNil))) (by rfl) scMachine.nd rfl rfl (sw_true rfl rfl rfl (by decide +kernel)) (pi_range1 rfl B.range (pa_cons (pv 3) pa_nil))
            (blkOk_by (own := [("_law_state", 7)]) (N := nMachine) (sc := defScope tMachine) (by decide +kernel)) (fun _ _ _ _ _ => pg_name (i := 7) scMachine.nd rfl (Or.inl rfl)) (fun _ _ _ _ _ => pts_nil) (fun _ _ _ _ _ => by exact (pe_h G1 hr (by decide) (pa_cons (pv 0) (pa_cons (pv 3) pa_nil)))))
        (pss_cons (ps_if (pt_cmpR op_eq (pv 4) pe_int (nomark _)) (pss_one (ps_set (i := 8) scMachine.nd rfl (Or.inl rfl) (pe_h G3 hr (by decide) (pa_cons (pv 0) (pa_cons (pe_listRg rfl (by rfl) B.list (prg_1 rfl B.range (pv 3))) pa_nil))))) pss_nil)
        (pss_cons (ps_if (pt_cmpR op_eq (pv 4) pe_int (nomark _))
            (pss_cons (ps_set (i := 9) scMachine.nd rfl (Or.inr rfl) (pe_h G1 hr (by decide) (pa_cons (pv 0) (pa_cons (pv 3) pa_nil))))
            (pss_one (ps_setLc (i := 8) (own := [("_law_state", 7)]) (g := gName 7) (te := tOp (rI (fun _ j => 0 < j) fun i j => .int (i % j)) (tCB (fun xs H Q => (∃ i, xs = [.int i] ∧ Q (.int i) H) ∨ ∃ k, xs = [.bl k] ∧ Q (.int (if k then 1 else 0)) H) (tCons (tOp (rI0 fun i j => .int (i + j)) (tVar 7) (tVar 9)) tNil)) (tVar 3)) (by rfl) scMachine.nd rfl rfl (sw_true rfl rfl rfl (by decide +kernel)) (pi_range1 rfl B.range (pa_cons (pv 3) pa_nil))
              (blkOk_by (own := [("_law_state", 7)]) (N := nMachine) (sc := defScope tMachine) (by decide +kernel)) (fun _ _ _ _ _ => pg_name (i := 7) scMachine.nd rfl (Or.inl rfl)) (fun _ _ _ _ _ => pts_nil)
              (fun _ _ _ _ _ => by exact (pe_op op_mod (pe_callTy call_int1 (by rfl) B.int (by decide +kernel) (pa_cons (pe_op op_add (pv 7) (pv 9)) pa_nil)) (pv 3)))))) pss_nil)
        (pss_cons (ps_if (PW.pt (pw_and (pt_cmpR op_eq (pv 4) pe_int (nomark _)) (pw_and1 (pt_cmpR op_eq (pe_h G1 hr (by decide) (pa_cons (pv 0) (pa_cons pe_int pa_nil))) pe_int (nomark _)))))
            (pss_one (ps_set (i := 8) scMachine.nd rfl (Or.inl rfl) (pe_op op_rep (pe_lst (pa_cons (pe_ix ix_list (pv 8) pe_int (fun _ _ => rfl)) pa_nil)) (pv 3)))) pss_nil)
        (pss_one (ps_expr (pe_bm PySem.F.plainAttrs_list PySem.F.slot_list_append PySem.F.type_list_append mt_append (pv 5) (pa_cons (pv 8) pa_nil)))))))))
      (pss_one (ps_ret (pe_tup (pa_cons (pv 2) (pa_cons (pe_lc (own := [("_law_state", 7)]) (g := gName 7) (te := tLc (iList K (tVar 5)) (gName 8) tYes (tOp (rIxL K) (tVar 8) (tVar 7)) [8]) (by rfl) scMachine.nd (pi_range1 rfl B.range (pa_cons (pv 3) pa_nil))
            (blkOk_by (own := [("_law_state", 7)]) (N := nMachine) (sc := defScope tMachine) (by decide +kernel)) (fun _ _ _ _ _ => pg_name (i := 7) scMachine.nd rfl (Or.inr rfl)) (fun _ _ _ _ _ => pts_nil)
            (fun _ _ _ _ _ => by exact (pe_lc (own := [("_law_column", 8)]) (g := gName 8) (te := tOp (rIxL K) (tVar 8) (tVar 7)) (by rfl) scMachine.nd (pi_list (pv 5)) (blkOk_by (own := [("_law_column", 8)]) (N := nMachine) (sc := relS scSt (defScope tMachine)) (by decide +kernel))
              (fun _ _ _ _ _ => pg_name (i := 8) scMachine.nd rfl (Or.inl rfl)) (fun _ _ _ _ _ => pts_nil) (fun _ _ _ _ _ => by exact (pe_ix ix_list (pv 8) (pv 7) (fun _ _ => rfl)))))) pa_nil))))))), ?_⟩
    have big : 1000 < sizeLine := by decide
    refine ⟨_, rfl, by show 7 ≤ sizeLine; omega, fun a ha => ⟨d, g, a, _, rfl, hD.same (same_new ha), wd_new hD ha, upd_same, by show 1 ≤ 7; decide, by show 7 < 1000000; decide, fun H1 x e1 D1 hx => ?_⟩⟩
    have eA : Ex (WD d g) H H1 := (Ex.new ha).trans e1
    obtain ⟨c, rfl, hc1, hc5⟩ : ∃ c : Nat, x = .int (c : Int) ∧ 1 ≤ c ∧ c ≤ 5 := by
      simp only [List.mem_cons, List.not_mem_nil, or_false] at hx
      rcases hx with e | e | e | e | e | e | e
      · exact ⟨2, e, by decide, by decide⟩
      · exact ⟨2, e, by decide, by decide⟩
      · exact ⟨1, e, by decide, by decide⟩
      · exact ⟨3, e, by decide, by decide⟩
      · exact ⟨2, e, by decide, by decide⟩
      · exact ⟨4, e, by decide, by decide⟩
      · exact ⟨5, e, by decide, by decide⟩
    refine ⟨_, rfl, _, rfl, d, g, m, rfl, D1, by omega, by omega, fun H2 r e2 D2 r0 r1 => ⟨_, _, rfl, rfl, ?_⟩⟩
    obtain ⟨n, hn⟩ : ∃ n : Nat, 1 + r = (n : Int) := ⟨(1 + r).toNat, by omega⟩
    simp only [hn]
    have hn1 : 0 < n := by omega
    have hnm : n ≤ m := by omega
    refine ⟨_, rfl, d, g, 5, rfl, D2, by decide, by decide, fun H3 f e3 D3 f0 f1 => ⟨by show 3 ≤ sizeLine; omega, fun tp htp => ⟨tp, _, rfl, SqT.of upd_same, rfl, _, _, rfl, _, _, rfl, _, _, rfl, rfl, ?_⟩⟩⟩
    have eB : Ex (WD d g) H (upd H3 tp (.tup [.int c, .int n, .int f])) := ((eA.trans e2).trans e3).trans (Ex.new htp)
    have D4 := D3.same (same_new (o := .tup [.int c, .int n, .int f]) htp)
    generalize upd H3 tp (.tup [.int c, .int n, .int f]) = H4 at eB D4
    refine ⟨Nat.zero_le _, fun cl hcl => ?_⟩
    have clW := wd_new D4 hcl
    have hcl0 : H cl = none := eB.free clW hcl
    have eC : Ex (WD d g) H (upd H4 cl (.lst [])) := eB.put_new hcl0
    have D5 := D4.off (o := .lst []) clW
    have hc5' : upd H4 cl (.lst []) cl = some (.lst ([] : List V)) := upd_same
    generalize upd H4 cl (.lst []) = H5 at eC D5 hc5'
    refine ⟨_, rfl, _, rfl, by omega, by omega, for_it (walk_range (lo := 0) (n := c)) (fun i σ H' => ∃ (v6 v8 v9 : Option V) (bs : List Addr) (cols : List (List Int)), σ = [some (.ref d), some (.int m), some (.int c), some (.int n), some (.int f), some (.ref cl), v6, none, v8, v9] ∧ Ex (WD d g) H H' ∧ Deal H' d g ∧ H' cl = some (.lst (bs.map V.ref)) ∧ Paired (ColAt (WD d g) n H') bs cols ∧ cols.length = i)
      ⟨none, none, none, [], [], rfl, eC, D5, hc5', .nil, rfl⟩ (fun _ _ _ _ _ => trivial) ?_ ?_⟩
    · rintro i x σ H60 H6 hi ⟨v6, v8, v9, bs, cols, rfl, e6, D6, hcl6, pc6, hcl⟩ ⟨rfl, rfl⟩
      have fin : ∀ (b : Addr) (r : List Int) (v9 : Option V) (H' : Hp), Ex (WD d g) H H' → Deal H' d g → H' cl = some (.lst (bs.map V.ref)) → Paired (ColAt (WD d g) n H') bs cols → ColAt (WD d g) n H' b r →
          ∃ (v6' v8 v9' : Option V) (bs' : List Addr) (cols' : List (List Int)), [some (V.ref d), some (.int m), some (.int c), some (.int n), some (.int f), some (.ref cl), some (.int (0 + (i : Int))), none, some (.ref b), v9] = [some (.ref d), some (.int m), some (.int c), some (.int n), some (.int f), some (.ref cl), v6', none, v8, v9'] ∧ Ex (WD d g) H (upd H' cl (.lst (bs.map V.ref ++ [.ref b]))) ∧ Deal (upd H' cl (.lst (bs.map V.ref ++ [.ref b]))) d g ∧ (upd H' cl (.lst (bs.map V.ref ++ [.ref b]))) cl = some (.lst (bs'.map V.ref)) ∧ Paired (ColAt (WD d g) n (upd H' cl (.lst (bs.map V.ref ++ [.ref b])))) bs' cols' ∧ cols'.length = i + 1 := fun b r v9 H' e D' hc pc hb =>
        ⟨_, _, _, bs ++ [b], cols ++ [r], rfl, e.put_new hcl0, D'.off clW, by rw [upd_same, List.map_append]; rfl, pd_app (pd_imp (fun _ _ h => h.upd (h.ne hn1 hc)) pc) (.cons (hb.upd (hb.ne hn1 hc)) .nil), by rw [List.length_append, List.length_singleton, hcl]⟩
      have hbl : bs.length < sizeLine := by
        rw [Paired.length pc6, hcl]
        omega
      refine ⟨_, rfl, _, rfl, by omega, by omega, fun Dl hDl => lc_fill (walk_range (lo := 0) (n := n)) (WD d g) (fun H => Deal H d g) (fun _ _ v => ∃ z : Int, z ∈ cmds n ∧ v = .int z) hDl (by omega) (wd_new D6 hDl) (fun H H' s v => v.ex_off s (wd_new D6 hDl)) (fun _ _ _ _ _ _ _ h => h) D6
        (fun H' e _ => trivial) (fun j x H' H'' hj e v _ hy Q k => ?_) mono_yes (mono_name 7) (fun H7 acc e7 D7 hd7 hl7 hr7 => ?_)⟩
      · obtain ⟨rfl, rfl⟩ := hy
        refine ⟨rfl, rfl, _, rfl, _, rfl, d, g, n, rfl, v, by omega, by omega, fun H8 r e8 D8 q0 q1 => k _ _ e8 D8 ⟨r, mem_cmds.mpr ⟨q0, q1⟩, rfl⟩⟩
      · obtain ⟨col, rfl, hin⟩ := ints_in acc fun v hv => by
          obtain ⟨j, hj⟩ := List.getElem?_of_mem hv
          exact hr7 j v hj
        have hcol : ColAt (WD d g) n H7 Dl col := ⟨wd_new D6 hDl, hd7, by rw [List.length_map] at hl7; exact hl7, hin⟩
        have eD := e6.trans e7
        have hcl7 := e7 _ _ clW hcl6
        have pc7 := pd_imp (fun _ _ h => ColAt.ex h e7) pc6
        by_cases h0 : f = 0
        · subst h0
          refine ⟨_, rfl, rfl, _, rfl, iteT ⟨_, rfl, _, rfl, n, rfl, RgOk.of_le (by omega) (by omega) (by omega) (by omega), fun lr hlr => ?_⟩⟩
          refine ⟨d, g, lr, cmds n, rfl, D7.same (same_new hlr), wd_new D7 hlr, by rw [upd_same, rgV_cmds], by rw [cmds_length]; omega, fun H8 b l e8 D8 hb0 hb hlen hsub => ?_⟩
          have e9 : Ex (WD d g) H7 H8 := (Ex.new hlr).trans e8
          have hcl8 := e9 _ _ clW hcl7
          have pc8 := pd_imp (fun _ _ h => ColAt.ex h e9) pc7
          refine ⟨_, rfl, rfl, _, rfl, iteDF (fun z => absurd (V.int.inj z) (by decide)) ⟨_, rfl, rfl, _, rfl, iteDF (fun z => absurd (V.int.inj z) (by decide)) ?_⟩⟩
          exact ⟨_, rfl, .inl ⟨rfl, _, SqL.of hcl8⟩, _, rfl, cl, _, _, rfl, rfl, hcl8, by rw [List.length_map]; exact hbl, fin b l _ H8 (eD.trans e9) D8 hcl8 pc8 ⟨wd_new (D7.same (same_new (o := .lst (rgV 0 n)) hlr)) hb0, hb, by rw [hlen, cmds_length], hsub⟩⟩
        · refine ⟨_, rfl, rfl, _, rfl, iteDF (fun z => h0 (V.int.inj z)) ?_⟩
          by_cases h1 : f = 1
          · subst h1
            refine ⟨_, rfl, rfl, _, rfl, iteT ⟨_, rfl, _, rfl, d, g, n, rfl, D7, by omega, by omega, fun H8 sh e8 D8 q0 q1 => ?_⟩⟩
            refine ⟨_, rfl, _, rfl, by omega, by omega, fun D2 hD2 => lc_fill (walk_range (lo := 0) (n := n)) NoW (fun _ => True) (fun _ _ v => ∃ z : Int, z ∈ cmds n ∧ v = .int z) hD2 (by omega) (fun z => z) (fun _ _ _ _ => trivial) (fun _ _ _ _ _ _ _ h => h) trivial
              (fun H' e _ => trivial) (fun j x H' H'' hj e v _ hy Q k => ?_) mono_yes (mono_name 7) (fun H9 acc e9 _ hd9 hl9 hr9 => ?_)⟩
            · obtain ⟨rfl, rfl⟩ := hy
              exact ⟨rfl, rfl, _, rfl, _, rfl, _, _, rfl, rfl, .inl ⟨_, rfl, _, rfl, _, _, rfl, rfl, (by omega : (0 : Int) < n), k _ _ (Ex.refl _ _) trivial ⟨_, mem_cmds.mpr ⟨Int.emod_nonneg _ (by omega), Int.emod_lt_of_pos _ (by omega)⟩, rfl⟩⟩⟩
            · obtain ⟨col2, rfl, hin2⟩ := ints_in acc fun v hv => by
                obtain ⟨j, hj⟩ := List.getElem?_of_mem hv
                exact hr9 j v hj
              have s9 : Ex (WD d g) H8 H9 := Ex.of e9.same
              have eE := (eD.trans e8).trans s9
              have hcl9 := (e8.trans s9) _ _ clW hcl7
              have pc9 := pd_imp (fun _ _ h => ColAt.ex h (e8.trans s9)) pc7
              refine ⟨_, rfl, rfl, _, rfl, iteDF (fun z => absurd (V.int.inj z) (by decide)) ?_⟩
              exact ⟨_, rfl, .inl ⟨rfl, _, SqL.of hcl9⟩, _, rfl, cl, _, _, rfl, rfl, hcl9, by rw [List.length_map]; exact hbl, fin D2 col2 _ H9 eE (D8.same e9.same) hcl9 pc9 ⟨wd_new D8 hD2, hd9, by rw [List.length_map] at hl9; exact hl9, hin2⟩⟩
          · refine ⟨_, rfl, rfl, _, rfl, iteDF (fun z => h1 (V.int.inj z)) ?_⟩
            by_cases h2 : f = 2
            · subst h2
              refine ⟨_, rfl, rfl, _, rfl, iteT ⟨_, rfl, d, g, 2, rfl, D7, by decide, by decide, fun H8 z e8 D8 q0 q1 => ⟨rfl, _, rfl, ?_⟩⟩⟩
              have hcl8 := e8 _ _ clW hcl7
              have pc8 := pd_imp (fun _ _ h => ColAt.ex h e8) pc7
              have hcol8 := hcol.ex e8
              have eE := eD.trans e8
              by_cases hz : z = 0
              · refine iteDT (congrArg V.int hz) ?_
                obtain ⟨x0, rest, hx0⟩ : ∃ x0 rest, col = x0 :: rest := by
                  have := hcol.2.2.1
                  cases col with
                  | nil => simp at this; omega
                  | cons x0 rest => exact ⟨x0, rest, rfl⟩
                subst hx0
                refine ⟨_, rfl, Dl, _, 0, .int x0, rfl, rfl, SqL.of hcol8.2.1, at0, by show 1 ≤ sizeLine; omega, fun p1 hp1 => ?_⟩
                refine ⟨_, rfl, p1, n, _, rfl, rfl, upd_same, by omega, by omega, by show 1 * (n : Int).toNat ≤ sizeLine; omega, fun p2 hp2 => ?_⟩
                have s8 : Same H8 (upd (upd H8 p1 (.lst [.int x0])) p2 (.lst (List.replicate (n : Int).toNat [V.int x0]).flatten)) := (same_new hp1).trans (same_new hp2)
                have eF := eE.trans (Ex.of s8)
                have D9 := D8.same s8
                have hcl9 := s8 _ _ hcl8
                have pc9 := pd_imp (fun _ _ h => ColAt.ex h (Ex.of s8)) pc8
                have p2W := wd_new (D8.same (same_new (o := .lst [.int x0]) hp1)) hp2
                have e2' : (upd (upd H8 p1 (.lst [.int x0])) p2 (.lst (List.replicate (n : Int).toNat [V.int x0]).flatten)) p2 = some (.lst ((List.replicate n x0).map V.int)) := by
                  rw [upd_same, flat_rep, List.map_replicate, Int.toNat_natCast]
                generalize upd (upd H8 p1 (.lst [.int x0])) p2 (.lst (List.replicate (n : Int).toNat [V.int x0]).flatten) = H9 at s8 eF D9 hcl9 pc9 e2' ⊢
                exact ⟨_, rfl, .inl ⟨rfl, _, SqL.of hcl9⟩, _, rfl, cl, _, _, rfl, rfl, hcl9, by rw [List.length_map]; exact hbl, fin p2 (List.replicate n x0) _ H9 eF D9 hcl9 pc9 ⟨p2W, e2', List.length_replicate, fun k hk => by rw [(List.mem_replicate.mp hk).2]; exact hcol.2.2.2 _ List.mem_cons_self⟩⟩
              · refine iteDF (fun e => hz (V.int.inj e)) ?_
                exact ⟨_, rfl, .inl ⟨rfl, _, SqL.of hcl8⟩, _, rfl, cl, _, _, rfl, rfl, hcl8, by rw [List.length_map]; exact hbl, fin Dl col _ H8 eE D8 hcl8 pc8 hcol8⟩
            · refine ⟨_, rfl, rfl, _, rfl, iteDF (fun z => h2 (V.int.inj z)) ?_⟩
              exact ⟨_, rfl, .inl ⟨rfl, _, SqL.of hcl7⟩, _, rfl, cl, _, _, rfl, rfl, hcl7, by rw [List.length_map]; exact hbl, fin Dl col _ H7 eD D7 hcl7 pc7 hcol⟩
    · rintro σ H6 ⟨v6, v8, v9, bs, cols, rfl, e6, D6, hcl6, pc6, hcl⟩
      have hbl : bs.length = c := (Paired.length pc6).trans hcl
      refine ⟨_, rfl, _, rfl, _, rfl, by omega, by omega, fun Dl hDl => lc_fill (walk_range (lo := 0) (n := n)) NoW (fun _ => True) (fun i H' v => ∃ b, v = .ref b ∧ b ≠ Dl ∧ ¬ WD d g b ∧ H' b = some (.lst ((cols.map fun col => col.getD i 0).map V.int))) hDl (by omega) (fun z => z) (fun _ _ _ _ => trivial)
        (fun i v H4 H5 e _ _ ⟨b, e1, e2, e3, e4⟩ => ⟨b, e1, e2, e3, e _ _ (fun z => z.elim id e2) e4⟩) trivial (fun H' e _ => trivial) (fun i x H' H'' hi e _ hdl hy Q k => ?_) mono_yes (mono_name 7) (fun H7 acc e7 _ hd7 hl7 hr7 => ?_)⟩
      · obtain ⟨rfl, rfl⟩ := hy
        have hcl' := e.same _ _ hcl6
        have pc' := pd_imp (fun _ _ h => ColAt.ex h (Ex.of e.same)) pc6
        refine ⟨rfl, rfl, _, rfl, cl, rfl, ⟨_, SqL.of hcl'⟩, fun D2 hD2 => lc_fill (walk_list (xs := bs.map V.ref)) (fun _ => False) (fun _ => True) (fun j _ v => ∃ z, (cols.map fun col => col.getD i 0)[j]? = some z ∧ v = .int z) hD2 (by rw [List.length_map]; omega) (fun z => z) (fun _ _ _ _ => trivial)
          (fun _ _ _ _ _ _ _ h => h) trivial (fun H2 e2 _ => SqL.of (e2.same _ _ hcl')) (fun j x2 H2 H2' hj e2 _ _ hy2 Q2 k2 => ?_) mono_yes (mono_name 8) (fun H2 acc2 e2 _ hd2 hl2 hr2 => ?_)⟩
        · obtain ⟨rfl, hx2⟩ := hy2
          obtain ⟨b, hb, rfl⟩ := get_ref hx2
          obtain ⟨col, hcol, hcb⟩ := pd_at1 pc' hb
          have hlt : i < col.length := by rw [hcb.2.2.1]; exact hi
          have e0 : (0 : Int) + (i : Int) = ((i : Nat) : Int) := Int.zero_add _
          refine ⟨rfl, rfl, _, rfl, _, rfl, b, _, _, .int col[i], rfl, rfl, SqL.of (e2.same _ _ hcb.2.1), ?_, k2 _ _ (Ex.refl _ _) trivial ⟨_, ?_, rfl⟩⟩
          · rw [e0]
            exact atI_nat (by rw [List.getElem?_map, List.getElem?_eq_getElem hlt]; rfl)
          · rw [List.getElem?_map, hcol]
            show some (col.getD i 0) = some col[i]
            rw [List.getD_eq_getElem?_getD, List.getElem?_eq_getElem hlt]
            rfl
        · have ea : acc2 = (cols.map fun col => col.getD i 0).map V.int := lst_int (by rw [hl2, List.length_map, List.length_map, hbl, hcl]) hr2
          obtain ⟨acc0, hdl⟩ := hdl
          exact k _ _ (Ex.of e2.same) trivial ⟨D2, rfl, (ne_of_none hdl hD2).symm, wd_new (D6.same e.same) hD2, by rw [hd2, ea]⟩
      · refine ⟨by show 2 ≤ sizeLine; omega, fun t ht => ?_⟩
        have s7 : Same H6 (upd H7 t (.tup [.int c, .ref Dl])) := e7.same.trans (same_new ht)
        have pr : Paired (fun v r => ∃ b, v = V.ref b ∧ (¬ WD d g b ∧ (upd H7 t (.tup [.int c, .ref Dl])) b = some (.lst (r.map V.int)))) acc ((List.range n).map fun i => cols.map fun col => col.getD i 0) := pd_of (by rw [hl7, List.length_map, List.length_range]) fun i v r h1 h2 => by
          obtain ⟨b, e1, e2, e3, e4⟩ := hr7 i v h1
          have hi : i < n := by
            have := (List.getElem?_eq_some_iff.mp h1).1
            omega
          rw [List.getElem?_map, List.getElem?_range hi] at h2
          cases h2
          exact ⟨b, e1, e3, same_new ht _ _ e4⟩
        obtain ⟨rs, ers, prs⟩ := pd_refs pr
        refine q _ t Dl n c _ (e6.trans (Ex.of s7)) (D6.same s7) upd_same ⟨wd_new D6 hDl, rs, ?_, prs⟩ ?_ hnm hc5
        · rw [← ers]
          exact same_new ht _ _ hd7
        · refine ⟨by rw [List.length_map, List.length_range], hn1, hc1, fun r hr => ?_⟩
          obtain ⟨i, hi, rfl⟩ := List.mem_map.mp hr
          have hi := List.mem_range.mp hi
          refine ⟨by rw [List.length_map, hcl], fun x hx => ?_⟩
          obtain ⟨col, hcol, rfl⟩ := List.mem_map.mp hx
          obtain ⟨j, hj⟩ := List.getElem?_of_mem hcol
          obtain ⟨b, _, hcb⟩ := pd_at pc6 hj
          have hlt : i < col.length := by rw [hcb.2.2.1]; exact hi
          rw [List.getD_eq_getElem?_getD, List.getElem?_eq_getElem hlt]
          exact hcb.2.2.2 _ (List.getElem_mem hlt)
end
end K02

set_option Elab.async false
set_option linter.all false
set_option maxRecDepth 100000
set_option maxHeartbeats 8000000
namespace K02
open PySem L2
abbrev tLawLed : Stmt := top 29
abbrev tRows : Stmt := top 30
abbrev tLawEffect : Stmt := top 32
abbrev tGrown : Stmt := top 33
theorem LL.no {W : Addr → Prop} {H : Hp} {a : Addr} {l : List (List Int)} (h : LL W H a l) : LL NoW H a l := let ⟨_, bs, h1, h2⟩ := h; ⟨fun z => z, bs, h1, pd_imp (fun _ _ q => ⟨fun z => z, q.2⟩) h2⟩
theorem LL.same {W : Addr → Prop} {H H' : Hp} {a : Addr} {l : List (List Int)} (h : LL W H a l) (s : Same H H') : LL W H' a l := h.ex (Ex.of s)
theorem LL.row {W : Addr → Prop} {H : Hp} {a : Addr} {l : List (List Int)} (h : LL W H a l) {i : Nat} {r : List Int} (e : l[i]? = some r) : ∃ (bs : List Addr) (b : Addr), H a = some (.lst (bs.map V.ref)) ∧ (bs.map V.ref)[i]? = some (.ref b) ∧ H b = some (.lst (r.map V.int)) := by
  obtain ⟨_, bs, h1, h2⟩ := h
  obtain ⟨b, e1, e2⟩ := pd_at h2 e
  exact ⟨bs, b, h1, by rw [List.getElem?_map, e1]; rfl, e2.2⟩
/-- a row as a tuple or a list -/
def RowAt (H : Hp) (t : Addr) (r : Row) : Prop := TI H t r ∨ H t = some (.lst (r.map V.int))
theorem RowAt.same {H H' : Hp} {t : Addr} {r : Row} (h : RowAt H t r) (s : Same H H') : RowAt H' t r := h.elim (fun h => .inl (h.same s)) fun h => .inr (s _ _ h)
section
variable {P : Program} {w : World} {K : PySem.W.Frag} {mg : Str → Option Value} {base : Heap}
def spLawLed : Sp := fun vs H Q _ => ∃ (s t : Addr) (n c : Nat) (st : List (List Int)) (a : Int) (row : Row), vs = [.ref s, .int a, .ref t] ∧ LL NoW H s st ∧ Mach n c st ∧ a ∈ cmds n ∧ RowAt H t row ∧ (∀ k ∈ row, k ∈ cmds c) ∧ Q (.int (ledM st a row)) H
theorem scLawLed : FnScope ["_law_steps", "_law_state", "_law_row", "_law_command"] ["_law_steps", "_law_state", "_law_row"] (defScope tLawLed) := ⟨rfl, rfl, rfl, by decide +kernel, rfl, by decide +kernel, by decide +kernel⟩
theorem has_lawled (D : Df K mg "_law_led" tLawLed) : Has P w K mg base 1 "_law_led" ["_law_steps", "_law_state", "_law_row"] spLawLed := by
  refine D.has (fun F => F.ok scLawLed (fun vs H Q E h => ?_) (fun cdv A outer s H vs Q E hr h => ?_)) (fun F => F.binds fun _ _ _ _ _ _ us hl => match us, hl with | [_, _, _], _ => rfl)
  · obtain ⟨s, t, n, c, st, a, row, rfl, _⟩ := h
    rfl
  · obtain ⟨s0, t, n, c, st, a, row, rfl, hs, M, ha, ht, hrow, q⟩ := h
    have step : ∀ (i : Nat) (k : Int), row[i]? = some k → ∃ (bs : List Addr) (b : Addr) (rw_ : List Int), H s0 = some (.lst (bs.map V.ref)) ∧ atI (bs.map V.ref) (ledM st a (row.take i)) = some (.ref b) ∧ H b = some (.lst (rw_.map V.int)) ∧ atI (rw_.map V.int) k = some (.int (ledM st a (row.take (i + 1)))) := fun i k hk => by
      have hnow : ledM st a (row.take i) ∈ cmds n := M.led_in ha fun k hk => hrow k (List.mem_of_mem_take hk)
      have hkc := hrow k (List.mem_of_getElem? hk)
      obtain ⟨r, h1, h2, h3, h4⟩ := M.cell hnow hkc
      obtain ⟨bs, b, e1, e2, e3⟩ := hs.row h1
      refine ⟨bs, b, r, e1, ?_, e3, ?_⟩
      · rw [nat_of hnow]
        exact atI_nat e2
      · rw [take_more hk]
        have e : ledM st a (row.take i ++ [k]) = stp st (ledM st a (row.take i)) k := by
          unfold ledM
          rw [List.foldl_append]
          rfl
        have z : atI (r.map V.int) ((k.toNat : Nat) : Int) = some (.int (stp st (ledM st a (row.take i)) k)) := atI_nat (by rw [List.getElem?_map, h3]; rfl)
        rw [← nat_of hkc] at z
        rw [e]
        exact z
    rcases ht with ht | ht
    · refine ⟨_, pss_cons (ps_for PassesOwn.never rfl (pi_tup (pv 2)) (pg_name (i := 3) scLawLed.nd rfl (Or.inl rfl))
        (pss_one (ps_set (i := 1) scLawLed.nd rfl (Or.inl rfl) (pe_ix ix_list (pe_ix ix_list (pv 0) (pv 1) (fun _ _ => rfl)) (pv 3) (fun _ _ => rfl))))) (pss_one (ps_ret (pv 1))), ?_⟩
      refine ⟨_, rfl, t, rfl, ⟨_, ht.sq⟩, for_tup (K := K) (a := t) (xs := row.map V.int) (fun i σ H' => ∃ v, σ = [some (.ref s0), some (.int (ledM st a (row.take i))), some (.ref t), v] ∧ H' = H) ⟨none, rfl, rfl⟩ (fun i σ H' _ ⟨_, _, e⟩ => by rw [e]; exact ht.sq) ?_ ?_⟩
      · rintro i x σ H' hi ⟨v, rfl, rfl⟩
        obtain ⟨k, hk, rfl⟩ := get_int hi
        obtain ⟨bs, b, r, e1, e2, e3, e4⟩ := step i k hk
        exact ⟨_, rfl, _, rfl, s0, _, _, .ref b, rfl, rfl, SqL.of e1, e2, _, rfl, b, _, _, _, rfl, rfl, SqL.of e3, e4, some (.int k), rfl, rfl⟩
      · rintro σ H' ⟨v, rfl, rfl⟩
        rw [List.length_map, List.take_length]
        exact ⟨_, rfl, q⟩
    · refine ⟨_, pss_cons (ps_for PassesOwn.never rfl (pi_list (pv 2)) (pg_name (i := 3) scLawLed.nd rfl (Or.inl rfl))
        (pss_one (ps_set (i := 1) scLawLed.nd rfl (Or.inl rfl) (pe_ix ix_list (pe_ix ix_list (pv 0) (pv 1) (fun _ _ => rfl)) (pv 3) (fun _ _ => rfl))))) (pss_one (ps_ret (pv 1))), ?_⟩
      refine ⟨_, rfl, t, rfl, ⟨_, SqL.of ht⟩, for_list (K := K) (a := t) (xs := row.map V.int) (fun i σ H' => ∃ v, σ = [some (.ref s0), some (.int (ledM st a (row.take i))), some (.ref t), v] ∧ H' = H) ⟨none, rfl, rfl⟩ (fun i σ H' _ ⟨_, _, e⟩ => by rw [e]; exact SqL.of ht) ?_ ?_⟩
      · rintro i x σ H' hi ⟨v, rfl, rfl⟩
        obtain ⟨k, hk, rfl⟩ := get_int hi
        obtain ⟨bs, b, r, e1, e2, e3, e4⟩ := step i k hk
        exact ⟨_, rfl, _, rfl, s0, _, _, .ref b, rfl, rfl, SqL.of e1, e2, _, rfl, b, _, _, _, rfl, rfl, SqL.of e3, e4, some (.int k), rfl, rfl⟩
      · rintro σ H' ⟨v, rfl, rfl⟩
        rw [List.length_map, List.take_length]
        exact ⟨_, rfl, q⟩
/-! ### the effect of a row -/
def spLawEff : Sp := fun vs H Q _ => ∃ (s t : Addr) (n c : Nat) (st : List (List Int)) (row : Row), vs = [.ref s, .ref t] ∧ LL NoW H s st ∧ Mach n c st ∧ n ≤ 100 ∧ RowAt H t row ∧ (∀ k ∈ row, k ∈ cmds c) ∧ ∀ H' p, Same H H' → TI H' p (eff st n row) → Q (.ref p) H'
theorem scLawEff : FnScope ["_law_steps", "_law_row", "_law_state"] ["_law_steps", "_law_row"] (defScope tLawEffect) := ⟨rfl, rfl, rfl, by decide +kernel, rfl, by decide +kernel, by decide +kernel⟩
theorem has_laweff (B : Bi mg) (G : Has P w K mg base 1 "_law_led" ["_law_steps", "_law_state", "_law_row"] spLawLed) (D : Df K mg "_law_effect" tLawEffect) : Has P w K mg base 2 "_law_effect" ["_law_steps", "_law_row"] spLawEff := by
  refine D.has (fun F => F.ok scLawEff (fun vs H Q E h => ?_) (fun cdv A outer s H vs Q E hr h => ?_)) (fun F => F.binds fun _ _ _ _ _ _ us hl => match us, hl with | [_, _], _ => rfl)
  · obtain ⟨s, t, n, c, st, row, rfl, _⟩ := h
    rfl
  · obtain ⟨s0, t, n, c, st, row, rfl, hs, M, hn, ht, hrow, q⟩ := h
    refine ⟨_, pss_one (ps_ret (pe_tupleOf (by rfl) B.tuple (pe_lc (own := [("_law_state", 2)]) (g := gName 2) (te := tCl spLawLed (tCons (tVar 0) (tCons (tVar 2) (tCons (tVar 1) tNil)))) (by rfl) scLawEff.nd (pi_range1 rfl B.range (pa_cons (pe_callB call_len_seq (by rfl) B.len PySem.boot_len (pa_cons (pv 0) pa_nil)) pa_nil))
      (blkOk_by (own := [("_law_state", 2)]) (N := ["_law_steps", "_law_row", "_law_state"]) (sc := defScope tLawEffect) (by decide +kernel)) (fun _ _ _ _ _ => pg_name (i := 2) scLawEff.nd rfl (Or.inl rfl)) (fun _ _ _ _ _ => pts_nil)
      (fun _ _ _ _ _ => by exact (pe_h G hr (by decide) (pa_cons (pv 0) (pa_cons (pv 2) (pa_cons (pv 1) pa_nil)))))))), ?_⟩
    obtain ⟨_, bs, hbs, pbs⟩ := id hs
    have hbl : (bs.map V.ref).length = n := by rw [List.length_map]; exact (Paired.length pbs).trans M.len
    refine ⟨_, rfl, _, _, rfl, .inl (SqL.of hbs), ?_⟩
    rw [hbl]
    refine ⟨_, rfl, by omega, by omega, fun Dl hD => lc_fill (walk_range (lo := 0) (n := n)) NoW (fun _ => True) (fun i _ v => ∃ z, (eff st n row)[i]? = some z ∧ v = .int z) hD (by omega) (fun z => z) (fun _ _ _ _ => trivial)
      (fun _ _ _ _ _ _ _ h => h) trivial (fun H' e _ => trivial) (fun i x H' H'' hi e _ _ hy Q k => ?_) mono_yes (mono_name 2) (fun H' acc e _ hd hl2 hr2 => ?_)⟩
    · obtain ⟨rfl, rfl⟩ := hy
      have e0 : (0 : Int) + (i : Int) = ((i : Nat) : Int) := Int.zero_add _
      have hin : (0 + (i : Int)) ∈ cmds n := mem_cmds.mpr ⟨by omega, by omega⟩
      refine ⟨rfl, rfl, _, rfl, _, rfl, _, rfl, s0, t, n, c, st, _, row, rfl, hs.same e.same, M, hin, ht.same e.same, hrow, k _ _ (Ex.refl _ _) trivial ⟨_, ?_, rfl⟩⟩
      unfold eff
      rw [List.getElem?_map, cmds_get hi, e0]
      rfl
    · have ea : acc = (eff st n row).map V.int := lst_int (by rw [hl2]; unfold eff; rw [List.length_map, cmds_length]) hr2
      refine .inl ⟨Dl, acc, rfl, SqL.of hd, fun r hr => q _ r (e.same.trans (same_new hr)) ?_⟩
      show upd _ r _ r = _
      rw [upd_same, ea]
end
end K02

set_option Elab.async false
set_option linter.all false
set_option maxRecDepth 100000
set_option maxHeartbeats 8000000
namespace K02
open PySem L2
theorem pow_le {c i L : Nat} (hc : 1 ≤ c) (h : i ≤ L) : c ^ i ≤ c ^ L := Nat.pow_le_pow_right hc h
theorem flat_take {α β : Type} {l : List α} {i : Nat} {x : α} {f : α → List β} (h : l[i]? = some x) : (l.take (i + 1)).flatMap f = (l.take i).flatMap f ++ f x := by
  rw [take_more h, List.flatMap_append]
  simp
theorem flat_le {α β : Type} {l : List α} {f : α → List β} (i : Nat) : ((l.take i).flatMap f).length ≤ (l.flatMap f).length := by
  have e : l.flatMap f = (l.take i).flatMap f ++ (l.drop i).flatMap f := by rw [← List.flatMap_append, List.take_append_drop]
  rw [e, List.length_append]
  omega
section
variable {P : Program} {w : World} {K : PySem.W.Frag} {mg : Str → Option Value} {base : Heap}
def spRows : Sp := fun vs H Q _ => ∃ (c L : Nat), vs = [.int c, .int L] ∧ 1 ≤ c ∧ c ≤ 100 ∧ L ≤ 100 ∧ c ^ L ≤ 1000 ∧ ∀ H' f, Same H H' → H f = none → LsT H' f (allRows c L) → Q (.ref f) H'
abbrev nRows : List Str := ["_law_commands", "_law_length", "_law_found", "_law_turn", "_law_longer", "_law_row", "_law_command"]
theorem scRows : FnScope nRows ["_law_commands", "_law_length"] (defScope tRows) := ⟨rfl, rfl, rfl, by decide +kernel, rfl, by decide +kernel, by decide +kernel⟩
theorem has_rows (B : Bi mg) (D : Df K mg "_law_rows" tRows) : Has P w K mg base 1 "_law_rows" ["_law_commands", "_law_length"] spRows := by
  refine D.has (fun F => F.ok scRows (fun vs H Q E h => ?_) (fun cdv A outer s H vs Q E hr h => ?_)) (fun F => F.binds fun _ _ _ _ _ _ us hl => match us, hl with | [_, _], _ => rfl)
  · obtain ⟨c, L, rfl, _⟩ := h
    rfl
  · obtain ⟨c, L, rfl, h1, h5, hL, hz, q⟩ := h
    refine ⟨_, pss_cons (ps_set (i := 2) scRows.nd rfl (Or.inl rfl) (pe_lst (pa_cons (pe_tup pa_nil) pa_nil)))
      (pss_cons (ps_for PassesOwn.never rfl (pi_range1 rfl B.range (pa_cons (pv 1) pa_nil)) (pg_name (i := 3) scRows.nd rfl (Or.inl rfl))
        (pss_cons (ps_set (i := 4) scRows.nd rfl (Or.inl rfl) (pe_lst pa_nil))
        (pss_cons (ps_for PassesOwn.never rfl (pi_list (pv 2)) (pg_name (i := 5) scRows.nd rfl (Or.inr rfl))
          (pss_one (ps_set (i := 4) scRows.nd rfl (Or.inl rfl) (pe_op op_cat (pv 4) (pe_lc (own := [("_law_command", 6)]) (g := gName 6) (te := tOp (rCatA K) (tVar 5) (tTup (tCons (tVar 6) tNil))) (by rfl) scRows.nd (pi_range1 rfl B.range (pa_cons (pv 0) pa_nil))
            (blkOk_by (own := [("_law_command", 6)]) (N := nRows) (sc := defScope tRows) (by decide +kernel)) (fun _ _ _ _ _ => pg_name (i := 6) scRows.nd rfl (Or.inl rfl)) (fun _ _ _ _ _ => pts_nil) (fun _ _ _ _ _ => by exact (pe_op op_catA (pv 5) (pe_tup (pa_cons (pv 6) pa_nil)))))))))
        (pss_one (ps_set (i := 2) scRows.nd rfl (Or.inl rfl) (pv 4))))))
      (pss_one (ps_ret (pv 2)))), ?_⟩
    have big : 5000 < sizeLine := by decide
    refine ⟨Nat.zero_le _, fun t0 ht0 => ⟨by show 1 ≤ sizeLine; omega, fun f0 hf0 => ?_⟩⟩
    have s1 : Same H (upd (upd H t0 (.tup [])) f0 (.lst [.ref t0])) := (same_new ht0).trans (same_new hf0)
    have f00 : H f0 = none := (same_new ht0).free hf0
    have hf1 : LsT (upd (upd H t0 (.tup [])) f0 (.lst [.ref t0])) f0 (allRows c 0) := ⟨[t0], upd_same, .cons (by
      show upd _ f0 _ t0 = _
      rw [upd_ne (ne_of_none upd_same hf0), upd_same]
      rfl) .nil⟩
    generalize upd (upd H t0 (.tup [])) f0 (.lst [.ref t0]) = H1 at s1 hf1
    refine ⟨_, rfl, _, rfl, by omega, by omega, for_it (walk_range (lo := 0) (n := L)) (fun i σ H' => ∃ (f : Addr) (v3 v4 v5 : Option V), σ = [some (.int c), some (.int L), some (.ref f), v3, v4, v5, none] ∧ Same H H' ∧ H f = none ∧ LsT H' f (allRows c i))
      ⟨f0, none, none, none, rfl, s1, f00, hf1⟩ (fun _ _ _ _ _ => trivial) ?_ ?_⟩
    · rintro i x σ H20 H2 hi ⟨f, v3, v4, v5, rfl, s2, hf, ⟨bs, hbs, pbs⟩⟩ ⟨rfl, rfl⟩
      have cnt : ∀ j, j ≤ L → (allRows c j).length ≤ 1000 := fun j hj => by
        rw [allRows_count]
        exact Nat.le_trans (pow_le h1 hj) hz
      refine ⟨Nat.zero_le _, fun l0 hl0 => ?_⟩
      have s3 : Same H2 (upd H2 l0 (.lst [])) := same_new hl0
      refine ⟨_, rfl, f, rfl, ⟨_, SqL.of (s3 _ _ hbs)⟩, for_list (K := K) (a := f) (xs := bs.map V.ref) (fun j σ H' => ∃ (l : Addr) (v5 : Option V), σ = [some (.int c), some (.int L), some (.ref f), some (.int (0 + (i : Int))), some (.ref l), v5, none] ∧ Same H2 H' ∧ H l = none ∧ LsT H' l (((allRows c i).take j).flatMap fun r => (cmds c).map fun k => r ++ [k]))
        ⟨l0, v5, rfl, s3, s2.free hl0, ⟨[], upd_same, by rw [List.take_zero]; exact .nil⟩⟩ (fun j σ H' _ ⟨_, _, _, h, _⟩ => SqL.of (h _ _ hbs)) ?_ ?_⟩
      · rintro j x σ H3 hj ⟨l, v5, rfl, s4, hl, ⟨ls, hls, pls⟩⟩
        obtain ⟨b, hb, rfl⟩ := get_ref hj
        obtain ⟨r, hr', hbr⟩ := pd_at1 pbs hb
        have hlen : r.length = i := allRows_len c i r (List.mem_of_getElem? hr')
        refine ⟨_, rfl, _, rfl, _, rfl, by omega, by omega, fun D hD => lc_fill (walk_range (lo := 0) (n := c)) NoW (fun _ => True) (fun k H' v => ∃ t, v = .ref t ∧ TI H' t (r ++ [(k : Int)])) hD (by omega) (fun z => z) (fun _ _ _ _ => trivial)
          (fun k v H4 H5 e _ hd ⟨t, e1, h⟩ => ⟨t, e1, ti_put e (lists_no _) hd h⟩) trivial (fun H' e _ => trivial) (fun k x H' H'' hk e _ _ hy Q kk => ?_) mono_yes (mono_name 6) (fun H4 acc e4 _ hd4 hl4 hr4 => ?_)⟩
        · obtain ⟨rfl, rfl⟩ := hy
          have e0 : (0 : Int) + (k : Int) = ((k : Nat) : Int) := Int.zero_add _
          refine ⟨rfl, rfl, _, rfl, _, rfl, by show 1 ≤ sizeLine; omega, fun t1 ht1 => ?_⟩
          have e1 : TI (upd H'' t1 (.tup [.int (0 + (k : Int))])) t1 [(k : Int)] := by
            show upd _ t1 _ t1 = _
            rw [upd_same, e0]
            rfl
          refine catA (K := K) (r := r) (q := [(k : Int)]) ((hbr.same (s4.trans e.same)).same (same_new ht1)) e1 (by show r.length + 1 ≤ sizeLine; omega) fun H8 t8 s8 h8 => ?_
          exact kk _ _ (Ex.of ((same_new ht1).trans s8)) trivial ⟨t8, rfl, h8⟩
        · have pr : Paired (fun v q => ∃ a, v = V.ref a ∧ TI H4 a q) acc ((cmds c).map fun k => r ++ [k]) := pd_of (by rw [hl4, List.length_map, cmds_length]) fun k v q h1 h2 => by
            obtain ⟨t, e1, h⟩ := hr4 k v h1
            have hk : k < c := by
              have := (List.getElem?_eq_some_iff.mp h1).1
              omega
            rw [List.getElem?_map, cmds_get hk] at h2
            cases h2
            exact ⟨t, e1, h⟩
          obtain ⟨as, eas, pas⟩ := pd_refs pr
          have hls4 := e4.same _ _ hls
          have hall : ((allRows c i).take (j + 1)).flatMap (fun r => (cmds c).map fun k => r ++ [k]) = (((allRows c i).take j).flatMap fun r => (cmds c).map fun k => r ++ [k]) ++ ((cmds c).map fun k => r ++ [k]) := flat_take hr'
          have h1000 := Nat.le_trans (flat_le (l := allRows c i) (f := fun r => (cmds c).map fun k => r ++ [k]) (j + 1)) (cnt (i + 1) hi)
          rw [hall, List.length_append, List.length_map, cmds_length] at h1000
          have hlc : ls.length + c ≤ 1000 := Nat.le_trans (Nat.le_of_eq (congrArg (· + c) (Paired.length pls))) h1000
          refine ⟨l, D, _, acc, rfl, rfl, hls4, hd4, ?_, fun p hp => ?_⟩
          · rw [List.length_map, hl4]
            omega
          · refine ⟨p, some (.ref b), rfl, (s4.trans e4.same).trans (same_new hp), (s2.trans (s4.trans e4.same)).free hp, ?_⟩
            rw [hall]
            refine ⟨ls ++ as, by rw [upd_same, List.map_append, eas], pd_app (pd_imp (fun _ _ h => (TI.same h e4.same).same (same_new hp)) pls) (pd_imp (fun _ _ h => h.same (same_new hp)) pas)⟩
      · rintro σ H3 ⟨l, v5, rfl, s4, hl, hls⟩
        rw [List.length_map, Paired.length pbs, List.take_length] at hls
        exact ⟨_, rfl, l, _, _, _, rfl, s2.trans s4, hl, hls⟩
    · rintro σ H2 ⟨f, v3, v4, v5, rfl, s2, hf, hls⟩
      exact ⟨_, rfl, q _ f s2 hf hls⟩
end
end K02

set_option Elab.async false
set_option linter.all false
set_option maxRecDepth 100000
set_option maxHeartbeats 8000000
namespace K02
open PySem L2
/-! ### lists of tuples compared -/
theorem eqv_ints : ∀ a b : List Int, PyData.eqvAll (a.map PyData.int) (b.map PyData.int) = decide (a = b)
  | [], [] => by simp [PyData.eqvAll]
  | [], _ :: _ => by simp [PyData.eqvAll]
  | _ :: _, [] => by simp [PyData.eqvAll]
  | x :: a, y :: b => by
    rw [List.map_cons, List.map_cons, PyData.eqvAll, eqv_ints a b, PyData.eqv]
    by_cases h1 : x = y
    · subst h1
      by_cases h2 : a = b
      · simp [h2]
      · simp [h2]
    · simp [h1]
theorem eqv_iT (a b : List Int) : PyData.eqv (iT a) (iT b) = decide (a = b) := by
  unfold iT
  rw [PyData.eqv]
  exact eqv_ints a b
def lT (l : List (List Int)) : PyData := .list (l.map iT)
theorem lay_tups : ∀ l : List (List Int), PyData.canLayAll0 (l.map iT) = true ∧ PyData.depthAll (l.map iT) ≤ 1
  | [] => ⟨rfl, by decide⟩
  | r :: l => by
    obtain ⟨a, b⟩ := lay_tups l
    obtain ⟨a', b'⟩ := lay_ints r
    refine ⟨?_, ?_⟩
    · rw [List.map_cons, PyData.canLayAll0, a, iT, PyData.canLay0, a']; rfl
    · rw [List.map_cons, PyData.depthAll, iT, PyData.depth, b']; omega
theorem shaped_lT (l : List (List Int)) : SeqAt.shaped (lT l) = true := by
  obtain ⟨a, b⟩ := lay_tups l
  unfold SeqAt.shaped lT
  rw [PyData.canLay0, a, PyData.depth, decide_eq_true (by omega)]
  rfl
theorem dp_lT {K : PySem.W.Frag} {H : Hp} {a : Addr} {l : List (List Int)} (h : LsT H a l) : Dp K H (.ref a) (lT l) :=
  let ⟨_, h1, h2⟩ := h; .lst (SqL.of h1) (dp_tis h2)
theorem eqv_lT_nil (l : List (List Int)) : PyData.eqv (lT l) (.list []) = decide (l = []) := by
  cases l with
  | nil => simp [lT, PyData.eqv, PyData.eqvAll]
  | cons k ns => simp [lT, PyData.eqv, PyData.eqvAll]
theorem any_iT (l : List (List Int)) (a : List Int) : ((l.map iT).any fun z => PyData.eqv z (iT a)) = decide (a ∈ l) := by
  induction l with
  | nil => simp
  | cons x l ih =>
    rw [List.map_cons, List.any_cons, ih, eqv_iT]
    by_cases h1 : x = a
    · simp [h1]
    · have h2 : ¬ a = x := fun e => h1 e.symm
      by_cases h3 : a ∈ l
      · simp [h1, h2, h3]
      · simp [h1, h2, h3]
theorem units65 {A : Around} {k : Nat} (hr : Room k A) : A.units + 65 < cLine := by
  have := hr.un
  omega
theorem part1_full {α : Type} [DecidableEq α] (c : Nat) (step : α → Int → α) (a : α) {L i : Nat} {p : α × Row} (h : (fresh c step a L)[i]? = some p) (k : Nat) : (part1 c step a L i p k).length ≤ (full c step a (L + 1)).length := by
  have e1 : (part1 c step a L i p k).length ≤ (part c step a L (i + 1)).length := by
    rw [← part1_end c step a h]
    unfold part1
    have hl := ext1_length c step p
    have e : (ext1 c step p).take c = (ext1 c step p).take k ++ (((ext1 c step p).take c).drop k) ∨ c ≤ k := by
      rcases Nat.lt_or_ge k c with z | z
      · left
        have := List.take_append_drop k ((ext1 c step p).take c)
        rw [List.take_take, Nat.min_eq_left (Nat.le_of_lt z)] at this
        exact this.symm
      · exact .inr z
    rcases e with e | e
    · rw [e, scan_append]
      exact scan_len_le _ _
    · rw [List.take_of_length_le (by omega), List.take_of_length_le (by omega)]
      exact Nat.le_refl _
  have e2 : (part c step a L (i + 1)).length ≤ (part c step a L (fresh c step a L).length).length := by
    unfold part
    rw [List.take_length]
    have e : fresh c step a L = (fresh c step a L).take (i + 1) ++ (fresh c step a L).drop (i + 1) := (List.take_append_drop _ _).symm
    have e3 : ext c step (fresh c step a L) = ext c step ((fresh c step a L).take (i + 1)) ++ ext c step ((fresh c step a L).drop (i + 1)) := by
      rw [← ext_append, List.take_append_drop]
    rw [e3, scan_append]
    exact scan_len_le _ _
  rw [part_end] at e2
  omega
/-! ### a list of pairs -/
def PairAt (H : Hp) (b : Addr) (p : List Int × Row) : Prop := ∃ e r, H b = some (.tup [.ref e, .ref r]) ∧ TI H e p.1 ∧ TI H r p.2
theorem PairAt.same {H H' : Hp} {b : Addr} {p : List Int × Row} (h : PairAt H b p) (s : Same H H') : PairAt H' b p := let ⟨e, r, h1, h2, h3⟩ := h; ⟨e, r, s _ _ h1, h2.same s, h3.same s⟩
/-- tuples stand while a list is written -/
def TupKeep (H H' : Hp) : Prop := ∀ b xs, H b = some (.tup xs) → H' b = some (.tup xs)
theorem TupKeep.of {H H' : Hp} (s : Same H H') : TupKeep H H' := fun b xs h => s b _ h
theorem TupKeep.put {H : Hp} {a : Addr} {o : HO} {xs : List V} (h : H a = some (.lst xs)) : TupKeep H (upd H a o) := fun b ys e => by
  rw [upd_ne (ne_of e h (by intro z; cases z))]
  exact e
theorem TupKeep.trans {H H1 H2 : Hp} (a : TupKeep H H1) (b : TupKeep H1 H2) : TupKeep H H2 := fun c o h => b c o (a c o h)
theorem TI.tk {H H' : Hp} {a : Addr} {ns : List Int} (h : TI H a ns) (s : TupKeep H H') : TI H' a ns := s _ _ h
theorem PairAt.tk {H H' : Hp} {b : Addr} {p : List Int × Row} (h : PairAt H b p) (s : TupKeep H H') : PairAt H' b p := let ⟨e, r, h1, h2, h3⟩ := h; ⟨e, r, s _ _ h1, TI.tk h2 s, TI.tk h3 s⟩
def PairsAt (H : Hp) (f : Addr) (B : List (List Int × Row)) : Prop := ∃ bs : List Addr, H f = some (.lst (bs.map V.ref)) ∧ Paired (PairAt H) bs B
theorem PairsAt.same {H H' : Hp} {f : Addr} {B : List (List Int × Row)} (h : PairsAt H f B) (s : Same H H') : PairsAt H' f B := let ⟨bs, h1, h2⟩ := h; ⟨bs, s _ _ h1, pd_imp (fun _ _ q => q.same s) h2⟩
section
variable {P : Program} {w : World} {K : PySem.W.Frag} {mg : Str → Option Value} {base : Heap}
def spGrown : Sp := fun vs H Q _ => ∃ (s : Addr) (n c : Nat) (st : List (List Int)), vs = [.int c, .ref s] ∧ LL NoW H s st ∧ Mach n c st ∧ n ≤ 100 ∧ c ≤ 100 ∧ (∀ L, L ≤ 30 → (full c (effStep st) (cmds n) L).length ≤ 900) ∧
  ∀ H' f, Same H H' → H f = none → PairsAt H' f (full c (effStep st) (cmds n) 30) → Q (.ref f) H'
abbrev nGrown : List Str := ["_law_commands", "_law_steps", "_law_found", "_law_fresh", "_law_turn", "_law_later", "_law_row", "_law_command", "_law_new", "_law_one", "_law_pair"]
theorem scGrown : FnScope nGrown ["_law_commands", "_law_steps"] (defScope tGrown) := ⟨rfl, rfl, rfl, by decide +kernel, rfl, by decide +kernel, by decide +kernel⟩
theorem has_grown (B : Bi mg) (G : Has P w K mg base 2 "_law_effect" ["_law_steps", "_law_row"] spLawEff) (D : Df K mg "_law_grown" tGrown) : Has P w K mg base 3 "_law_grown" ["_law_commands", "_law_steps"] spGrown := by
  refine D.has (fun F => F.ok scGrown (fun vs H Q E h => ?_) (fun cdv A outer s H vs Q E hr h => ?_)) (fun F => F.binds fun _ _ _ _ _ _ us hl => match us, hl with | [_, _], _ => rfl)
  · obtain ⟨s, n, c, st, rfl, _⟩ := h
    rfl
  · obtain ⟨s0, n, c, st, rfl, hs, M, hn, hc, hlen, q⟩ := h
    have hu := units64 hr
    refine ⟨_, pss_cons (ps_par (i := 2) (j := 3) (by rfl) scGrown.nd rfl rfl (by decide) rfl rfl (pa_cons (pe_lst (pa_cons (pe_tup (pa_cons (pe_tupRg rfl (by rfl) B.tuple (prg_1 rfl B.range (pe_callB call_len_seq (by rfl) B.len PySem.boot_len (pa_cons (pv 1) pa_nil)))) (pa_cons (pe_tup pa_nil) pa_nil))) pa_nil)) (pa_cons (pe_lst (pa_cons (pe_tup pa_nil) pa_nil)) pa_nil)) (by rfl))
      (pss_cons (ps_for PassesOwn.never rfl (pi_range1 rfl B.range (pa_cons pe_int pa_nil)) (pg_name (i := 4) scGrown.nd rfl (Or.inl rfl))
        (pss_cons (ps_set (i := 5) scGrown.nd rfl (Or.inl rfl) (pe_lst pa_nil))
        (pss_cons (ps_for PassesOwn.never rfl (pi_list (pv 3)) (pg_name (i := 6) scGrown.nd rfl (Or.inl rfl))
          (pss_one (ps_for PassesOwn.never rfl (pi_range1 rfl B.range (pa_cons (pv 0) pa_nil)) (pg_name (i := 7) scGrown.nd rfl (Or.inl rfl))
            (pss_cons (ps_set (i := 8) scGrown.nd rfl (Or.inl rfl) (pe_op op_catA (pv 6) (pe_tup (pa_cons (pv 7) pa_nil))))
            (pss_cons (ps_set (i := 9) scGrown.nd rfl (Or.inl rfl) (pe_h G hr (by decide) (pa_cons (pv 1) (pa_cons (pv 8) pa_nil))))
            (pss_one (ps_if (pt_cmpR (op_notInD (units65 hr)) (pv 9) (pe_lc (own := [("_law_pair", 10)]) (g := gName 10) (te := tOp (rIxT K) (tVar 10) (tC (.int 0))) (by rfl) scGrown.nd (pi_list (pv 2)) (blkOk_by (own := [("_law_pair", 10)]) (N := nGrown) (sc := defScope tGrown) (by decide +kernel))
                (fun _ _ _ _ _ => pg_name (i := 10) scGrown.nd rfl (Or.inl rfl)) (fun _ _ _ _ _ => pts_nil) (fun _ _ _ _ _ => by exact (pe_ix ix_tup (pv 10) pe_int (fun _ _ => rfl)))) (by rfl))
              (pss_cons (ps_expr (pe_bm PySem.F.plainAttrs_list PySem.F.slot_list_append PySem.F.type_list_append mt_append (pv 2) (pa_cons (pe_tup (pa_cons (pv 9) (pa_cons (pv 8) pa_nil))) pa_nil)))
              (pss_one (ps_expr (pe_bm PySem.F.plainAttrs_list PySem.F.slot_list_append PySem.F.type_list_append mt_append (pv 5) (pa_cons (pv 8) pa_nil))))) pss_nil)))))))
        (pss_cons (ps_set (i := 3) scGrown.nd rfl (Or.inl rfl) (pv 5))
        (pss_one (ps_if (pt_cmpR (op_eqD hu) (pv 3) (pe_lst pa_nil) (nomark _)) (pss_one ps_break) pss_nil))))))
      (pss_one (ps_ret (pv 2)))), ?_⟩
    have big : 200000 < sizeLine := by decide
    obtain ⟨_, ss, hss, pss⟩ := id hs
    have hsl : (ss.map V.ref).length = n := by rw [List.length_map]; exact (Paired.length pss).trans M.len
    refine ⟨_, rfl, _, _, rfl, .inl (SqL.of hss), ?_⟩
    rw [hsl]
    refine ⟨n, rfl, RgOk.of_le (by omega) (by omega) (by omega) (by omega), fun e0 he0 => ⟨Nat.zero_le _, fun r0 hr0 => ⟨by show 2 ≤ sizeLine; omega, fun p0 hp0 => ⟨by show 1 ≤ sizeLine; omega, fun f0 hf0 => ?_⟩⟩⟩⟩
    have s1 : Same H (upd (upd (upd (upd H e0 (.tup (rgV 0 n))) r0 (.tup [])) p0 (.tup [.ref e0, .ref r0])) f0 (.lst [.ref p0])) := (same_new he0).trans ((same_new hr0).trans ((same_new hp0).trans (same_new hf0)))
    have f00 : H f0 = none := ((same_new he0).trans ((same_new hr0).trans (same_new hp0))).free hf0
    have hfA : PairsAt (upd (upd (upd (upd H e0 (.tup (rgV 0 n))) r0 (.tup [])) p0 (.tup [.ref e0, .ref r0])) f0 (.lst [.ref p0])) f0 (full c (effStep st) (cmds n) 0) := by
      refine ⟨[p0], upd_same, .cons ⟨e0, r0, same_new hf0 _ _ upd_same, ?_, ?_⟩ .nil⟩
      · refine TI.same (H := upd H e0 (.tup (rgV 0 n))) ?_ ((same_new hr0).trans ((same_new hp0).trans (same_new hf0)))
        show upd H e0 _ e0 = _
        rw [upd_same, rgV_cmds]
      · refine TI.same (H := upd (upd H e0 (.tup (rgV 0 n))) r0 (.tup [])) ?_ ((same_new hp0).trans (same_new hf0))
        show upd _ r0 _ r0 = _
        rw [upd_same]
        rfl
    generalize upd (upd (upd (upd H e0 (.tup (rgV 0 n))) r0 (.tup [])) p0 (.tup [.ref e0, .ref r0])) f0 (.lst [.ref p0]) = H1 at s1 hfA
    refine ⟨Nat.zero_le _, fun r1 hr1 => ⟨by show 1 ≤ sizeLine; omega, fun g0 hg0 => ⟨_, _, rfl, ?_⟩⟩⟩
    have s2 : Same H1 (upd (upd H1 r1 (.tup [])) g0 (.lst [.ref r1])) := (same_new hr1).trans (same_new hg0)
    have hfB := hfA.same s2
    have hgB : LsT (upd (upd H1 r1 (.tup [])) g0 (.lst [.ref r1])) g0 ((fresh c (effStep st) (cmds n) 0).map (·.2)) := by
      refine ⟨[r1], upd_same, .cons ?_ .nil⟩
      show upd _ g0 _ r1 = _
      rw [upd_ne (ne_of_none upd_same hg0), upd_same]
      rfl
    have s3 := s1.trans s2
    have hgf : g0 ≠ f0 := by
      obtain ⟨bs, h, _⟩ := hfA
      exact (ne_of_none ((same_new hr1) _ _ h) hg0).symm
    generalize upd (upd H1 r1 (.tup [])) g0 (.lst [.ref r1]) = H2 at s2 hfB hgB s3
    refine ⟨30, rfl, by omega, by omega, for_it (walk_range (lo := 0) (n := 30)) (fun i σ H' => ∃ (g : Addr) (v4 v5 v6 v7 v8 v9 : Option V), σ = [some (.int c), some (.ref s0), some (.ref f0), some (.ref g), v4, v5, v6, v7, v8, v9, none] ∧ g ≠ f0 ∧ Same H H' ∧ PairsAt H' f0 (full c (effStep st) (cmds n) i) ∧ LsT H' g ((fresh c (effStep st) (cmds n) i).map (·.2)))
      ⟨g0, none, none, none, none, none, none, rfl, hgf, s3, hfB, hgB⟩ (fun _ _ _ _ _ => trivial) ?_ ?_⟩
    · rintro i x σ H30 H3 hi ⟨g, v4, v5, v6, v7, v8, v9, rfl, hgf0, s4, hf3, ⟨gs, hgs, pgs⟩⟩ ⟨rfl, rfl⟩
      refine ⟨Nat.zero_le _, fun l hl => ?_⟩
      have hl0 : H l = none := s4.free hl
      have hgl : g ≠ l := ne_of_none hgs hl
      have hfl : f0 ≠ l := by
        obtain ⟨bs, h, _⟩ := hf3
        exact ne_of_none h hl
      have s5 : Same H3 (upd H3 l (.lst [])) := same_new hl
      refine ⟨_, rfl, g, rfl, ⟨_, SqL.of (s5 _ _ hgs)⟩, for_list (K := K) (a := g) (xs := gs.map V.ref) (fun j σ H' => ∃ (v6 v7 v8 v9 : Option V), σ = [some (.int c), some (.ref s0), some (.ref f0), some (.ref g), some (.int (0 + (i : Int))), some (.ref l), v6, v7, v8, v9, none] ∧ Same H H' ∧ PairsAt H' f0 (part c (effStep st) (cmds n) i j) ∧
          LsT H' l (((part c (effStep st) (cmds n) i j).drop (full c (effStep st) (cmds n) i).length).map (·.2)) ∧ H' g = some (.lst (gs.map V.ref)) ∧ Paired (TI H') gs ((fresh c (effStep st) (cmds n) i).map (·.2)))
        ⟨v6, v7, v8, v9, rfl, s4.trans s5, hf3.same s5, ⟨[], upd_same, by rw [part_zero, List.drop_length]; exact .nil⟩, s5 _ _ hgs, pd_imp (fun _ _ h => h.same s5) pgs⟩ (fun j σ H' _ ⟨_, _, _, _, _, _, _, _, h, _⟩ => SqL.of h) ?_ ?_⟩
      · rintro j x σ H4 hj ⟨v6, v7, v8, v9, rfl, s6, hf4, hl4, hg4, pg4⟩
        obtain ⟨b, hb, rfl⟩ := get_ref hj
        obtain ⟨r, hr', hbr⟩ := pd_at1 pg4 hb
        obtain ⟨pr, hpr, er⟩ : ∃ pr, (fresh c (effStep st) (cmds n) i)[j]? = some pr ∧ pr.2 = r := by
          rw [List.getElem?_map] at hr'
          exact Option.map_eq_some_iff.mp hr'
        subst er
        obtain ⟨row1, row2⟩ := fresh_row c (effStep st) (cmds n) i (List.mem_of_getElem? hpr)
        obtain ⟨rowl, rowm⟩ := (mem_allRows c i _).mp row1
        refine ⟨_, rfl, _, rfl, by omega, by omega, for_it (walk_range (lo := 0) (n := c)) (fun k σ H' => ∃ (v7 v8 v9 : Option V), σ = [some (.int c), some (.ref s0), some (.ref f0), some (.ref g), some (.int (0 + (i : Int))), some (.ref l), some (.ref b), v7, v8, v9, none] ∧ Same H H' ∧ TI H' b pr.2 ∧ PairsAt H' f0 (part1 c (effStep st) (cmds n) i j pr k) ∧
            LsT H' l (((part1 c (effStep st) (cmds n) i j pr k).drop (full c (effStep st) (cmds n) i).length).map (·.2)) ∧ H' g = some (.lst (gs.map V.ref)) ∧ Paired (TI H') gs ((fresh c (effStep st) (cmds n) i).map (·.2)))
          ⟨v7, v8, v9, rfl, s6, hbr, hf4, hl4, hg4, pg4⟩ (fun _ _ _ _ _ => trivial) ?_ ?_⟩
        · rintro k x σ H50 H5 hk ⟨v7, v8, v9, rfl, s7, hb5, hf5, hl5, hg5, pg5⟩ ⟨rfl, rfl⟩
          have e0' : (0 : Int) + (k : Int) = ((k : Nat) : Int) := Int.zero_add _
          refine ⟨_, rfl, _, rfl, by show 1 ≤ sizeLine; omega, fun t1 ht1 => ?_⟩
          have e1 : TI (upd H5 t1 (.tup [.int (0 + (k : Int))])) t1 [(k : Int)] := by
            show upd _ t1 _ t1 = _
            rw [upd_same, e0']
            rfl
          refine catA (K := K) (r := pr.2) (q := [(k : Int)]) (hb5.same (same_new ht1)) e1 (by show pr.2.length + 1 ≤ sizeLine; omega) fun H6 t6 s8 h6 => ?_
          have s9 : Same H5 H6 := (same_new ht1).trans s8
          refine ⟨_, rfl, _, rfl, s0, t6, n, c, st, pr.2 ++ [(k : Int)], rfl, hs.same (s7.trans s9), M, hn, .inl h6, ?_, fun H7 o7 s10 h7 => ?_⟩
          · intro z hz
            rcases List.mem_append.mp hz with hz | hz
            · exact rowm z hz
            · rw [List.mem_singleton.mp hz]
              exact mem_cmds.mpr ⟨by omega, by omega⟩
          have ee : eff st n (pr.2 ++ [(k : Int)]) = effStep st pr.1 (k : Int) := by
            rw [← eff_fold, List.foldl_append, row2]
            rfl
          rw [ee] at h7
          have s11 : Same H5 H7 := s9.trans s10
          have h6' := h6.same s10
          have hf7 := hf5.same s11
          have hl7 := hl5.same s11
          obtain ⟨fs, hfs, pfs⟩ := id hf7
          have hBl : (part1 c (effStep st) (cmds n) i j pr k).length ≤ 90900 := by
            have h1 := part1_le c (effStep st) (cmds n) hpr k (by omega)
            have h2 := hlen i (by omega)
            have h3 : (full c (effStep st) (cmds n) i).length * c ≤ 900 * 100 := Nat.mul_le_mul h2 hc
            omega
          have hB1000 : (part1 c (effStep st) (cmds n) i j pr k).length ≤ 1000 := by
            have h1 := part1_full c (effStep st) (cmds n) hpr k
            have h2 := hlen (i + 1) hi
            omega
          refine ⟨_, rfl, _, rfl, f0, rfl, ⟨_, SqL.of hfs⟩, fun D hD => lc_fill (walk_list (xs := fs.map V.ref)) NoW (fun _ => True) (fun m H' v => ∃ e z, (keys (part1 c (effStep st) (cmds n) i j pr k))[m]? = some z ∧ v = .ref e ∧ TI H' e z) hD (by rw [List.length_map, Paired.length pfs]; exact hB1000) (fun z => z) (fun _ _ _ _ => trivial)
            (fun m v H4 H5 e _ hd ⟨t, z, e1, e2, h⟩ => ⟨t, z, e1, e2, ti_put e (lists_no _) hd h⟩) trivial (fun H' e _ => SqL.of (e.same _ _ hfs)) (fun m x H' H'' hm e _ _ hy Q kk => ?_) mono_yes (mono_name 10) (fun H8 acc e8 _ hd8 hl8 hr8 => ?_)⟩
          · obtain ⟨rfl, hx⟩ := hy
            obtain ⟨bq, hbq, rfl⟩ := get_ref hx
            obtain ⟨q, hq, ea, ra, ea1, ea2, ea3⟩ := pd_at1 pfs hbq
            refine ⟨rfl, rfl, _, rfl, bq, _, 0, .ref ea, rfl, rfl, SqT.of (e.same _ _ ea1), at0, kk _ _ (Ex.refl _ _) trivial ⟨ea, q.1, ?_, rfl, ea2.same e.same⟩⟩
            unfold keys
            rw [List.getElem?_map, hq]
            rfl
          · have prk : Paired (fun v z => ∃ a, v = V.ref a ∧ TI H8 a z) acc (keys (part1 c (effStep st) (cmds n) i j pr k)) := pd_of (by rw [hl8, List.length_map, Paired.length pfs]; exact (List.length_map _).symm) fun m v z h1 h2 => by
              obtain ⟨t, z', e1, e2, h⟩ := hr8 m v h1
              rw [h2] at e1
              cases e1
              exact ⟨t, e2, h⟩
            obtain ⟨ks, eks, pks⟩ := pd_refs prk
            have hks : LsT H8 D (keys (part1 c (effStep st) (cmds n) i j pr k)) := ⟨ks, by rw [hd8, eks], pks⟩
            have s12 : Same H7 H8 := e8.same
            have s13 : Same H5 H8 := s11.trans s12
            refine ⟨_, _, dp_iT (h7.same s12), dp_lT hks, shaped_iT _, shaped_lT _, _, rfl, ?_⟩
            rw [any_iT]
            have hsucc := part1_succ c (effStep st) (cmds n) i pr hk (i := j)
            by_cases mem : effStep st pr.1 (k : Int) ∈ keys (part1 c (effStep st) (cmds n) i j pr k)
            · refine iteNF mem ?_
              rw [hsucc, scan1_mem mem]
              exact ⟨_, _, _, rfl, s7.trans s13, hb5.same s13, hf7.same s12, hl7.same s12, s13 _ _ hg5, pd_imp (fun _ _ h => TI.same h s13) pg5⟩
            · refine iteNT mem ?_
              have hfs8 := s12 _ _ hfs
              refine ⟨_, rfl, .inl ⟨rfl, _, SqL.of hfs8⟩, _, rfl, _, rfl, by show 2 ≤ sizeLine; omega, fun p2 hp2 => ?_⟩
              have s14 : Same H8 (upd H8 p2 (.tup [.ref o7, .ref t6])) := same_new hp2
              have hp2t : (upd H8 p2 (.tup [.ref o7, .ref t6])) p2 = some (.tup [.ref o7, .ref t6]) := upd_same
              generalize upd H8 p2 (.tup [.ref o7, .ref t6]) = H9 at s14 hp2t
              have s15 : Same H7 H9 := s12.trans s14
              have hfs9 := s15 _ _ hfs
              refine ⟨f0, _, .ref p2, rfl, rfl, hfs9, by rw [List.length_map, Paired.length pfs]; omega, ?_⟩
              obtain ⟨ls, hls, pls⟩ := hl7
              have hls9 := s15 _ _ hls
              have tk1 : TupKeep H9 (upd H9 f0 (.lst (fs.map V.ref ++ [.ref p2]))) := TupKeep.put hfs9
              have hlsA : (upd H9 f0 (.lst (fs.map V.ref ++ [.ref p2]))) l = some (.lst (ls.map V.ref)) := by
                rw [upd_ne hfl.symm]
                exact hls9
              have tk2 : TupKeep H9 (upd (upd H9 f0 (.lst (fs.map V.ref ++ [.ref p2]))) l (.lst (ls.map V.ref ++ [.ref t6]))) := tk1.trans (TupKeep.put hlsA)
              refine ⟨_, rfl, .inl ⟨rfl, _, SqL.of hlsA⟩, _, rfl, l, _, .ref t6, rfl, rfl, hlsA, ?_, ?_⟩
              · rw [List.length_map, Paired.length pls, List.length_map, List.length_drop]
                omega
              · have s16 : Same H5 H9 := s11.trans s15
                have tk5 : TupKeep H5 (upd (upd H9 f0 (.lst (fs.map V.ref ++ [.ref p2]))) l (.lst (ls.map V.ref ++ [.ref t6]))) := (TupKeep.of s16).trans tk2
                have tk7 : TupKeep H7 (upd (upd H9 f0 (.lst (fs.map V.ref ++ [.ref p2]))) l (.lst (ls.map V.ref ++ [.ref t6]))) := (TupKeep.of s15).trans tk2
                have pair9 : PairAt H9 p2 (effStep st pr.1 (k : Int), pr.2 ++ [(k : Int)]) := ⟨o7, t6, hp2t, h7.same s15, h6'.same s15⟩
                refine ⟨_, _, _, rfl, same_put (same_put (s7.trans s16) f00) hl0, TI.tk hb5 tk5, ?_, ?_, ?_, pd_imp (fun _ _ h => TI.tk h tk5) pg5⟩
                · rw [hsucc, scan1_new mem]
                  exact ⟨fs ++ [p2], by rw [upd_ne hfl, upd_same, List.map_append]; rfl, pd_app (pd_imp (fun _ _ h => PairAt.tk h tk7) pfs) (.cons (PairAt.tk pair9 tk2) .nil)⟩
                · rw [hsucc, scan1_new mem, List.drop_append_of_le_length (part1_ge c (effStep st) (cmds n) i j pr k), List.map_append]
                  exact ⟨ls ++ [t6], by rw [upd_same, List.map_append]; rfl, pd_app (pd_imp (fun _ _ h => TI.tk h tk7) pls) (.cons (TI.tk h6' tk7) .nil)⟩
                · rw [upd_ne hgl, upd_ne hgf0]
                  exact s16 _ _ hg5
        · rintro σ H5 ⟨v7, v8, v9, rfl, s7, hb5, hf5, hl5, hg5, pg5⟩
          rw [part1_end c (effStep st) (cmds n) hpr] at hf5 hl5
          exact ⟨_, _, _, _, rfl, s7, hf5, hl5, hg5, pg5⟩
      · rintro σ H4 ⟨v6, v7, v8, v9, rfl, s6, hf4, hl4, hg4, pg4⟩
        have ef : (gs.map V.ref).length = (fresh c (effStep st) (cmds n) i).length := by
          rw [List.length_map, Paired.length pgs, List.length_map]
        rw [ef, part_end] at hf4 hl4
        rw [full_succ, List.drop_left] at hl4
        refine ⟨_, rfl, _, rfl, Nat.zero_le _, fun p3 hp3 => ?_⟩
        have s7 : Same H4 (upd H4 p3 (.lst [])) := same_new hp3
        refine ⟨_, _, dp_lT (hl4.same s7), dp_nil upd_same, shaped_lT _, shaped_nil, _, rfl, ?_⟩
        rw [eqv_lT_nil]
        by_cases hem : (fresh c (effStep st) (cmds n) (i + 1)).map (·.2) = []
        · refine iteDT hem ?_
          have hem2 : fresh c (effStep st) (cmds n) (i + 1) = [] := List.map_eq_nil_iff.mp hem
          refine ⟨_, rfl, q _ f0 (s6.trans s7) f00 ?_⟩
          rw [full_stop2 c (effStep st) (cmds n) hem2 hi]
          exact hf4.same s7
        · refine iteDF hem ?_
          exact ⟨_, _, _, _, _, _, _, rfl, hfl.symm, s6.trans s7, hf4.same s7, hl4.same s7⟩
    · rintro σ H3 ⟨g, v4, v5, v6, v7, v8, v9, rfl, _, s4, hf3, _⟩
      exact ⟨_, rfl, q _ f0 s4 f00 hf3⟩
end
end K02

set_option Elab.async false
set_option linter.all false
set_option maxRecDepth 100000
set_option maxHeartbeats 8000000
namespace K02
open PySem L2
abbrev tEffR : Stmt := top 34
abbrev nEffR : List Str := ["_law_deal", "_law_commands", "_law_steps", "_law_machine_here", "_law_length", "_law_row", "_law_due", "_law_turn", "_law_later", "_law_one", "_law_command", "_law_state", "_law_pairs", "_law_wanted", "_law_many", "_law_at", "_law_new", "_law_pair", "_law_rows_here", "_law_odd", "_law_value"]
theorem scEffR : FnScope nEffR ["_law_deal", "_law_commands", "_law_steps", "_law_machine_here"] (defScope tEffR) := ⟨rfl, rfl, rfl, by decide +kernel, rfl, by decide +kernel, by decide +kernel⟩
/-! ### what is kept while the deal is written -/
theorem keep_ex {W : Addr → Prop} {H H' : Hp} {a : Addr} {o : HO} (l : Lists W H) (s : Ex W H H') (h : H a = some o) (no : ∀ xs, o ≠ .lst xs) : H' a = some o := s a o (fun z => by
  obtain ⟨xs, e⟩ := l a z
  rw [h] at e
  exact no _ (Option.some.inj e)) h
theorem TuT.ex {W : Addr → Prop} {H H' : Hp} {a : Addr} {l : List (List Int)} (h : TuT H a l) (s : Ex W H H') (li : Lists W H) : TuT H' a l := let ⟨bs, h1, h2⟩ := h; ⟨bs, keep_ex li s h1 (fun _ z => by cases z), pd_imp (fun _ _ q => TI.ex q s li) h2⟩
theorem MachAt.ex {W : Addr → Prop} {C : Addr} {H H' : Hp} {p : Addr} {n c : Nat} {st : List (List Int)} (h : MachAt C H p n c st) (s : Ex W H H') (li : Lists W H) : MachAt C H' p n c st :=
  let ⟨dx, t, h1, h2, h3⟩ := h; ⟨dx, t, keep_ex li s h1 (fun _ z => by cases z), h2.ex s li, h3⟩
theorem PairAt.ex {W : Addr → Prop} {H H' : Hp} {b : Addr} {p : List Int × Row} (h : PairAt H b p) (s : Ex W H H') (li : Lists W H) : PairAt H' b p := let ⟨e, r, h1, h2, h3⟩ := h; ⟨e, r, keep_ex li s h1 (fun _ z => by cases z), TI.ex h2 s li, TI.ex h3 s li⟩
/-- lists that the deal does not hold -/
def LsW (W : Addr → Prop) (H : Hp) (a : Addr) (l : List (List Int)) : Prop := ¬ W a ∧ LsT H a l
theorem LsW.ex {W : Addr → Prop} {H H' : Hp} {a : Addr} {l : List (List Int)} (h : LsW W H a l) (s : Ex W H H') (li : Lists W H) : LsW W H' a l := let ⟨h0, bs, h1, h2⟩ := h; ⟨h0, bs, s _ _ h0 h1, pd_imp (fun _ _ q => TI.ex q s li) h2⟩
def PsW (W : Addr → Prop) (H : Hp) (a : Addr) (B : List (List Int × Row)) : Prop := ¬ W a ∧ PairsAt H a B
theorem PsW.ex {W : Addr → Prop} {H H' : Hp} {a : Addr} {B : List (List Int × Row)} (h : PsW W H a B) (s : Ex W H H') (li : Lists W H) : PsW W H' a B := let ⟨h0, bs, h1, h2⟩ := h; ⟨h0, bs, s _ _ h0 h1, pd_imp (fun _ _ q => PairAt.ex q s li) h2⟩
/-- the facts that hold throughout -/
structure EF (C d g s0 p : Addr) (n c : Nat) (st : List (List Int)) (H : Hp) : Prop where
  dl : Deal H d g
  ll : LL (WD d g) H s0 st
  ma : MachAt C H p n c st
theorem EF.ex {C d g s0 p : Addr} {n c : Nat} {st : List (List Int)} {H H' : Hp} (h : EF C d g s0 p n c st H) (s : Ex (WD d g) H H') (D : Deal H' d g) : EF C d g s0 p n c st H' := ⟨D, h.ll.ex s, h.ma.ex s h.dl.lists⟩
theorem EF.same {C d g s0 p : Addr} {n c : Nat} {st : List (List Int)} {H H' : Hp} (h : EF C d g s0 p n c st H) (s : Same H H') : EF C d g s0 p n c st H' := h.ex (Ex.of s) (h.dl.same s)
/-! ### tuples of anything -/
theorem catV {K : PySem.W.Frag} {H : Hp} {a b : Addr} {xs ys : List V} {Q : VK} (ha : H a = some (.tup xs)) (hb : H b = some (.tup ys)) (hz : xs.length + ys.length ≤ sizeLine) (k : ∀ H' t, Same H H' → H' t = some (.tup (xs ++ ys)) → Q (.ref t) H') : rCatA K (.ref a) (.ref b) H Q := by
  refine ⟨a, b, _, _, rfl, rfl, SqT.of ha, SqT.of hb, hz, fun e => ?_, fun e1 e2 => ?_, fun _ _ t ht => k _ t (same_new ht) upd_same⟩
  · subst e
    exact k H b (Same.refl H) hb
  · subst e2
    refine k H a (Same.refl H) ?_
    rw [List.append_nil]
    exact ha
theorem slA {K : PySem.W.Frag} {H : Hp} {a : Addr} {xs : List V} {lo hi : Option Int} {Q : VK} (ha : H a = some (.tup xs)) (k : ∀ H' t, Same H H' → H' t = some (.tup (cutV xs lo hi)) → Q (.ref t) H') : rSlA K (.ref a) lo hi H Q := by
  refine ⟨a, xs, rfl, SqT.of ha, fun e => ?_, fun _ p hp => k _ p (same_new hp) upd_same⟩
  refine k H a (Same.refl H) ?_
  have : cutV xs lo hi = xs := by
    unfold cutV
    rw [e.1, e.2, List.drop_zero, Nat.sub_zero, List.take_length]
  rw [this]
  exact ha
theorem cut_to (xs : List V) (k : Nat) : cutV xs none (some (k : Int)) = xs.take k := by
  unfold cutV
  rw [HT.sIx_none, HT.sIx_nat, List.drop_zero, Nat.sub_zero]
  rcases Nat.le_total k xs.length with h | h
  · rw [Nat.min_eq_left h]
  · rw [Nat.min_eq_right h, List.take_length, List.take_of_length_le h]
theorem cut_from (xs : List V) (k : Nat) : cutV xs (some (k : Int)) none = xs.drop k := by
  unfold cutV
  rw [HT.sIx_none, HT.sIx_nat]
  rcases Nat.le_total k xs.length with h | h
  · rw [Nat.min_eq_left h, List.take_of_length_le (by rw [List.length_drop]; exact Nat.le_refl _)]
  · rw [Nat.min_eq_right h, List.drop_length, List.drop_eq_nil_of_le h, List.take_nil]
/-- what is no effect -/
def BadV (n : Nat) (H : Hp) (x : V) : Prop := (∃ (t : Addr) (xs : List V), x = .ref t ∧ H t = some (.tup xs) ∧ (∀ y ∈ xs, ∃ b, Plain y b) ∧ effB n xs = false) ∨ NotTup H x
theorem BadV.same {n : Nat} {H H' : Hp} {x : V} (h : BadV n H x) (s : Same H H') : BadV n H' x := by
  rcases h with ⟨t, xs, e, h1, h2, h3⟩ | h
  · exact .inl ⟨t, xs, e, s _ _ h1, h2, h3⟩
  · refine .inr ?_
    cases h with
    | non => exact .non
    | int i => exact .int i
    | str z => exact .str z
    | dict h => exact .dict (s _ _ h)
/-! ### what stands in a list behind a test -/
theorem pd_split {α β : Type} {F : α → β → Prop} : ∀ {acc : List α} {l1 l2 : List β}, Paired F acc (l1 ++ l2) → ∃ a1 a2, acc = a1 ++ a2 ∧ Paired F a1 l1 ∧ Paired F a2 l2
  | acc, [], l2, h => ⟨[], acc, rfl, .nil, h⟩
  | _, x :: l1, l2, .cons h t => by
    obtain ⟨a1, a2, e, h1, h2⟩ := pd_split t
    exact ⟨_ :: a1, a2, by rw [e]; rfl, .cons h h1, h2⟩
theorem filt_take {α β : Type} {G : α → β → Prop} (l : List β) (p : β → Bool) : ∀ (i : Nat) (acc : List α), i ≤ l.length → Paired (fun v j => ∃ q, l[j]? = some q ∧ G v q) acc ((List.range i).filter fun j => (l[j]?).any p) → Paired G acc ((l.take i).filter p)
  | 0, acc, _, h => by
    cases acc with
    | nil => exact .nil
    | cons _ _ => cases h
  | i + 1, acc, hi, h => by
    rw [range_filter_succ] at h
    obtain ⟨a1, a2, e, h1, h2⟩ := pd_split h
    have r1 := filt_take l p i a1 (by omega) h1
    have hq : l[i]? = some l[i] := List.getElem?_eq_getElem (by omega)
    rw [take_more hq, List.filter_append, e]
    refine pd_app r1 ?_
    rw [hq] at h2
    by_cases hp : p l[i] = true
    · rw [show (some l[i]).any p = true from hp, if_pos rfl] at h2
      cases h2 with
      | cons h t =>
        cases t
        obtain ⟨q, hq', g⟩ := h
        rw [hq] at hq'
        cases hq'
        rw [show [l[i]].filter p = [l[i]] by simp [hp]]
        exact .cons g .nil
    · rw [if_neg (show ¬ (some l[i]).any p = true from hp)] at h2
      cases h2
      rw [show [l[i]].filter p = [] by simp [hp]]
      exact .nil
theorem filt_list {α β : Type} {G : α → β → Prop} (l : List β) (p : β → Bool) (acc : List α) (h : Paired (fun v j => ∃ q, l[j]? = some q ∧ G v q) acc ((List.range l.length).filter fun j => (l[j]?).any p)) : Paired G acc (l.filter p) := by
  have := filt_take l p l.length acc (Nat.le_refl _) h
  rw [List.take_length] at this
  exact this
theorem pd_map {α β γ : Type} {F : α → γ → Prop} {f : β → γ} : ∀ {a : List α} {l : List β}, Paired (fun v q => F v (f q)) a l → Paired F a (l.map f)
  | _, _, .nil => .nil
  | _, _, .cons h t => .cons h (pd_map t)
theorem look_head {α : Type} [DecidableEq α] (B : List (α × Row)) (a : α) : look B a = ((B.filter fun q => decide (q.1 = a)).map (·.2)).head? := by
  unfold look
  rw [List.head?_map, List.head?_filter]
/-! ### what is shown of a row -/
def dR : Option Row → PyData
  | none => .none
  | some r => iT r
def LowR (r : Row) : Prop := r.length ≤ 1000 ∧ ∀ k ∈ r, Low k
theorem rowv {K : PySem.W.Frag} {H : Hp} {y : V} {o : Option Row} (h : RowV H y o) (l : ∀ r, o = some r → LowR r) : Dp K H y (dR o) ∧ Shows (dR o) ∧ ((∃ a, y = .ref a) ∨ dR o = .none) := by
  cases o with
  | none =>
    have h : y = .non := h
    subst h
    exact ⟨.non, shows_none, .inr rfl⟩
  | some r =>
    obtain ⟨t, rfl, ht⟩ := h
    exact ⟨dp_iT ht, shows_iT (l r rfl).2 (l r rfl).1, .inl ⟨t, rfl⟩⟩
theorem small_end {n c : Nat} {st : List (List Int)} (M : Mach n c st) (hn : n ≤ 3) : fresh c (effStep st) (cmds n) 30 = [] ∧ ∀ L, (full c (effStep st) (cmds n) L).length ≤ 27 := by
  have hin : ∀ L, ∀ x ∈ keys (full c (effStep st) (cmds n) L), x ∈ allRows n n := full_P c (effStep st) (cmds n) (fun x => x ∈ allRows n n) (cmds_eff n) fun x hx k hk => M.step_in hx hk
  have hcnt : (allRows n n).length ≤ 27 := by
    rw [allRows_count]
    have := M.pos
    match n, hn, this with
    | 1, _, _ => decide
    | 2, _, _ => decide
    | 3, _, _ => decide
  refine ⟨fresh_nil_le c (effStep st) (cmds n) (fresh_end c (effStep st) (cmds n) (allRows n n) hin) 30 (by omega), fun L => ?_⟩
  have := pigeon _ (allRows n n) (full_nodup c (effStep st) (cmds n) L) (hin L)
  rw [List.length_map] at this
  omega
theorem look_low {α : Type} [DecidableEq α] {c : Nat} {step : α → Int → α} {a x : α} {N : Nat} {r : Row} (hc : c ≤ 100) (hN : N ≤ 900) (h : look (full c step a N) x = some r) : LowR r ∧ r ∈ allRows c r.length := by
  have hm := look_mem h
  obtain ⟨_, h2⟩ := full_run c step a N _ hm
  obtain ⟨i, hi, hp⟩ := full_mem c step a N _ hm
  rw [allP_rows] at hp
  obtain ⟨r', hr', e⟩ := List.mem_map.mp hp
  have er : r' = r := congrArg Prod.snd e
  subst er
  have hl := allRows_len c i _ hr'
  refine ⟨⟨by omega, fun k hk => ?_⟩, h2⟩
  have := mem_cmds.mp (((mem_allRows c i _).mp hr').2 k hk)
  exact ⟨this.1, by omega⟩
section
variable {P : Program} {w : World} {K : PySem.W.Frag} {mg : Str → Option Value} {base : Heap} {C : Addr}
abbrev cxE (P : Program) (w : World) (K : PySem.W.Frag) (mg : Str → Option Value) (base : Heap) (f : Addr) (cdv : Value) (A : Around) (outer : List Env) (s : Shared) (H : Hp) (E : XK) : Cx := (cxOf CX0 P w K mg base nEffR "_law_effects_right" (defScope tEffR) f cdv A outer s H E).nox
/-- the functions that it calls -/
structure Fns (P : Program) (w : World) (K : PySem.W.Frag) (mg : Str → Option Value) (base : Heap) (C : Addr) : Prop where
  bi : Bi mg
  any : Has P w K mg base 1 "_law_any" ["_law_deal", "_law_bound"] spAny
  of_ : Has P w K mg base 2 "_law_of" ["_law_deal", "_law_some"] spOf
  mixed : Has P w K mg base 2 "_law_mixed" ["_law_deal", "_law_some"] spMixed
  led : Has P w K mg base 1 "_law_led" ["_law_steps", "_law_state", "_law_row"] spLawLed
  rows : Has P w K mg base 1 "_law_rows" ["_law_commands", "_law_length"] spRows
  eff : Has P w K mg base 2 "_law_effect" ["_law_steps", "_law_row"] spLawEff
  grown : Has P w K mg base 3 "_law_grown" ["_law_commands", "_law_steps"] spGrown
  effs : Has P w K mg base 2 "effects_of_length" ["machine", "length"] (spEffs C)
  effsK : HasK P w K mg base 2 "effects_of_length" ["machine", "length"] ["length", "machine"] (spEffs C)
  row : Has P w K mg base 5 "row_for" ["machine", "wanted"] (spRow C)
  rowK : HasK P w K mg base 5 "row_for" ["machine", "wanted"] ["wanted", "machine"] (spRow C)
theorem walkC {f : Addr} {cdv : Value} {A : Around} {outer : List Env} {s : Shared} {H0 : Hp} {E : XK} {k : Nat} (F : Fns P w K mg base C) (hr : Room k (cxE P w K mg base f cdv A outer s H0 E).A) (hgd : (cxE P w K mg base f cdv A outer s H0 E).A.guards = some []) (hk : 5 ≤ k) :
    ∃ t, PSs (cxE P w K mg base f cdv A outer s H0 E) ((defBody tEffR).drop 7) t ∧ ∀ (d g s0 p pr : Addr) (n c : Nat) (st : List (List Int)) (v4 v5 v6 v7 v8 v9 v13 : Option V) (H : Hp) (Q : VK), EF C d g s0 p n c st H → n ≤ 3 → c ≤ 3 → PsW (WD d g) H pr (full c (effStep st) (cmds n) 30) →
      (∀ H', Ex (WD d g) H H' → Deal H' d g → Q (.bl true) H') → t { nx := fun _ H' => Q .non H', rt := Q } [some (.ref d), some (.int c), some (.ref s0), some (.ref p), v4, v5, v6, v7, v8, v9, none, none, some (.ref pr), v13, none, none, none, none, none, none, none] H := by
  have hu := units64 hr
  have hu8 := hu8_of hr
  refine ⟨_, pss_cons (ps_asg (pe_tup (pa_cons (pe_callB call_len_seq (by rfl) F.bi.len PySem.boot_len (pa_cons (pv 2) pa_nil)) (pa_cons (pe_h F.any hr (by omega) (pa_cons (pv 0) (pa_cons (pe_callB call_len_seq (by rfl) F.bi.len PySem.boot_len (pa_cons (pv 2) pa_nil)) pa_nil))) pa_nil))) (pg_tup rfl (pgs_cons (pg_name (i := 14) scEffR.nd rfl (Or.inr rfl)) (pgs_cons (pg_name (i := 15) scEffR.nd rfl (Or.inl rfl)) pgs_nil))))
    (pss_cons (ps_set (i := 16) scEffR.nd rfl (Or.inr rfl) (pe_tupleOf (by rfl) F.bi.tuple (pe_lc (own := [("_law_state", 11)]) (g := gName 11) (te := tCl spAny (tCons (tVar 0) (tCons (tVar 14) tNil))) (by rfl) scEffR.nd (pi_range1 rfl F.bi.range (pa_cons (pv 14) pa_nil))
        (blkOk_by (own := [("_law_state", 11)]) (N := nEffR) (sc := defScope tEffR) (by decide +kernel)) (fun _ _ _ _ _ => pg_name (i := 11) scEffR.nd rfl (Or.inl rfl)) (fun _ _ _ _ _ => pts_nil) (fun _ _ _ _ _ => by exact (pe_h F.any hr (by omega) (pa_cons (pv 0) (pa_cons (pv 14) pa_nil)))))))
    (pss_cons (ps_setLc (i := 18) (own := [("_law_pair", 17)]) (g := gName 17) (tt := tTest (tOp (rEqD K) (tOp (rIxT K) (tVar 17) (tC (.int 0))) (tVar 16))) (te := tOp (rIxT K) (tVar 17) (tC (.int 1))) (by rfl) scEffR.nd rfl rfl (sw_true rfl rfl rfl (by decide +kernel)) (pi_list (pv 12))
        (blkOk_by (own := [("_law_pair", 17)]) (N := nEffR) (sc := defScope tEffR) (by decide +kernel)) (fun _ _ _ _ _ => pg_name (i := 17) scEffR.nd rfl (Or.inl rfl)) (fun _ _ _ _ _ => by exact (pts_one (pt_cmpR (op_eqD hu) (pe_ix ix_tup (pv 17) pe_int (fun _ _ => rfl)) (pv 16) (nomark _)))) (fun _ _ _ _ _ => by exact (pe_ix ix_tup (pv 17) pe_int (fun _ _ => rfl))))
    (pss_cons (ps_if (pt_cmpR op_ne (pe_callB (cr_repr hgd hu8) (by rfl) F.bi.repr (by decide +kernel) (pa_cons (pe_h F.row hr (by omega) (pa_cons (pv 3) (pa_cons (pv 16) pa_nil))) pa_nil))
        (pe_callB (cr_repr hgd hu8) (by rfl) F.bi.repr (by decide +kernel) (pa_cons (pe_ifExp (pt_cmpR (op_neD hu) (pv 18) (pe_lst pa_nil) (nomark _)) (pe_ix ix_list (pv 18) pe_int (fun _ _ => rfl)) pe_non) pa_nil)) (nomark _)) (pss_one (ps_ret pe_bl)) pss_nil)
    (pss_cons (ps_set (i := 19) scEffR.nd rfl (Or.inl rfl) (pe_h F.of_ hr (by omega) (pa_cons (pv 0) (pa_cons (pe_lst (pa_cons (pv 14) (pa_cons (pe_op op_sub pe_int pe_int) (pa_cons pe_non (pa_cons pe_str (pa_cons (pe_op op_add (pv 14) pe_int) pa_nil)))))) pa_nil))))
    (pss_cons (ps_for PassesOwn.never rfl (pi_list (pe_lst (pa_cons (pe_op op_catA (pe_op op_catA (pe_slice sl_tupA (pv 16) po_none (po_some (pv 15))) (pe_tup (pa_cons (pv 19) pa_nil))) (pe_slice sl_tupA (pv 16) (po_some (pe_op op_add (pv 15) pe_int)) po_none))
        (pa_cons (pe_op op_catA (pv 16) (pe_tup (pa_cons pe_int pa_nil))) (pa_cons (pe_slice sl_tupA (pv 16) (po_some pe_int) po_none) (pa_cons pe_non (pa_cons pe_int (pa_cons pe_str (pa_cons pe_dnewK pa_nil))))))))) (pg_name (i := 20) scEffR.nd rfl (Or.inl rfl))
      (pss_one (ps_if (pt_cmp (pc_notN (pe_h F.row hr (by omega) (pa_cons (pv 3) (pa_cons (pv 20) pa_nil))))) (pss_one (ps_ret pe_bl)) pss_nil)))
    (pss_one (ps_ret pe_bl))))))), ?_⟩
  intro d g s0 p pr n c st v4 v5 v6 v7 v8 v9 v13 H Q ef hn hc hpr q
  have big : 1000 < sizeLine := by decide
  obtain ⟨_, ss, hss, pss⟩ := id ef.ll
  have M : Mach n c st := by
    obtain ⟨_, _, _, _, M, _⟩ := ef.ma
    exact M
  have hn0 := M.pos
  have hsl : (ss.map V.ref).length = n := by rw [List.length_map]; exact (Paired.length pss).trans M.len
  refine ⟨_, rfl, _, _, rfl, .inl (SqL.of hss), ?_⟩
  rw [hsl]
  refine ⟨_, rfl, _, rfl, _, _, rfl, .inl (SqL.of hss), d, g, _, rfl, ef.dl, by omega, by omega, fun H1 a1 e1 D1 a0 a2 => ⟨by show 2 ≤ sizeLine; omega, fun tp htp => ⟨tp, _, rfl, SqT.of upd_same, rfl, _, _, rfl, _, _, rfl, rfl, ?_⟩⟩⟩
  obtain ⟨k, rfl⟩ : ∃ k : Nat, a1 = (k : Int) := ⟨a1.toNat, by omega⟩
  rw [hsl] at a2
  have hkn : k < n := by omega
  have ef1 := (ef.ex e1 D1).same (same_new (o := .tup [.int n, .int k]) htp)
  have pr1 := (hpr.ex e1 ef.dl.lists).ex (Ex.of (same_new (o := .tup [.int n, .int k]) htp)) D1.lists
  have e2 : Ex (WD d g) H (upd H1 tp (.tup [.int n, .int k])) := e1.trans (Ex.new htp)
  generalize upd H1 tp (.tup [.int n, .int k]) = H2 at ef1 pr1 e2
  refine ⟨_, rfl, _, rfl, by omega, by omega, fun Dl hDl => lc_fill (walk_range (lo := 0) (n := n)) (WD d g) (fun H => Deal H d g) (fun _ _ v => ∃ z : Int, z ∈ cmds n ∧ v = .int z) hDl (by omega) (wd_new ef1.dl hDl) (fun H H' s v => v.ex_off s (wd_new ef1.dl hDl)) (fun _ _ _ _ _ _ _ h => h) ef1.dl
    (fun H' e _ => trivial) (fun j x H' H'' hj e v _ hy Q kk => ?_) mono_yes (mono_name 11) (fun H3 acc e3 D3 hd3 hl3 hr3 => ?_)⟩
  · obtain ⟨rfl, rfl⟩ := hy
    refine ⟨rfl, rfl, _, rfl, _, rfl, d, g, n, rfl, v, by omega, by omega, fun H8 r e8 D8 q0 q1 => kk _ _ e8 D8 ⟨r, mem_cmds.mpr ⟨q0, q1⟩, rfl⟩⟩
  · obtain ⟨nw, rfl, hin⟩ := ints_in acc fun v hv => by
      obtain ⟨j, hj⟩ := List.getElem?_of_mem hv
      exact hr3 j v hj
    rw [List.length_map] at hl3
    have hnw : nw ∈ allRows n n := (mem_allRows n n nw).mpr ⟨hl3, hin⟩
    refine .inl ⟨Dl, _, rfl, SqL.of hd3, fun tn htn => ?_⟩
    have ef3 := (ef1.ex e3 D3).same (same_new (o := .tup (nw.map V.int)) htn)
    have pr3 := (pr1.ex e3 ef1.dl.lists).ex (Ex.of (same_new (o := .tup (nw.map V.int)) htn)) D3.lists
    have e4 : Ex (WD d g) H (upd H3 tn (.tup (nw.map V.int))) := (e2.trans e3).trans (Ex.new htn)
    have htn4 : TI (upd H3 tn (.tup (nw.map V.int))) tn nw := upd_same
    generalize upd H3 tn (.tup (nw.map V.int)) = H4 at ef3 pr3 e4 htn4
    obtain ⟨_, bs, hbs, pbs⟩ := pr3
    obtain ⟨hfr, hlen⟩ := small_end M hn
    have hBl := hlen 30
    generalize hB : full c (effStep st) (cmds n) 30 = B at pbs hBl
    have hbl : (bs.map V.ref).length = B.length := by rw [List.length_map]; exact Paired.length pbs
    refine ⟨_, rfl, pr, rfl, ⟨_, SqL.of hbs⟩, fun D5 hD5 => ?_⟩
    have walk := lc_filt (walk_list (K := K) (a := pr) (xs := bs.map V.ref)) (g := gName 17) (tt := tTest (tOp (rEqD K) (tOp (rIxT K) (tVar 17) (tC (.int 0))) (tVar 16))) (te := tOp (rIxT K) (tVar 17) (tC (.int 1))) (vs := [17])
      (σ := [some (.ref d), some (.int c), some (.ref s0), some (.ref p), v4, v5, v6, v7, v8, v9, none, none, some (.ref pr), v13, some (.int n), some (.int k), some (.ref tn), none, none, none, none])
      (H1 := H4) (D := D5) (Qd := fun H' => ∃ rs, Same H4 H' ∧ LsT H' D5 rs ∧ rs = (B.filter fun q => decide (q.1 = nw)).map (·.2)) NoW (fun _ => True) (fun j => (B[j]?).any fun q => decide (q.1 = nw)) (fun j H v => ∃ q, B[j]? = some q ∧ ∃ t, v = .ref t ∧ TI H t q.2) hD5 (by omega) (fun z => z) (fun _ _ _ _ => trivial)
      (fun i v H4 H5 e _ hd ⟨q, e1, t, e2, h⟩ => ⟨q, e1, t, e2, ti_put e (lists_no _) hd h⟩) trivial (fun H' e _ => SqL.of (e.same _ _ hbs)) (fun j x H' H'' hj e _ _ hy Qn Q' k1 k2 => by
        obtain ⟨rfl, hx⟩ := hy
        obtain ⟨b, hb, rfl⟩ := get_ref hx
        obtain ⟨qq, hq, ea, ra, ea1, ea2, ea3⟩ := pd_at1 pbs hb
        refine ⟨rfl, _, rfl, b, _, 0, .ref ea, rfl, rfl, SqT.of (e.same _ _ ea1), at0, _, rfl, _, _, dp_iT (ea2.same e.same), dp_iT (htn4.same e.same), shaped_iT _, shaped_iT _, _, rfl, ?_⟩
        rw [eqv_iT]
        rw [hq] at k1 k2
        by_cases c1 : qq.1 = nw
        · exact iteDT c1 ⟨_, rfl, b, _, 1, .ref ra, rfl, rfl, SqT.of (e.same _ _ ea1), at1, k2 (decide_eq_true c1) _ _ (Ex.refl _ _) trivial ⟨qq, rfl, ra, rfl, ea3.same e.same⟩⟩
        · exact iteDF c1 (k1 (decide_eq_false c1) _ (Ex.refl _ _) trivial)) (fun H5 acc e5 _ hd5 pf => by
        rw [hbl] at pf
        have pg := filt_list B (fun q => decide (q.1 = nw)) acc pf
        obtain ⟨ts, ets, pts⟩ := pd_refs (F := fun t (q : List Int × Row) => TI H5 t q.2) pg
        exact ⟨_, e5.same, ⟨ts, by rw [hd5, ets], pd_map pts⟩, rfl⟩)
    obtain ⟨W1, w1, w2⟩ := walk
    refine ⟨W1, w1, fun i m H' hw => ?_⟩
    rcases w2 i m H' hw with ⟨stop, rs, s5, hrs, ers⟩ | go
    rotate_left
    · exact .inr go
    refine .inl ⟨stop, ?_⟩
    have ef5 := ef3.same s5
    have e6 : Ex (WD d g) H H' := e4.trans (Ex.of s5)
    have htn5 := htn4.same s5
    have hc100 : c ≤ 100 := by omega
    -- repr(row_for(..)) and what it must be
    refine ⟨_, rfl, _, rfl, p, _, n, c, st, rfl, ef5.ma, .inl ⟨tn, nw, 30, rfl, htn5, hnw, by omega, fun L _ => Nat.le_trans (hlen L) (by omega), .inl hfr, fun H6 y s6 hy => ?_⟩⟩
    rw [hB] at hy
    obtain ⟨y1, y2, y3⟩ := rowv (K := K) hy fun r er => by
      rw [← hB] at er
      exact (look_low hc100 (by omega) er).1
    refine ⟨y, _, rfl, y1, y2, y3, _, rfl, Nat.zero_le _, fun p7 hp7 => ?_⟩
    have s7 : Same H' (upd H6 p7 (.lst [])) := s6.trans (same_new hp7)
    refine ⟨_, _, dp_lT (hrs.same s7), dp_nil upd_same, shaped_lT _, shaped_nil, _, rfl, ?_⟩
    rw [eqv_lT_nil]
    have hlk := look_head B nw
    rw [← ers] at hlk
    have ef7 := ef5.same s7
    have e7 : Ex (WD d g) H (upd H6 p7 (.lst [])) := e6.trans (Ex.of s7)
    have htn7 := htn5.same s7
    have hrs7 := hrs.same s7
    generalize upd H6 p7 (.lst []) = H7 at ef7 e7 htn7 hrs7
    -- what comes behind
    have rest : ∀ (x : Option V), tSeq (tAsg (tCl spOf (tCons (tVar 0) (tCons (tLst (tCons (tVar 14) (tCons (tOp (rI0 fun i j => .int (i - j)) (tC (.int 0)) (tC (.int 1))) (tCons (tC .non) (tCons (tC (.str "0")) (tCons (tOp (rI0 fun i j => .int (i + j)) (tVar 14) (tC (.int 3))) tNil)))))) tNil))) (gName 19))
        (tSeq (tFor (iList K (tLst (tCons (tOp (rCatA K) (tOp (rCatA K) (tSl (rSlA K) (tVar 16) tNoPart (tPart (tVar 15))) (tTup (tCons (tVar 19) tNil))) (tSl (rSlA K) (tVar 16) (tPart (tOp (rI0 fun i j => .int (i + j)) (tVar 15) (tC (.int 1)))) tNoPart))
          (tCons (tOp (rCatA K) (tVar 16) (tTup (tCons (tC (.int 0)) tNil))) (tCons (tSl (rSlA K) (tVar 16) (tPart (tC (.int 1))) tNoPart) (tCons (tC .non) (tCons (tC (.int 0)) (tCons (tC (.str "01")) (tCons tDNewK tNil))))))))) (gName 20)
          (tIfS (tTest (tNotN (tCl (spRow C) (tCons (tVar 3) (tCons (tVar 20) tNil))))) (tRet (tC (.bl false))) tNext)) (tRet (tC (.bl true))))
        { nx := fun _ H' => Q .non H', rt := Q } [some (.ref d), some (.int c), some (.ref s0), some (.ref p), v4, v5, v6, v7, v8, v9, none, none, some (.ref pr), v13, some (.int n), some (.int k), some (.ref tn), none, some (.ref D5), none, none] H7 := by
      intro _
      refine ⟨_, rfl, _, rfl, _, _, rfl, rfl, _, rfl, _, _, rfl, rfl, by show 5 ≤ sizeLine; omega, fun la hla => ⟨d, g, la, _, rfl, ef7.dl.same (same_new hla), wd_new ef7.dl hla, upd_same, by show 1 ≤ 5; decide, by show 5 < 1000000; decide, fun H8 odd e8 D8 hodd => ?_⟩⟩
      have hP : ∃ b, Plain odd b := by
        simp only [List.mem_cons, List.not_mem_nil, or_false] at hodd
        rcases hodd with e | e | e | e | e <;> subst e
        · exact ⟨_, .int _⟩
        · exact ⟨_, .int _⟩
        · exact ⟨_, .non⟩
        · exact ⟨_, .str _⟩
        · exact ⟨_, .int _⟩
      have hbad : okV n odd = false := by
        simp only [List.mem_cons, List.not_mem_nil, or_false] at hodd
        rcases hodd with e | e | e | e | e <;> subst e
        · show decide ((0 : Int) ≤ n ∧ (n : Int) < n) = false
          exact decide_eq_false (by omega)
        · show decide ((0 : Int) ≤ 0 - 1 ∧ (0 : Int) - 1 < n) = false
          exact decide_eq_false (by omega)
        · rfl
        · rfl
        · show decide ((0 : Int) ≤ n + 3 ∧ (n : Int) + 3 < n) = false
          exact decide_eq_false (by omega)
      have s8 := (ef7.same (same_new (o := .lst [.int n, .int (0 - 1), .non, .str "0", .int (n + 3)]) hla)).ex e8 D8
      have e9 : Ex (WD d g) H H8 := e7.trans ((Ex.new hla).trans e8)
      have htn8 : TI H8 tn nw := (htn7.same (same_new (o := .lst [.int n, .int (0 - 1), .non, .str "0", .int (n + 3)]) hla)).ex e8 (ef7.dl.same (same_new hla)).lists
      have plain : ∀ l : List Int, ∀ y ∈ l.map V.int, ∃ b, Plain y b := fun l y hy => by
        obtain ⟨z, _, rfl⟩ := List.mem_map.mp hy
        exact ⟨_, .int z⟩
      refine ⟨_, rfl, _, rfl, _, rfl, slA htn8 fun Ha ta sa hta => ⟨_, rfl, by show 1 ≤ sizeLine; omega, fun to hto => ?_⟩⟩
      have len1 : (cutV (nw.map V.int) none (some (k : Int))).length ≤ 3 := by
        rw [cut_to, List.length_take, List.length_map, hl3]
        omega
      refine catV (same_new hto _ _ hta) upd_same (by show _ + 1 ≤ sizeLine; omega) fun Hb tb sb htb => ?_
      have sB : Same H8 Hb := sa.trans ((same_new hto).trans sb)
      refine ⟨_, rfl, _, rfl, _, _, rfl, rfl, _, rfl, ?_⟩
      unfold tNoPart
      refine slA (htn8.same sB) fun Hc tc sc htc => ?_
      have ek : ((k : Int) + 1) = ((k + 1 : Nat) : Int) := by omega
      have len2 : (cutV (nw.map V.int) (some ((k : Int) + 1)) none).length ≤ 3 := by
        rw [ek, cut_from, List.length_drop, List.length_map, hl3]
        omega
      refine catV (sc _ _ htb) htc (by rw [List.length_append]; show _ + 1 + _ ≤ sizeLine; omega) fun Hd td sd htd => ?_
      have sD : Same H8 Hd := sB.trans (sc.trans sd)
      have bad1 : BadV n Hd (.ref td) := by
        refine .inl ⟨td, _, rfl, htd, fun y hy => ?_, ?_⟩
        · rw [ek, cut_to, cut_from] at hy
          rcases List.mem_append.mp hy with hy | hy
          · rcases List.mem_append.mp hy with hy | hy
            · exact plain nw y (List.mem_of_mem_take hy)
            · rw [List.mem_singleton.mp hy]
              exact hP
          · exact plain nw y (List.mem_of_mem_drop hy)
        · unfold effB
          have : (cutV (nw.map V.int) none (some (k : Int)) ++ [odd] ++ cutV (nw.map V.int) (some ((k : Int) + 1)) none).all (okV n) = false := by
            rw [List.all_append, List.all_append]
            simp [hbad]
          rw [this, Bool.and_false]
      refine ⟨_, rfl, by show 1 ≤ sizeLine; omega, fun tz htz => ?_⟩
      refine catV ((htn8.same sD).same (same_new htz)) upd_same (by show _ + 1 ≤ sizeLine; rw [List.length_map]; omega) fun He te se hte => ?_
      have sE' : Same Hd He := (same_new htz).trans se
      have sE : Same H8 He := sD.trans sE'
      have bad2 : BadV n He (.ref te) := by
        refine .inl ⟨te, _, rfl, hte, fun y hy => ?_, ?_⟩
        · rcases List.mem_append.mp hy with hy | hy
          · exact plain nw y hy
          · rw [List.mem_singleton.mp hy]
            exact ⟨_, .int 0⟩
        · unfold effB
          rw [decide_eq_false (by rw [List.length_append, List.length_map, hl3]; show ¬ n + 1 = n; omega)]
          rfl
      refine ⟨_, rfl, 1, rfl, ?_⟩
      refine slA (htn8.same sE) fun Hf tf sf htf => ?_
      have bad3 : BadV n Hf (.ref tf) := by
        have e1 : cutV (nw.map V.int) (some 1) none = (nw.map V.int).drop 1 := cut_from _ 1
        refine .inl ⟨tf, _, rfl, htf, fun y hy => ?_, ?_⟩
        · rw [e1] at hy
          exact plain nw y (List.mem_of_mem_drop hy)
        · unfold effB
          rw [e1, decide_eq_false (by rw [List.length_drop, List.length_map, hl3]; omega)]
          rfl
      intro dd hdd
      refine ⟨by show 7 ≤ sizeLine; omega, fun ll hll => ⟨ll, rfl, ⟨_, SqL.of upd_same⟩, ?_⟩⟩
      have sF : Same Hf (upd (upd Hf dd (.dK [])) ll (.lst [.ref td, .ref te, .ref tf, .non, .int 0, .str "01", .ref dd])) := (same_new hdd).trans (same_new hll)
      have hlist : (upd (upd Hf dd (.dK [])) ll (.lst [.ref td, .ref te, .ref tf, .non, .int 0, .str "01", .ref dd])) ll = some (.lst [.ref td, .ref te, .ref tf, .non, .int 0, .str "01", .ref dd]) := upd_same
      have bads : ∀ x ∈ [V.ref td, .ref te, .ref tf, .non, .int 0, .str "01", .ref dd], BadV n (upd (upd Hf dd (.dK [])) ll (.lst [.ref td, .ref te, .ref tf, .non, .int 0, .str "01", .ref dd])) x := by
        intro x hx
        simp only [List.mem_cons, List.not_mem_nil, or_false] at hx
        rcases hx with e | e | e | e | e | e | e <;> subst e
        · exact bad1.same (sE'.trans (sf.trans sF))
        · exact bad2.same (sf.trans sF)
        · exact bad3.same sF
        · exact .inr .non
        · exact .inr (.int 0)
        · exact .inr (.str _)
        · exact .inr (.dict (same_new hll _ _ upd_same))
      have ef9 := s8.same (sE.trans (sf.trans sF))
      have e10 : Ex (WD d g) H (upd (upd Hf dd (.dK [])) ll (.lst [.ref td, .ref te, .ref tf, .non, .int 0, .str "01", .ref dd])) := e9.trans (Ex.of (sE.trans (sf.trans sF)))
      generalize upd (upd Hf dd (.dK [])) ll (.lst [.ref td, .ref te, .ref tf, .non, .int 0, .str "01", .ref dd]) = H9 at hlist bads ef9 e10
      refine for_list (K := K) (a := ll) (xs := [V.ref td, .ref te, .ref tf, .non, .int 0, .str "01", .ref dd]) (fun i σ H' => ∃ v, σ = [some (.ref d), some (.int c), some (.ref s0), some (.ref p), v4, v5, v6, v7, v8, v9, none, none, some (.ref pr), v13, some (.int n), some (.int k), some (.ref tn), none, some (.ref D5), some odd, v] ∧ Same H9 H')
        ⟨none, rfl, Same.refl _⟩ (fun i σ H' _ ⟨_, _, h⟩ => SqL.of (h _ _ hlist)) ?_ ?_
      · rintro i x σ H' hi ⟨v, rfl, s10⟩
        refine ⟨_, rfl, _, rfl, p, x, n, c, st, rfl, (ef9.same s10).ma, .inr ?_⟩
        rcases (bads x (List.mem_of_getElem? hi)).same s10 with ⟨t, xs, e1, e2, e3, e4⟩ | hb
        · exact .inl ⟨t, xs, e1, e2, e3, e4, fun H'' s11 => ⟨_, rfl, iteNF rfl ⟨some x, rfl, s10.trans s11⟩⟩⟩
        · exact .inr ⟨hb, fun H'' s11 => ⟨_, rfl, iteNF rfl ⟨some x, rfl, s10.trans s11⟩⟩⟩
      · rintro σ H' ⟨v, rfl, s10⟩
        exact q _ (e10.trans (Ex.of s10)) (ef9.same s10).dl
    by_cases hnil : rs = []
    · refine iteNF hnil ⟨.non, .none, rfl, .non, shows_none, .inr rfl, ?_⟩
      rw [hnil] at hlk
      rw [hlk]
      refine ⟨rfl, _, rfl, iteNF rfl ?_⟩
      exact rest none
    · refine iteNT hnil ?_
      obtain ⟨r, rs', rfl⟩ := List.exists_cons_of_ne_nil hnil
      obtain ⟨ts, hts, pts⟩ := hrs7
      cases pts with
      | cons ht1 pts' =>
        rename_i t1 ts'
        refine ⟨_, rfl, D5, _, 0, .ref t1, rfl, rfl, SqL.of hts, at0, .ref t1, iT r, rfl, dp_iT ht1, ?_, .inl ⟨t1, rfl⟩, ?_⟩
        · have := y2
          rw [hlk] at this
          exact this
        · rw [hlk]
          refine ⟨rfl, _, rfl, iteNF rfl ?_⟩
          exact rest none
end
end K02

set_option Elab.async false
set_option linter.all false
set_option maxRecDepth 100000
set_option maxHeartbeats 1000000
namespace K02
open PySem L2
theorem lex_llt : ∀ a b : List Int, HT.lexLt a b = llt a b
  | [], [] => rfl
  | [], _ :: _ => rfl
  | _ :: _, [] => rfl
  | x :: a, y :: b => by
    rw [HT.lexLt_cons, llt_cons, lex_llt a b]
theorem full_pos {α : Type} [DecidableEq α] (c : Nat) (step : α → Int → α) (a : α) (n : Nat) : 1 ≤ (full c step a n).length := by
  obtain ⟨r, e⟩ := full_prefix c step a (Nat.zero_le n)
  rw [e, List.length_append]
  show 1 ≤ 1 + r.length
  omega
theorem rRepr_row {K : PySem.W.Frag} {H : Hp} {t : Addr} {r : Row} {Q : VK} (ht : TI H t r) (hl : LowR r) (k : Q (.str (iT r).shown) H) : rRepr K [.ref t] H Q := ⟨_, _, rfl, dp_iT ht, shows_iT hl.2 hl.1, .inl ⟨t, rfl⟩, k⟩
section
variable {P : Program} {w : World} {K : PySem.W.Frag} {mg : Str → Option Value} {base : Heap} {C : Addr}
theorem walkB {f : Addr} {cdv : Value} {A : Around} {outer : List Env} {s : Shared} {H0 : Hp} {E : XK} {k : Nat} (F : Fns P w K mg base C) (hr : Room k (cxE P w K mg base f cdv A outer s H0 E).A) (hgd : (cxE P w K mg base f cdv A outer s H0 E).A.guards = some []) (hk : 5 ≤ k) :
    ∃ t, PSs (cxE P w K mg base f cdv A outer s H0 E) ((defBody tEffR).drop 5) t ∧ ∀ (d g s0 p : Addr) (n c : Nat) (st : List (List Int)) (v4 v5 v6 v7 v8 v9 : Option V) (H : Hp) (Q : VK), EF C d g s0 p n c st H → n ≤ 3 → c ≤ 3 →
      (∀ H', Ex (WD d g) H H' → Deal H' d g → Q (.bl true) H') → t { nx := fun _ H' => Q .non H', rt := Q } [some (.ref d), some (.int c), some (.ref s0), some (.ref p), v4, v5, v6, v7, v8, v9, none, none, none, none, none, none, none, none, none, none, none] H := by
  have hu := units64 hr
  have hu8 := hu8_of hr
  have hu0 : (cxE P w K mg base f cdv A outer s H0 E).A.units < cLine := by omega
  obtain ⟨tC, hC, qC⟩ := walkC F hr hgd hk
  refine ⟨_, pss_cons (ps_set (i := 12) scEffR.nd rfl (Or.inl rfl) (pe_h F.grown hr (by omega) (pa_cons (pv 1) (pa_cons (pv 2) pa_nil))))
    (pss_cons (ps_for PassesOwn.never rfl (pi_range1 rfl F.bi.range (pa_cons pe_int pa_nil)) (pg_name (i := 7) scEffR.nd rfl (Or.inl rfl))
      (pss_cons (ps_asg (pe_h F.of_ hr (by omega) (pa_cons (pv 0) (pa_cons (pv 12) pa_nil))) (pg_tup rfl (pgs_cons (pg_name (i := 13) scEffR.nd rfl (Or.inr rfl)) (pgs_cons (pg_name (i := 5) scEffR.nd rfl (Or.inr rfl)) pgs_nil))))
      (pss_cons (ps_if (PW.pt (pw_or (pt_cmpR op_ne (pe_callB (cr_repr hgd hu8) (by rfl) F.bi.repr (by decide +kernel) (pa_cons (pe_h F.row hr (by omega) (pa_cons (pv 3) (pa_cons (pv 13) pa_nil))) pa_nil)) (pe_callB (cr_repr hgd hu8) (by rfl) F.bi.repr (by decide +kernel) (pa_cons (pv 5) pa_nil)) (nomark _))
          (pw_or1 (pt_cmpR op_ne (pe_callB (cr_repr hgd hu8) (by rfl) F.bi.repr (by decide +kernel) (pa_cons (pe_hk F.rowK hr (by omega) (pk_cons (pv 13) (pk_cons (pv 3) pk_nil))) pa_nil)) (pe_callB (cr_repr hgd hu8) (by rfl) F.bi.repr (by decide +kernel) (pa_cons (pv 5) pa_nil)) (nomark _))))) (pss_one (ps_ret pe_bl)) pss_nil)
      (pss_one (ps_if (PW.pt (pw_and (pt_cmpR op_lt (pe_callB call_len_seq (by rfl) F.bi.len PySem.boot_len (pa_cons (pv 5) pa_nil)) pe_int (nomark _)) (pw_and1 (pt_cmpR (op_neD hu)
          (pe_lc (own := [("_law_one", 9)]) (g := gName 9) (tt := tAnd (tTest (tOp (rLtT K) (tVar 9) (tVar 5))) (tTest (tOp (rEqD K) (tCl spLawEff (tCons (tVar 2) (tCons (tVar 9) tNil))) (tVar 13)))) (te := tVar 9) (by rfl) scEffR.nd (pi_list (pe_h F.rows hr (by omega) (pa_cons (pv 1) (pa_cons (pe_callB call_len_seq (by rfl) F.bi.len PySem.boot_len (pa_cons (pv 5) pa_nil)) pa_nil))))
            (blkOk_by (own := [("_law_one", 9)]) (N := nEffR) (sc := defScope tEffR) (by decide +kernel)) (fun _ _ _ _ _ => pg_name (i := 9) scEffR.nd rfl (Or.inl rfl)) (fun _ _ _ _ _ => by exact (pts_one (PW.pt (pw_and (pt_cmpR (op_ltT hu0) (pv 9) (pv 5) (nomark _)) (pw_and1 (pt_cmpR (op_eqD hu) (pe_h F.eff hr (by omega) (pa_cons (pv 2) (pa_cons (pv 9) pa_nil))) (pv 13) (nomark _)))))))
            (fun _ _ _ _ _ => by exact (pv 9))) (pe_lst pa_nil) (nomark _))))) (pss_one (ps_ret pe_bl)) pss_nil))))) hC), ?_⟩
  intro d g s0 p n c st v4 v5 v6 v7 v8 v9 H Q ef hn hc q
  have big : 1000 < sizeLine := by decide
  have M : Mach n c st := by
    obtain ⟨_, _, _, _, M, _⟩ := ef.ma
    exact M
  have hn0 := M.pos
  have hc0 := M.cpos
  obtain ⟨hfr, hlen⟩ := small_end M hn
  have hBl := hlen 30
  refine ⟨_, rfl, _, rfl, s0, n, c, st, rfl, ef.ll.no, M, by omega, by omega, fun L _ => Nat.le_trans (hlen L) (by omega), fun H1 pr s1 hpr0 hpr => ?_⟩
  have ef1 := ef.same s1
  have pw1 : PsW (WD d g) H1 pr (full c (effStep st) (cmds n) 30) := ⟨wd_new ef.dl hpr0, hpr⟩
  have hin : ∀ x ∈ keys (full c (effStep st) (cmds n) 30), x ∈ allRows n n := full_P c (effStep st) (cmds n) (fun x => x ∈ allRows n n) (cmds_eff n) (fun x hx k hk => M.step_in hx hk) 30
  have hpos := full_pos c (effStep st) (cmds n) 30
  have hnd := full_nodup c (effStep st) (cmds n) 30
  have hleast : ∀ q ∈ full c (effStep st) (cmds n) 30, ∀ o ∈ allRows c q.2.length, llt o q.2 = true → eff st n o ≠ q.1 := fun q hq o ho hl => by
    rw [← eff_fold]
    exact full_least c (effStep st) (cmds n) hq o ho hl
  have hlow : ∀ q ∈ full c (effStep st) (cmds n) 30, look (full c (effStep st) (cmds n) 30) q.1 = some q.2 ∧ LowR q.2 ∧ q.2 ∈ allRows c q.2.length := fun q hq => by
    have h1 := look_of_mem hnd hq
    exact ⟨h1, look_low (by omega) (by omega) h1⟩
  refine ⟨3, rfl, by omega, by omega, for_it (walk_range (lo := 0) (n := 3)) (fun i σ H' => ∃ (v5 v7 v13 : Option V), σ = [some (.ref d), some (.int c), some (.ref s0), some (.ref p), v4, v5, v6, v7, v8, v9, none, none, some (.ref pr), v13, none, none, none, none, none, none, none] ∧ Ex (WD d g) H H' ∧ EF C d g s0 p n c st H' ∧ PsW (WD d g) H' pr (full c (effStep st) (cmds n) 30))
    ⟨v5, v7, none, rfl, Ex.of s1, ef1, pw1⟩ (fun _ _ _ _ _ => trivial) ?_ ?_⟩
  · rintro i x σ H20 H2 hi ⟨v5, v7, v13, rfl, e2, ef2, pw2⟩ ⟨rfl, rfl⟩
    obtain ⟨prW, bs, hbs, pbs⟩ := id pw2
    have hbl : (bs.map V.ref).length = (full c (effStep st) (cmds n) 30).length := by rw [List.length_map]; exact Paired.length pbs
    refine ⟨_, rfl, _, rfl, d, g, pr, _, rfl, ef2.dl, prW, hbs, by omega, by omega, fun H3 x e3 D3 hx => ?_⟩
    obtain ⟨b, hb, rfl⟩ := List.mem_map.mp hx
    obtain ⟨j, hj⟩ := List.getElem?_of_mem hb
    have ef3 := ef2.ex e3 D3
    have pw3 := pw2.ex e3 ef2.dl.lists
    obtain ⟨qq, hqq, hpa⟩ := pd_at1 pbs hj
    obtain ⟨ea, ra, h1, h2, h3⟩ := hpa.ex e3 ef2.dl.lists
    have hqm := List.mem_of_getElem? hqq
    have e4 := e2.trans e3
    generalize hB : full c (effStep st) (cmds n) 30 = B at hBl pw1 hin hpos hnd hleast hlow pbs hqq hqm pw2 pw3 hbl hpr
    obtain ⟨lk, low, rin⟩ := hlow qq hqm
    have hwn : qq.1 ∈ allRows n n := hin _ (List.mem_map.mpr ⟨qq, hqm, rfl⟩)
    refine ⟨b, _, rfl, SqT.of h1, rfl, _, _, rfl, _, _, rfl, rfl, ?_⟩
    refine ⟨_, rfl, _, rfl, p, _, n, c, st, rfl, ef3.ma, .inl ⟨ea, qq.1, 30, rfl, h2, hwn, by omega, fun L _ => Nat.le_trans (hlen L) (by omega), .inl hfr, fun H5 y s5 hy => ?_⟩⟩
    rw [hB, lk] at hy
    obtain ⟨t5, rfl, ht5⟩ := hy
    have sh := shows_iT low.2 low.1
    refine ⟨_, _, rfl, dp_iT ht5, sh, .inl ⟨t5, rfl⟩, _, rfl, _, _, rfl, dp_iT (h3.same s5), sh, .inl ⟨ra, rfl⟩, rfl, _, rfl, ?_⟩
    refine iteNF rfl ?_
    have ef5 := ef3.same s5
    refine ⟨_, rfl, _, rfl, p, _, n, c, st, rfl, ef5.ma, .inl ⟨ea, qq.1, 30, rfl, h2.same s5, hwn, by omega, fun L _ => Nat.le_trans (hlen L) (by omega), .inl hfr, fun H6 y s6 hy => ?_⟩⟩
    rw [hB, lk] at hy
    obtain ⟨t6, rfl, ht6⟩ := hy
    have s36 : Same H3 H6 := s5.trans s6
    have h36 := h3.same s36
    refine ⟨_, _, rfl, dp_iT ht6, sh, .inl ⟨t6, rfl⟩, _, rfl, _, _, rfl, dp_iT h36, sh, .inl ⟨ra, rfl⟩, rfl, _, rfl, ?_⟩
    refine iteNF rfl ?_
    have ef6 := ef5.same s6
    have done : ∀ H', Same H6 H' → ∃ (v5 v7 v13 : Option V), [some (V.ref d), some (.int c), some (.ref s0), some (.ref p), v4, some (.ref ra), v6, some (.int (0 + (i : Int))), v8, v9, none, none, some (.ref pr), some (.ref ea), none, none, none, none, none, none, none] = [some (.ref d), some (.int c), some (.ref s0), some (.ref p), v4, v5, v6, v7, v8, v9, none, none, some (.ref pr), v13, none, none, none, none, none, none, none] ∧ Ex (WD d g) H H' ∧ EF C d g s0 p n c st H' ∧ PsW (WD d g) H' pr B := fun H' s' =>
      ⟨_, _, _, rfl, e4.trans (Ex.of (s36.trans s')), ef6.same s', pw3.ex (Ex.of (s36.trans s')) ef3.dl.lists⟩
    refine ⟨_, rfl, _, _, rfl, .inr (SqT.of h36), _, _, rfl, rfl, _, rfl, ?_⟩
    rw [List.length_map]
    by_cases h5 : ((qq.2.length : Nat) : Int) < 5
    · refine iteDT h5 ?_
      refine ⟨_, rfl, _, rfl, _, _, rfl, .inr (SqT.of h36), ?_⟩
      rw [List.length_map]
      have hL : qq.2.length ≤ 4 := by omega
      have hpow : c ^ qq.2.length ≤ 1000 := by
        refine Nat.le_trans (Nat.pow_le_pow_left hc qq.2.length) (Nat.le_trans (Nat.pow_le_pow_right (by decide) hL) (by decide))
      refine ⟨c, qq.2.length, rfl, hc0, by omega, by omega, hpow, fun H7 ro s7 hro0 hro => ?_⟩
      obtain ⟨os, hos, pos⟩ := hro
      have s37 : Same H3 H7 := s36.trans s7
      have hol : (os.map V.ref).length ≤ 1000 := by
        rw [List.length_map, Paired.length pos, allRows_count]
        exact hpow
      refine ⟨ro, rfl, ⟨_, SqL.of hos⟩, fun D8 hD8 => lc_filt (walk_list (xs := os.map V.ref)) NoW (fun _ => True) (fun _ => false) (fun _ _ _ => True) hD8 hol (fun z => z) (fun _ _ _ _ => trivial) (fun _ _ _ _ _ _ _ h => h) trivial
        (fun H' e _ => SqL.of (e.same _ _ hos)) (fun j x H' H'' hj e _ _ hy Qn Q' k1 k2 => ?_) (fun H8 acc e8 _ hd8 pf => ?_)⟩
      · obtain ⟨rfl, hx⟩ := hy
        obtain ⟨o, ho, rfl⟩ := get_ref hx
        obtain ⟨ov, hov, hto⟩ := pd_at1 pos ho
        have hom := List.mem_of_getElem? hov
        have s3e := s37.trans e.same
        refine ⟨rfl, _, rfl, _, rfl, o, ra, ov, qq.2, rfl, rfl, (TI.same hto e.same).sq, (h3.same s3e).sq, _, rfl, ?_⟩
        rw [lex_llt]
        cases hl : llt ov qq.2 with
        | false => exact iteF (iteF (k1 rfl _ (Ex.refl _ _) trivial))
        | true =>
          have hne := hleast qq hqm ov hom hl
          refine iteT ⟨_, rfl, _, rfl, s0, o, n, c, st, ov, rfl, (ef3.same s3e).ll.no, M, by omega, .inl (TI.same hto e.same), ((mem_allRows c _ _).mp hom).2, fun H9 p9 s9 h9 => ?_⟩
          refine ⟨_, rfl, _, _, dp_iT h9, dp_iT ((h2.same s3e).same s9), shaped_iT _, shaped_iT _, _, rfl, ?_⟩
          rw [eqv_iT]
          exact iteDF hne (k1 rfl _ (Ex.of s9) trivial)
      · have ea : acc = [] := by
          have hz : ((List.range (os.map V.ref).length).filter fun _ => false) = [] := by simp
          rw [hz] at pf
          cases pf
          rfl
        rw [ea] at hd8
        refine ⟨Nat.zero_le _, fun p9 hp9 => ?_⟩
        have s9 : Same H8 (upd H8 p9 (.lst [])) := same_new hp9
        refine ⟨_, _, dp_nil (s9 _ _ hd8), dp_nil upd_same, shaped_nil, shaped_nil, _, rfl, iteF ?_⟩
        exact done _ (s7.trans (e8.same.trans s9))
    · refine iteDF h5 ?_
      exact done _ (Same.refl _)
  · rintro σ H2 ⟨v5, v7, v13, rfl, e2, ef2, pw2⟩
    exact qC d g s0 p pr n c st _ _ _ _ _ _ _ H2 Q ef2 hn hc pw2 fun H' e D => q H' (e2.trans e) D
end
end K02

set_option Elab.async false
set_option linter.all false
set_option maxRecDepth 100000
set_option maxHeartbeats 1000000
namespace K02
open PySem L2
def scCmdL : Scope := { kind := .function, names := [(Str.ofString ".0", .local), (Str.ofString "_law_command", .cell), (Str.ofString "tuple", .globalImplicit), (Str.ofString "_law_one", .free), (Str.ofString "_law_steps", .free)], isGenerator := false, isCoroutine := false }
theorem pe_weak {X : Cx} {e : Expr} {te te' : TE} (h : PE X e te) (m : ∀ σ H Q, te' σ H Q → te σ H Q) : PE X e te' := ⟨fun pins s σ H Q I q => h.run pins s σ H Q I (m _ _ _ q)⟩
def bnd (c : Int) : Int := if c < 3 then 4 else 3
/-- 4 if v < 3 else 3 -/
def tBnd (i : Nat) : TE := fun σ H Q => ∃ c : Int, σ[i]? = some (some (.int c)) ∧ Q (.int (bnd c)) H
theorem bnd_pow {c L : Nat} (h1 : 1 ≤ c) (hc : c ≤ 3) (hL : (L : Int) < bnd c) : c ^ L ≤ 9 ∧ L ≤ 3 := by
  unfold bnd at hL
  have h3 : L ≤ 3 := by
    split at hL <;> omega
  refine ⟨?_, h3⟩
  rcases Nat.lt_or_ge c 3 with h | h
  · exact Nat.le_trans (Nat.pow_le_pow_left (show c ≤ 2 by omega) L) (Nat.le_trans (Nat.pow_le_pow_right (by decide) h3) (by decide))
  · have hc3 : c = 3 := by omega
    subst hc3
    have h2 : L ≤ 2 := by
      rw [if_neg (by decide)] at hL
      omega
    exact Nat.le_trans (Nat.pow_le_pow_right (by decide) h2) (by decide)
theorem effl_low {n c L : Nat} {st : List (List Int)} {l : List (List Int)} (M : Mach n c st) (hn : n ≤ 100) (few : Few st n c) (h : EffL n c st L l) : Shows (tT l) ∧ l.length ≤ 60 := by
  have h60 : l.length ≤ 60 := few L l h.nodup fun x hx => (h.mem x).mp hx
  refine ⟨shows_tT (fun r hr => ?_) (by omega), h60⟩
  obtain ⟨h1, h2⟩ := (mem_allRows n n r).mp (M.effs_in ((h.mem r).mp hr))
  exact ⟨by omega, fun k hk => by
    have := mem_cmds.mp (h2 k hk)
    exact ⟨this.1, by omega⟩⟩
theorem mem_two {T : List (Addr × List Int)} {ns : List (List Int)} (h1 : ∀ p ∈ T, p.2 ∈ ns) (h2 : ∀ x ∈ ns, x ∈ T.map (·.2)) (x : List Int) : x ∈ T.map (·.2) ↔ x ∈ ns := by
  refine ⟨fun h => ?_, h2 x⟩
  obtain ⟨p, hp, rfl⟩ := List.mem_map.mp h
  exact h1 p hp
section
variable {P : Program} {w : World} {K : PySem.W.Frag} {mg : Str → Option Value} {base : Heap} {C : Addr}
theorem walkA {f : Addr} {cdv : Value} {A : Around} {outer : List Env} {s : Shared} {H0 : Hp} {E : XK} {k : Nat} (F : Fns P w K mg base C) (hr : Room k (cxE P w K mg base f cdv A outer s H0 E).A) (hgd : (cxE P w K mg base f cdv A outer s H0 E).A.guards = some []) (hk : 5 ≤ k) :
    ∃ t, PSs (cxE P w K mg base f cdv A outer s H0 E) (defBody tEffR) t ∧ ∀ (d g s0 p : Addr) (n c : Nat) (st : List (List Int)) (H : Hp) (Q : VK), EF C d g s0 p n c st H → n ≤ 3 → c ≤ 3 →
      (∀ H', Ex (WD d g) H H' → Deal H' d g → Q (.bl true) H') → t { nx := fun _ H' => Q .non H', rt := Q } (L2.start nEffR [.ref d, .int c, .ref s0, .ref p]) H := by
  have hu := units64 hr
  have hu8 := hu8_of hr
  have hu3 : (cxE P w K mg base f cdv A outer s H0 E).A.units + 3 < cLine := by omega
  obtain ⟨tB, hB, qB⟩ := walkB F hr hgd hk
  refine ⟨_, pss_cons (ps_set (i := 4) scEffR.nd rfl (Or.inl rfl) (pe_h F.any hr (by omega) (pa_cons (pv 0) (pa_cons (pe_weak (te' := tBnd 1) (pe_ifExp (pt_cmpR op_lt (pv 1) pe_int (nomark _)) pe_int pe_int) (fun σ H Q ⟨c, h1, h2⟩ => ⟨_, h1, _, _, rfl, rfl, _, rfl, by
      unfold bnd at h2
      by_cases h : c < 3
      · rw [if_pos h] at h2
        exact iteDT h h2
      · rw [if_neg h] at h2
        exact iteDF h h2⟩)) pa_nil))))
    (pss_cons (ps_set (i := 6) scEffR.nd rfl (Or.inl rfl) (pe_callB (cr_sortedT rfl) (by rfl) F.bi.sorted (by decide +kernel) (pa_cons (pe_callTy (cr_setM rfl hu3) (by rfl) F.bi.set (by decide +kernel) (pa_cons
        (pe_lc (own := [("_law_row", 5)]) (g := gName 5) (te := tCl spLawEff (tCons (tVar 2) (tCons (tVar 5) tNil))) (by rfl) scEffR.nd (pi_list (pe_h F.rows hr (by omega) (pa_cons (pv 1) (pa_cons (pv 4) pa_nil)))) (blkOk_by (own := [("_law_row", 5)]) (N := nEffR) (sc := defScope tEffR) (by decide +kernel))
          (fun _ _ _ _ _ => pg_name (i := 5) scEffR.nd rfl (Or.inl rfl)) (fun _ _ _ _ _ => pts_nil) (fun _ _ _ _ _ => by exact (pe_h F.eff hr (by omega) (pa_cons (pv 2) (pa_cons (pv 5) pa_nil))))) pa_nil)) pa_nil)))
    (pss_cons (ps_if (pt_cmpR op_ne (pe_callB (cr_repr hgd hu8) (by rfl) F.bi.repr (by decide +kernel) (pa_cons (pe_hk F.effsK hr (by omega) (pk_cons (pv 4) (pk_cons (pv 3) pk_nil))) pa_nil)) (pe_callB (cr_repr hgd hu8) (by rfl) F.bi.repr (by decide +kernel) (pa_cons (pe_tupleOf (by rfl) F.bi.tuple (pv 6)) pa_nil)) (nomark _)) (pss_one (ps_ret pe_bl)) pss_nil)
    (pss_cons (ps_for PassesOwn.never rfl (pi_range1 rfl F.bi.range (pa_cons (pe_op op_add pe_int (pe_h F.any hr (by omega) (pa_cons (pv 0) (pa_cons pe_int pa_nil)))) pa_nil)) (pg_name (i := 7) scEffR.nd rfl (Or.inl rfl))
      (pss_cons (ps_par (i := 8) (j := 4) (by rfl) scEffR.nd rfl rfl (by decide) rfl rfl (pa_cons (pe_lst pa_nil) (pa_cons (pe_op op_add (pv 4) pe_int) pa_nil)) (by rfl))
      (pss_cons (ps_for PassesOwn.never rfl (pi_list (pv 6)) (pg_name (i := 9) scEffR.nd rfl (Or.inr rfl))
        (pss_one (ps_set (i := 8) scEffR.nd rfl (Or.inl rfl) (pe_op op_cat (pv 8) (pe_lc (own := [("_law_command", 10)]) (g := gName 10) (te := tThen (tLc (iTup K (tVar 9)) (gName 11) tYes (tOp (rIxL K) (tOp (rIxL K) (tVar 2) (tVar 11)) (tVar 10)) [11]) (kTup K)) (by rfl) scEffR.nd (pi_range1 rfl F.bi.range (pa_cons (pv 1) pa_nil))
          (blkOk_by (own := [("_law_command", 10)]) (N := nEffR) (sc := defScope tEffR) (by decide +kernel)) (fun _ _ _ _ _ => pg_name (i := 10) scEffR.nd rfl (Or.inr rfl)) (fun _ _ _ _ _ => pts_nil)
          (fun _ _ _ _ _ => by exact (pe_tupleOf (by rfl) F.bi.tuple (pe_lc (own := [("_law_state", 11)]) (g := gName 11) (te := tOp (rIxL K) (tOp (rIxL K) (tVar 2) (tVar 11)) (tVar 10)) (by rfl) scEffR.nd (pi_tup (pv 9)) (blkOk_by (own := [("_law_state", 11)]) (N := nEffR) (sc := relS scCmdL (defScope tEffR)) (by decide +kernel))
            (fun _ _ _ _ _ => pg_name (i := 11) scEffR.nd rfl (Or.inl rfl)) (fun _ _ _ _ _ => pts_nil) (fun _ _ _ _ _ => by exact (pe_ix ix_list (pe_ix ix_list (pv 2) (pv 11) (fun _ _ => rfl)) (pv 10) (fun _ _ => rfl)))))))))))
      (pss_one (ps_set (i := 6) scEffR.nd rfl (Or.inl rfl) (pe_callB (cr_sortedT rfl) (by rfl) F.bi.sorted (by decide +kernel) (pa_cons (pe_callTy (cr_setM rfl hu3) (by rfl) F.bi.set (by decide +kernel) (pa_cons (pv 8) pa_nil)) pa_nil)))))))
    (pss_cons (ps_if (pt_cmpR op_ne (pe_callB (cr_repr hgd hu8) (by rfl) F.bi.repr (by decide +kernel) (pa_cons (pe_h F.effs hr (by omega) (pa_cons (pv 3) (pa_cons (pv 4) pa_nil))) pa_nil)) (pe_callB (cr_repr hgd hu8) (by rfl) F.bi.repr (by decide +kernel) (pa_cons (pe_tupleOf (by rfl) F.bi.tuple (pv 6)) pa_nil)) (nomark _)) (pss_one (ps_ret pe_bl)) pss_nil)
    hB)))), ?_⟩
  intro d g s0 p n c st H Q ef hn hc q
  have big : 2000 < sizeLine := by decide
  have M : Mach n c st := by
    obtain ⟨_, _, _, _, M, _⟩ := ef.ma
    exact M
  have hn0 := M.pos
  have hc0 := M.cpos
  have few := M.few hn
  have hb3 : 3 ≤ bnd c ∧ bnd c ≤ 4 := by
    unfold bnd
    split <;> omega
  refine ⟨_, rfl, c, rfl, d, g, bnd c, rfl, ef.dl, by omega, by omega, fun H1 r e1 D1 r0 r1 => ?_⟩
  obtain ⟨L, rfl⟩ : ∃ L : Nat, r = (L : Int) := ⟨r.toNat, by omega⟩
  obtain ⟨hpow, hL3⟩ := bnd_pow hc0 hc r1
  have ef1 := ef.ex e1 D1
  refine ⟨_, rfl, _, rfl, c, L, rfl, hc0, by omega, by omega, by omega, fun H2 ro s2 hro0 hro => ?_⟩
  obtain ⟨os, hos, pos⟩ := hro
  have ef2 := ef1.same s2
  have e2 := e1.trans (Ex.of s2)
  have hol : (os.map V.ref).length = (allRows c L).length := by rw [List.length_map]; exact Paired.length pos
  have hcount : (allRows c L).length ≤ 9 := by rw [allRows_count]; exact hpow
  refine ⟨ro, rfl, ⟨_, SqL.of hos⟩, fun Dl hDl => lc_fill (walk_list (xs := os.map V.ref)) NoW (fun _ => True) (fun i H' v => ∃ t z, (effs st n c L)[i]? = some z ∧ v = .ref t ∧ TI H' t z) hDl (by omega) (fun z => z) (fun _ _ _ _ => trivial)
    (fun i v H4 H5 e _ hd ⟨t, z, e1, e2, h⟩ => ⟨t, z, e1, e2, ti_put e (lists_no _) hd h⟩) trivial (fun H' e _ => SqL.of (e.same _ _ hos)) (fun j x H' H'' hj e _ _ hy Q k => ?_) mono_yes (mono_name 5) (fun H3 acc e3 _ hd3 hl3 hr3 => ?_)⟩
  · obtain ⟨rfl, hx⟩ := hy
    obtain ⟨o, ho, rfl⟩ := get_ref hx
    obtain ⟨ov, hov, hto⟩ := pd_at1 pos ho
    have hom := List.mem_of_getElem? hov
    refine ⟨rfl, rfl, _, rfl, _, rfl, s0, o, n, c, st, ov, rfl, (ef2.same e.same).ll.no, M, by omega, .inl (TI.same hto e.same), ((mem_allRows c _ _).mp hom).2, fun H9 p9 s9 h9 => k _ _ (Ex.of s9) trivial ⟨p9, _, ?_, rfl, h9⟩⟩
    unfold effs
    rw [List.getElem?_map, hov]
    rfl
  · have prk : Paired (fun v z => ∃ a, v = V.ref a ∧ TI H3 a z) acc (effs st n c L) := pd_of (by rw [hl3, hol]; exact (List.length_map _).symm) fun m v z h1 h2 => by
      obtain ⟨t, z', e1, e2, h⟩ := hr3 m v h1
      rw [h2] at e1
      cases e1
      exact ⟨t, e2, h⟩
    obtain ⟨as, eas, pas⟩ := pd_refs prk
    have ef3 := ef2.same e3.same
    have e4 := e2.trans (Ex.of e3.same)
    rw [eas] at hd3
    refine ⟨Dl, as, effs st n c L, rfl, hd3, pas, fun m h1 h2 => by have := few L m h1 h2; omega, fun a T ha hT hall => ?_⟩
    have mem := mem_two (fun p hp => (hT p hp).2) hall
    have sa : Same H3 (upd H3 a (SetTO P w a T)) := same_new ha
    refine ⟨a, T, n, n, rfl, upd_same, fun p hp => ((hT p hp).1.same sa).sq, hn0, fun p hp => eff_bd (M.effs_in (hT p hp).2), fun T2 du pm nd _ up hdu => ?_⟩
    have sb := sa.trans (same_new (o := .lst (T2.map fun q => V.ref q.1)) hdu)
    have ef5 := ef3.same sb
    have e5 := e4.trans (Ex.of sb)
    have hdu5 : LsT (upd (upd H3 a (SetTO P w a T)) du (.lst (T2.map fun q => V.ref q.1))) du (T2.map (·.2)) := ⟨T2.map (·.1), by rw [upd_same, map_refs], pd_pairs fun p hp => (hT p (pm.mem_iff.mp hp)).1.same sb⟩
    have hel : EffL n c st L (T2.map (·.2)) := EffL.of M nd up fun x => ((pm.map (·.2)).mem_iff).trans (mem x)
    have duW := wd_new (ef3.same sa).dl hdu
    generalize T2.map (·.2) = l at hdu5 hel
    -- the first look
    refine ⟨_, rfl, _, rfl, p, n, c, L, st, rfl, ef5.ma, by omega, few, fun H6 t6 l6 s6 hl6 ht6 => ?_⟩
    obtain rfl := EffL.unique hl6 hel
    obtain ⟨sh, h60⟩ := effl_low M (by omega) few hel
    obtain ⟨us, hus, pus⟩ := hdu5
    refine ⟨_, _, rfl, dp_tT ht6, sh, .inl ⟨t6, rfl⟩, _, rfl, .inl ⟨du, _, rfl, SqL.of (s6 _ _ hus), fun t7 ht7 => ?_⟩⟩
    have s7 : Same (upd (upd H3 a (SetTO P w a T)) du (.lst (T2.map fun q => V.ref q.1))) (upd H6 t7 (.tup (us.map V.ref))) := s6.trans (same_new ht7)
    have ht7' : TuT (upd H6 t7 (.tup (us.map V.ref))) t7 l6 := ⟨us, upd_same, pd_imp (fun _ _ h => TI.same h s7) pus⟩
    refine ⟨_, _, rfl, dp_tT ht7', sh, .inl ⟨t7, rfl⟩, rfl, _, rfl, ?_⟩
    refine iteNF rfl ?_
    have ef7 := ef5.same s7
    have e7 := e5.trans (Ex.of s7)
    have hdu7 : LsT (upd H6 t7 (.tup (us.map V.ref))) du l6 := ⟨us, s7 _ _ hus, pd_imp (fun _ _ h => TI.same h s7) pus⟩
    generalize upd H6 t7 (.tup (us.map V.ref)) = H7 at ef7 e7 hdu7
    -- the loop
    refine ⟨_, rfl, d, g, 20, rfl, ef7.dl, by decide, by decide, fun H8 r e8 D8 r0 r1 => ⟨_, _, rfl, rfl, _, rfl, by omega, by omega, ?_⟩⟩
    refine for_it (walk_range (lo := 0) (n := (4 + r).toNat)) (fun i σ H' => ∃ (v7 v8 v9 : Option V) (z : Int) (du : Addr) (l : List (List Int)), σ = [some (.ref d), some (.int c), some (.ref s0), some (.ref p), some (.int z), none, some (.ref du), v7, v8, v9, none, none, none, none, none, none, none, none, none, none, none] ∧ z = ((L + i : Nat) : Int) ∧ Ex (WD d g) H H' ∧ EF C d g s0 p n c st H' ∧ LsW (WD d g) H' du l ∧ EffL n c st (L + i) l)
      ⟨none, none, none, _, du, l6, rfl, rfl, e7.trans e8, ef7.ex e8 D8, LsW.ex ⟨duW, hdu7⟩ e8 ef7.dl.lists, hel⟩ (fun _ _ _ _ _ => trivial) ?_ ?_
    · rintro i x σ H90 H9 hi ⟨v7, v8, v9, z, du, l, rfl, rfl, e9, ef9, ⟨duW, us, hus, pus⟩, hel⟩ ⟨rfl, rfl⟩
      obtain ⟨_, h60⟩ := effl_low M (by omega) few hel
      refine ⟨Nat.zero_le _, fun lt0 hlt0 => ⟨_, rfl, _, _, rfl, rfl, _, _, rfl, ?_⟩⟩
      have s10 : Same H9 (upd H9 lt0 (.lst [])) := same_new hlt0
      refine ⟨_, rfl, du, rfl, ⟨_, SqL.of (s10 _ _ hus)⟩, for_list (K := K) (a := du) (xs := us.map V.ref) (fun j σ H' => ∃ (lt : Addr) (v9 : Option V), σ = [some (.ref d), some (.int c), some (.ref s0), some (.ref p), some (.int (((L + i : Nat) : Int) + 1)), none, some (.ref du), some (.int (0 + (i : Int))), some (.ref lt), v9, none, none, none, none, none, none, none, none, none, none, none] ∧ Same H9 H' ∧ LsT H' lt ((l.take j).flatMap fun a => (cmds c).map fun k => effStep st a k))
        ⟨lt0, v9, rfl, s10, ⟨[], upd_same, by rw [List.take_zero]; exact .nil⟩⟩ (fun j σ H' _ ⟨_, _, _, h, _⟩ => SqL.of (h _ _ hus)) ?_ ?_⟩
      · rintro j x σ H11 hj ⟨lt, v9, rfl, s11, ⟨ls, hls, pls⟩⟩
        obtain ⟨b, hb, rfl⟩ := get_ref hj
        obtain ⟨a, ha, hba⟩ := pd_at1 pus hb
        obtain ⟨al, ain⟩ := (mem_allRows n n a).mp (M.effs_in ((hel.mem a).mp (List.mem_of_getElem? ha)))
        refine ⟨_, rfl, _, rfl, _, rfl, by omega, by omega, fun D hD => lc_fill (walk_range (lo := 0) (n := c)) NoW (fun _ => True) (fun k H' v => ∃ t, v = .ref t ∧ TI H' t (effStep st a (k : Int))) hD (by omega) (fun z => z) (fun _ _ _ _ => trivial)
          (fun k v H4 H5 e _ hd ⟨t, e1, h⟩ => ⟨t, e1, ti_put e (lists_no _) hd h⟩) trivial (fun H' e _ => trivial) (fun k x H' H'' hk e _ _ hy Q kk => ?_) mono_yes (mono_name 10) (fun H12 acc e12 _ hd12 hl12 hr12 => ?_)⟩
        · obtain ⟨rfl, rfl⟩ := hy
          have e0 : (0 : Int) + (k : Int) = ((k : Nat) : Int) := Int.zero_add _
          have hkin : (k : Int) ∈ cmds c := mem_cmds.mpr ⟨by omega, by omega⟩
          have sx := s11.trans e.same
          have hba' := hba.same sx
          refine ⟨rfl, rfl, _, rfl, b, rfl, ⟨_, hba'.sq⟩, fun D2 hD2 => lc_fill (walk_tup (xs := a.map V.int)) (fun _ => False) (fun _ => True) (fun m _ v => ∃ z, (effStep st a (k : Int))[m]? = some z ∧ v = .int z) hD2 (by rw [List.length_map]; omega) (fun z => z) (fun _ _ _ _ => trivial)
            (fun _ _ _ _ _ _ _ h => h) trivial (fun H2 e2 _ => (hba'.same e2.same).sq) (fun m x2 H2 H2' hm e2 _ _ hy2 Q2 k2 => ?_) mono_yes (mono_name 11) (fun H2 acc2 e2 _ hd2 hl2 hr2 => ?_)⟩
          · obtain ⟨rfl, hx2⟩ := hy2
            obtain ⟨z, hz, rfl⟩ := get_int hx2
            have hzin := ain z (List.mem_of_getElem? hz)
            obtain ⟨r, h1, h2, h3, h4⟩ := M.cell hzin hkin
            obtain ⟨bs, rb, q1, q2, q3⟩ := (ef9.ll.same (sx.trans e2.same)).row h1
            refine ⟨rfl, rfl, _, rfl, _, rfl, s0, _, _, .ref rb, rfl, rfl, SqL.of q1, ?_, _, rfl, rb, _, _, .int (stp st z (k : Int)), rfl, rfl, SqL.of q3, ?_, k2 _ _ (Ex.refl _ _) trivial ⟨_, ?_, rfl⟩⟩
            · rw [nat_of hzin]
              exact atI_nat q2
            · rw [e0]
              rw [Int.toNat_natCast] at h3
              exact atI_nat (by rw [List.getElem?_map, h3]; rfl)
            · unfold effStep
              rw [List.getElem?_map, hz]
              rfl
          · have ea : acc2 = (effStep st a (k : Int)).map V.int := lst_int (by rw [hl2, List.length_map]; unfold effStep; rw [List.length_map]) hr2
            refine .inl ⟨D2, acc2, rfl, SqL.of hd2, fun t ht => kk _ _ (Ex.of (e2.same.trans (same_new ht))) trivial ⟨t, rfl, ?_⟩⟩
            show upd _ t _ t = _
            rw [upd_same, ea]
        · have pr : Paired (fun v q => ∃ a, v = V.ref a ∧ TI H12 a q) acc ((cmds c).map fun k => effStep st a k) := pd_of (by rw [hl12, List.length_map, cmds_length]) fun k v q h1 h2 => by
            obtain ⟨t, e1, h⟩ := hr12 k v h1
            have hk : k < c := by
              have := (List.getElem?_eq_some_iff.mp h1).1
              omega
            rw [List.getElem?_map, cmds_get hk] at h2
            cases h2
            exact ⟨t, e1, h⟩
          obtain ⟨as, eas, pas⟩ := pd_refs pr
          have hls12 := e12.same _ _ hls
          have hall : (l.take (j + 1)).flatMap (fun a => (cmds c).map fun k => effStep st a k) = ((l.take j).flatMap fun a => (cmds c).map fun k => effStep st a k) ++ ((cmds c).map fun k => effStep st a k) := flat_take ha
          have hfl : ∀ m : List (List Int), (m.flatMap fun a => (cmds c).map fun k => effStep st a k).length = m.length * c := by
            intro m
            induction m with
            | nil => simp
            | cons x m ih => rw [List.flatMap_cons, List.length_append, ih, List.length_map, cmds_length, List.length_cons, Nat.add_mul, Nat.one_mul, Nat.add_comm]
          have hlsl : ls.length ≤ 180 := by
            have h1 := (Paired.length pls).trans (hfl (l.take j))
            have h2 : (l.take j).length * c ≤ 60 * 3 := Nat.mul_le_mul (Nat.le_trans (by rw [List.length_take]; omega) h60) hc
            omega
          refine ⟨lt, D, _, acc, rfl, rfl, hls12, hd12, by rw [List.length_map, hl12]; omega, fun p hp => ?_⟩
          refine ⟨p, some (.ref b), rfl, (s11.trans e12.same).trans (same_new hp), ?_⟩
          rw [hall]
          exact ⟨ls ++ as, by rw [upd_same, List.map_append, eas], pd_app (pd_imp (fun _ _ h => (TI.same h e12.same).same (same_new hp)) pls) (pd_imp (fun _ _ h => h.same (same_new hp)) pas)⟩
      · rintro σ H11 ⟨lt, v9, rfl, s11, ⟨ls, hls, pls⟩⟩
        rw [List.length_map, Paired.length pus, List.take_length] at pls
        have memE : ∀ x, x ∈ (l.flatMap fun a => (cmds c).map fun k => effStep st a k) ↔ x ∈ effs st n c (L + i + 1) := fun x => by
          rw [effs_succ, List.mem_flatMap]
          constructor
          · rintro ⟨a, ha, hx⟩
            obtain ⟨k, hk, rfl⟩ := List.mem_map.mp hx
            exact ⟨a, (hel.mem a).mp ha, k, hk, rfl⟩
          · rintro ⟨a, ha, k, hk, rfl⟩
            exact ⟨a, (hel.mem a).mpr ha, List.mem_map.mpr ⟨k, hk, rfl⟩⟩
        refine ⟨_, rfl, lt, ls, _, rfl, hls, pls, fun m h1 h2 => by have := few (L + i + 1) m h1 (fun x hx => (memE x).mp (h2 x hx)); omega, fun a T ha hT hall => ?_⟩
        have mem := mem_two (fun p hp => (hT p hp).2) hall
        have sa : Same H11 (upd H11 a (SetTO P w a T)) := same_new ha
        refine ⟨a, T, n, n, rfl, upd_same, fun p hp => ((hT p hp).1.same sa).sq, hn0, fun p hp => eff_bd (M.effs_in ((memE _).mp (hT p hp).2)), fun T2 du2 pm nd _ up hdu2 => ?_⟩
        have sb := sa.trans (same_new (o := .lst (T2.map fun q => V.ref q.1)) hdu2)
        have sc := s11.trans sb
        have hlx : LsT (upd (upd H11 a (SetTO P w a T)) du2 (.lst (T2.map fun q => V.ref q.1))) du2 (T2.map (·.2)) := ⟨T2.map (·.1), by rw [upd_same, map_refs], pd_pairs fun p hp => (hT p (pm.mem_iff.mp hp)).1.same sb⟩
        have ez : (((L + i : Nat) : Int) + 1) = ((L + (i + 1) : Nat) : Int) := by omega
        refine ⟨_, _, _, _, du2, _, rfl, ez, e9.trans (Ex.of sc), ef9.same sc, ⟨wd_new (ef9.same (s11.trans sa)).dl hdu2, hlx⟩, EffL.of M nd up fun x => ?_⟩
        rw [(pm.map (·.2)).mem_iff, mem x]
        exact memE x
    · rintro σ H9 ⟨v7, v8, v9, z, du, l, rfl, rfl, e9, ef9, ⟨duW, us, hus, pus⟩, hel⟩
      obtain ⟨sh, h60⟩ := effl_low M (by omega) few hel
      refine ⟨_, rfl, _, rfl, p, n, c, _, st, rfl, ef9.ma, by omega, few, fun H10 t10 l10 s10 hl10 ht10 => ?_⟩
      obtain rfl := EffL.unique hl10 hel
      refine ⟨_, _, rfl, dp_tT ht10, sh, .inl ⟨t10, rfl⟩, _, rfl, .inl ⟨du, _, rfl, SqL.of (s10 _ _ hus), fun t11 ht11 => ?_⟩⟩
      have s11 : Same H9 (upd H10 t11 (.tup (us.map V.ref))) := s10.trans (same_new ht11)
      have ht11' : TuT (upd H10 t11 (.tup (us.map V.ref))) t11 l10 := ⟨us, upd_same, pd_imp (fun _ _ h => TI.same h s11) pus⟩
      refine ⟨_, _, rfl, dp_tT ht11', sh, .inl ⟨t11, rfl⟩, rfl, _, rfl, ?_⟩
      refine iteNF rfl ?_
      exact qB d g s0 p n c st _ _ _ _ _ _ _ Q (ef9.same s11) hn hc fun H' e D => q H' ((e9.trans (Ex.of s11)).trans e) D
/-- the whole def -/
def spEffR (C : Addr) : Sp := fun vs H Q _ => ∃ (d g s0 p : Addr) (n c : Nat) (st : List (List Int)), vs = [.ref d, .int c, .ref s0, .ref p] ∧ EF C d g s0 p n c st H ∧ n ≤ 3 ∧ c ≤ 3 ∧ ∀ H', Ex (WD d g) H H' → Deal H' d g → Q (.bl true) H'
theorem has_effR (F : Fns P w K mg base C) (D : Df K mg "_law_effects_right" tEffR) : HasG P w K mg base 6 "_law_effects_right" ["_law_deal", "_law_commands", "_law_steps", "_law_machine_here"] (spEffR C) := by
  refine D.hasG (fun Fn => fun_g Fn scEffR (fun vs H Q E h => ?_) (fun cdv A outer s H vs Q E hr hg h => ?_)) (fun F => F.binds fun _ _ _ _ _ _ us hl => match us, hl with | [_, _, _, _], _ => rfl)
  · obtain ⟨d, g, s0, p, n, c, st, rfl, _⟩ := h
    rfl
  · obtain ⟨d, g, s0, p, n, c, st, rfl, ef, hn, hc, q⟩ := h
    obtain ⟨t, h1, h2⟩ := walkA (f := _) (cdv := cdv) (A := A) (outer := outer) (s := s) (H0 := H) (E := E) F hr hg (Nat.le_refl 5)
    exact ⟨t, h1, h2 d g s0 p n c st H Q ef hn hc q⟩
end
end K02

set_option Elab.async false
set_option linter.all false
set_option maxRecDepth 100000
set_option maxHeartbeats 1000000
/-! what _law_refused makes of a Refused -/
namespace K02
open PySem PySem.Spec PyProof.Rows L2
abbrev tLawRef : Stmt := top 31
structure RTx2 (K : PySem.W.Frag) (mg : Str → Option Value) (R IM IR EE : Addr) : Prop where
  gR : mg "Refused" = some (.ref R)
  gIM : mg "InvalidMachine" = some (.ref IM)
  gIR : mg "InvalidRow" = some (.ref IR)
  gEE : mg "EndsError" = some (.ref EE)
  kIM : PySem.W.kitOne K (.ref R) (.ref IM) = some false
  kIR : PySem.W.kitOne K (.ref R) (.ref IR) = some false
  te : PySem.W.exmOne K (.ref R) (.ref EE) = some true
  cl : (PySem.W.clsIn K R).isSome = true
  ca : PySem.W.findIn K (.ref R) "__class__" = some (some (.builtin "object.__class__"))
  cn : PySem.W.specialIn K (.builtin "object.__class__") "__get__" = some (some (.builtin "getset_descriptor.__get__"))
  ct : PySem.W.takesIn K (.builtin "object.__class__") = some true
  cm : PySem.W.mroIn K R (.type "object") = some true
def rIsX (K : PySem.W.Frag) (R a : Addr) (cls : Value) (d : Option Addr) : List V → Hp → VK → Prop := fun xs H Q => ∃ (c : V) (u : Value) (b : Bool) (dd : Addr) (fs : List (Str × V)), xs = [.ref a, c] ∧ cls = .ref R ∧ ClsV c u ∧ PySem.W.kitOne K (.ref R) u = some b ∧ d = some dd ∧ H dd = some (.xd fs) ∧ Q (.bl b) H
theorem cr_isX {X : Cx} {a R fI cc IM IR EE : Addr} {oe : Obj} {cls : Value} {d : Option Addr} {pn : List (Addr × Obj)} (T : RTxt X.prog X.K X.mg R fI cc) (T2 : RTx2 X.K X.mg R IM IR EE) (hz : Zc cls d oe) (hf : ∃ vs, oe.data = .fields vs) : CallR (X.suite a ((a, oe) :: pn)) (.builtin "isinstance") (rIsX X.K R a cls d) := by
  intro pins s σ H xs us Q I r h
  obtain ⟨c, u, b, dd, fs, rfl, rfl, k, e, rfl, ea, q⟩ := h
  obtain ⟨u1, u2, rfl, r1, r2⟩ := vals2 r
  have e2 := k.eq r2
  subst e2
  obtain rfl : u1 = Value.ref a := r1
  obtain ⟨ha, _⟩ := I.pin (a, oe) (List.mem_append_left _ List.mem_cons_self)
  obtain ⟨vs, hd⟩ := hf
  have hx : ObjOk X.prog X.w H s.heap dd (.xd fs) := I.hok dd _ ea
  obtain ⟨mA, hns, _⟩ := hx
  obtain ⟨od, ho, _⟩ := lookIn_ns hns
  have J : PySem.W.InstAt s.heap a oe R (some od) := ⟨ha, hz.1, by unfold PySem.W.notCls; rw [hd] <;> rfl, by rw [hz.2]; exact ho⟩
  exact PySem.W.kia_one (PySem.W.kitx_exc T2.cl T.ga T.gg T.exC T2.ca T2.cn T2.ct T2.cm) I.kIn J e (fun z => nomatch z) fun tk => ⟨.bl b, H, I.tok tk, rfl, q⟩
/-! ### the def that is handed the lambda -/
abbrev nRef : List Str := ["_law_work", "e", "_law_kinds"]
theorem scRef : FnScope nRef ["_law_work"] (defScope tLawRef) := ⟨rfl, rfl, rfl, by decide +kernel, rfl, by decide +kernel, by decide +kernel⟩
def refTxt : Str := (iT [2, 0]).shown
/-- the lambda raises Refused(0): the text of (2, 0) -/
def TRef (R : Addr) : (XK → Hp → VK → Prop) → Hp → VK → Prop := fun tl H Q => ∀ Qn : VK, tl (fun cls d H' => cls = .ref R ∧ ∃ dd, d = some dd ∧ H' dd = some (.xd [(("at" : Str), .int 0)]) ∧ ∀ H2, Same H' H2 → Q (.str refTxt) H2) H Qn
theorem takes_len {X : Cx} {W : WX} (tk : Takes X W) : Takes X (fun cls d σ H => σ.length = X.N.length → W cls d σ H) := fun u s' x => tk u s' (by
  obtain ⟨a, B, sI, pins', σ', H', cls, d, e, J, x1, x2, x3, x4, x5, x6, z⟩ := x
  exact ⟨a, B, sI, pins', σ', H', cls, d, e, J, x1, x2, x3, x4, x5, x6, z J.len⟩)
theorem iteB {c : Bool} {A B : Prop} (hc : c = true) (h : A) : if c = true then A else B := by
  rw [if_pos hc]
  exact h
abbrev cxR (X : Cx) (g : Addr) (cdg : Value) (s : Shared) (H : Hp) : Cx := (cxOf C8.CX0 X.prog X.w X.K X.mg X.base nRef "_law_refused" (defScope tLawRef) g cdg X.A X.stack s H C8.E0).nox
theorem refused_gives {X : Cx} {k : Nat} {R fI cc IM IR EE g : Addr} {cdg : Value} {q : Str} (B : Bi X.mg) (T : RTxt X.prog X.K X.mg R fI cc) (T2 : RTx2 X.K X.mg R IM IR EE) (hgd : X.A.guards = some []) (hr : Room (k + 1) X.A) : LamX.GivesTo X nRef "_law_refused" (defScope tLawRef) g cdg (defBody tLawRef) "_law_work" q (TRef R) := by
  intro f c' s H Q tl act hc h
  have hu1 : (X.A.deeper (envOfC "_law_refused" (defScope tLawRef) s.heap.objs.size g cdg)).units + 65 < cLine := units65 (hr.deeper _)
  have hu2 : (X.A.deeper (envOfC "_law_refused" (defScope tLawRef) s.heap.objs.size g cdg)).units + 8 < cLine := hu8_of (hr.deeper _)
  refine ⟨_, pss_cons (ps_try_as (X := cxR X g cdg s H) (c := .ref EE) (i := 1)
      (tb := fun W D σ H => ∃ Ech : XK, (∀ cls d σ' H', Ech cls d H' → σ'.length = 3 → W cls d σ' H') ∧ σ[0]? = some (some (.ref f)) ∧ H c' = some (LamX.CodeO c' q) ∧ tl Ech H (fun _ H' => D.nx σ H'))
      (ts := fun a cls d => tSeq (tAsg (tLst (tCons (tCB (rIsX X.K R a cls d) (tCons (tVar 1) (tCons (tC (.ref IM)) tNil))) (tCons (tCB (rIsX X.K R a cls d) (tCons (tVar 1) (tCons (tC (.ref IR)) tNil))) (tCons (tCB (rIsX X.K R a cls d) (tCons (tVar 1) (tCons (tC (.ref R)) tNil))) tNil)))) (gName 2))
        (tRet (tCB (rRepr X.K) (tCons (tTup (tCons (tIf (tTest (tOp (rInD X.K) (tC (.bl true)) (tVar 2))) (tBM X.K "list" (rIndexD X.K) (tVar 2) (tCons (tC (.bl true)) tNil)) (tC (.int 3))) (tCons (tAtR R a cls d (tVar 1)) tNil))) tNil))))
      (Wout := fun _ _ _ _ => False) rfl rfl scRef.nd rfl rfl ⟨rfl, by decide, Or.inl T2.gEE⟩ LamX.takes0 (fun W pn xe tk _ => ?_)
      (fun a oe cls d pn hz hf => pss_cons (ps_set (i := 2) scRef.nd rfl (Or.inl rfl) (pe_lst (pa_cons (pe_callB (cr_isX (X := cxR X g cdg s H) T T2 hz hf) (by rfl) B.isinstance (by decide +kernel) (pa_cons (pv 1) (pa_cons (pe_glob (v := .ref IM) (by rfl) T2.gIM rfl) pa_nil)))
        (pa_cons (pe_callB (cr_isX (X := cxR X g cdg s H) T T2 hz hf) (by rfl) B.isinstance (by decide +kernel) (pa_cons (pv 1) (pa_cons (pe_glob (v := .ref IR) (by rfl) T2.gIR rfl) pa_nil)))
        (pa_cons (pe_callB (cr_isX (X := cxR X g cdg s H) T T2 hz hf) (by rfl) B.isinstance (by decide +kernel) (pa_cons (pv 1) (pa_cons (pe_glob (v := .ref R) (by rfl) T2.gR rfl) pa_nil))) pa_nil)))))
        (pss_one (ps_ret (pe_callB (cr_repr (X := (cxR X g cdg s H).suite a ((a, oe) :: pn)) hgd hu2) (by rfl) B.repr (by decide +kernel) (pa_cons (pe_tup (pa_cons (pe_ifExp (pt_cmpR (op_inD (X := (cxR X g cdg s H).suite a ((a, oe) :: pn)) hu1) pe_bl (pv 2) (by rfl)) (pe_bm PySem.F.plainAttrs_list PySem.F.slot_list_index PySem.F.type_list_index (mt_indexD (X := (cxR X g cdg s H).suite a ((a, oe) :: pn)) hu1) (pv 2) (pa_cons pe_bl pa_nil)) pe_int)
          (pa_cons (pe_atR (X := cxR X g cdg s H) T hz hf (pv 1)) pa_nil))) pa_nil))))))
    (pss_one (ps_ret pe_non)), ?_⟩
  · refine ⟨fun pins s' σ H' D I h' => ?_⟩
    obtain ⟨Ech, hW, h1, h2, h3⟩ := h'
    have hp := fun p1 p2 => act _ pn xe Ech p1 p2 (takes_len tk) fun cls d σ' H' e hl => hW cls d σ' H' e hl
    exact (pss_one (ps_expr (hp _ _))).run pins s' σ H' D I ⟨h1, h2, h3⟩
  · refine ⟨_, fun cls d σ' H' hE hl => ?_, rfl, hc, h _⟩
    obtain ⟨rfl, dd, rfl, hxd, q⟩ := hE
    match σ', hl with
    | [u0, u1, u2], _ =>
      refine ⟨true, T2.te, fun _ a ha => ?_, fun z => by cases z⟩
      refine ⟨_, rfl, .ref IM, .ref IM, false, dd, _, rfl, rfl, .own IM, T2.kIM, rfl, hxd, _, rfl, .ref IR, .ref IR, false, dd, _, rfl, rfl, .own IR, T2.kIR, rfl, hxd, _, rfl, .ref R, .ref R, true, dd, _, rfl, rfl, .own R, if_pos (beq_self_eq_true _), rfl, hxd, by show 3 ≤ sizeLine; decide, fun l hl => ?_⟩
      have hlst : (upd H' l (.lst [.bl false, .bl false, .bl true])) l = some (.lst [.bl false, .bl false, .bl true]) := upd_same
      have s1 : Same H' (upd H' l (.lst [.bl false, .bl false, .bl true])) := same_new hl
      have dl : Dp X.K (upd H' l (.lst [.bl false, .bl false, .bl true])) (.ref l) (.list [.bool false, .bool false, .bool true]) := .lst (SqL.of hlst) (.cons (.bl _) (.cons (.bl _) (.cons (.bl _) .nil)))
      have sh1 : SeqAt.shaped (.bool true) = true := by decide +kernel
      have sh3 : SeqAt.shaped (.list [.bool false, .bool false, .bool true]) = true := by decide +kernel
      refine ⟨_, rfl, _, _, .bl true, dl, sh1, sh3, _, rfl, ?_⟩
      refine iteB (by decide +kernel) ?_
      refine ⟨_, rfl, .inl ⟨rfl, _, SqL.of hlst⟩, l, .bl true, .bool true, _, 2, .bool true, rfl, rfl, dl, .bl true, sh3, sh1, rfl, by decide +kernel, fun m z' hm hz => ?_, ?_⟩
      · match m, hm with
        | 0, _ => cases hz; decide +kernel
        | 1, _ => cases hz; decide +kernel
      · refine ⟨_, rfl, rfl, rfl, dd, .int 0, rfl, s1 _ _ hxd, by show 2 ≤ sizeLine; decide, fun t ht => ?_⟩
        exact ⟨_, _, rfl, dp_iT (ns := [2, 0]) upd_same, shows_iT (fun k hk => by
          simp only [List.mem_cons, List.not_mem_nil, or_false] at hk
          rcases hk with e | e <;> subst e
          · exact ⟨by decide, by decide⟩
          · exact ⟨by decide, by decide⟩) (by decide), .inl ⟨t, rfl⟩, q _ (s1.trans (same_new ht))⟩
end K02

set_option Elab.async false
set_option linter.all false
set_option maxRecDepth 100000
set_option maxHeartbeats 1000000
/-! heaps without their tables; ints kept with rows -/
namespace K02
open PySem PySem.Spec PyProof.Rows L2
/-- the tables hidden -/
def noT (H : Hp) : Hp := fun b => match H b with
  | some (.tbl _) => none
  | o => o
theorem noT_of {H : Hp} {b : Addr} {o : HO} (h : H b = some o) (n : ∀ ps, o ≠ .tbl ps) : noT H b = some o := by
  unfold noT
  rw [h]
  cases o <;> first | rfl | exact absurd rfl (n _)
theorem noT_get {H : Hp} {b : Addr} {o : HO} (h : noT H b = some o) : H b = some o ∧ ∀ ps, o ≠ .tbl ps := by
  unfold noT at h
  cases e : H b with
  | none =>
    rw [e] at h
    cases h
  | some u =>
    rw [e] at h
    cases u <;> first | (cases h; exact ⟨rfl, fun ps z => by cases z⟩) | cases h
theorem same_noT {H H' : Hp} (s : Same H H') : Same (noT H) H' := fun b o h => s b o (noT_get h).1
theorem same_ext {H H' : Hp} (e : LamX.ExtN H H') : Same (noT H) H' := fun b o h => e b o (noT_get h).1 (noT_get h).2
theorem noT_none {H : Hp} {b : Addr} (h : H b = none) : noT H b = none := by
  unfold noT
  rw [h]
theorem TI.noT {H : Hp} {a : Addr} {ns : List Int} (h : TI H a ns) : TI (noT H) a ns := noT_of h fun _ z => by cases z
theorem LL.noT {W : Addr → Prop} {H : Hp} {a : Addr} {l : List (List Int)} (h : LL W H a l) : LL W (noT H) a l :=
  let ⟨h0, bs, h1, h2⟩ := h; ⟨h0, bs, noT_of h1 (fun _ z => by cases z), pd_imp (fun _ _ q => ⟨q.1, noT_of q.2 (fun _ z => by cases z)⟩) h2⟩
theorem TuT.noT {H : Hp} {a : Addr} {l : List (List Int)} (h : TuT H a l) : TuT (noT H) a l :=
  let ⟨bs, h1, h2⟩ := h; ⟨bs, noT_of h1 (fun _ z => by cases z), pd_imp (fun _ _ q => TI.noT q) h2⟩
theorem MachAt.noT {C : Addr} {H : Hp} {p : Addr} {n c : Nat} {st : List (List Int)} (h : MachAt C H p n c st) : MachAt C (noT H) p n c st :=
  let ⟨dx, t, h1, h2, h3⟩ := h; ⟨dx, t, noT_of h1 (fun _ z => by cases z), h2.noT, h3⟩
theorem Deal.noT {H : Hp} {d g : Addr} (h : Deal H d g) : Deal (noT H) d g :=
  let ⟨b, ns, h⟩ := h; ⟨b, ns, noT_of h.hd (fun _ z => by cases z), noT_of h.hg (fun _ z => by cases z), h.ne, h.nn, h.b0, h.b1, h.few⟩
theorem EF.noT {C d g s0 p : Addr} {n c : Nat} {st : List (List Int)} {H : Hp} (h : EF C d g s0 p n c st H) : EF C d g s0 p n c st (noT H) := ⟨h.dl.noT, h.ll.noT, h.ma.noT⟩
/-- all but W and the tables stay -/
def ExN (W : Addr → Prop) (H H' : Hp) : Prop := Ex W (noT H) H'
theorem ExN.of {W : Addr → Prop} {H H' : Hp} (e : Ex W H H') : ExN W H H' := fun b o n h => e b o n (noT_get h).1
theorem ExN.then {W : Addr → Prop} {H H1 H2 : Hp} (a : ExN W H H1) (b : Ex W H1 H2) : ExN W H H2 := Ex.trans a b
theorem ExN.trans {W : Addr → Prop} {H H1 H2 : Hp} (a : ExN W H H1) (b : ExN W H1 H2) : ExN W H H2 := fun c o n h =>
  b c o n (noT_of (a c o n h) (noT_get h).2)
theorem EF.exN {C d g s0 p : Addr} {n c : Nat} {st : List (List Int)} {H H' : Hp} (h : EF C d g s0 p n c st H) (s : ExN (WD d g) H H') (D : Deal H' d g) : EF C d g s0 p n c st H' := h.noT.ex s D
theorem tabs_ex {T : List (Addr × Str)} {W : Addr → Prop} {H H' : Hp} (h : LamX.Tabs T H) (s : Ex W H H') (l : Lists W H) : LamX.Tabs T H' := fun p hp => by
  obtain ⟨ps, h1, h2, h3⟩ := h p hp
  refine ⟨ps, keep_ex l s h1 (fun _ z => by cases z), h2, fun pos cv hc => ?_⟩
  obtain ⟨c, e1, e2⟩ := h3 pos cv hc
  exact ⟨c, e1, keep_ex l s e2 (fun _ z => by unfold LamX.CodeO at z; cases z)⟩
/-! ### an int with its row -/
def PairI (H : Hp) (b : Addr) (q : Int × Row) : Prop := ∃ r, H b = some (.tup [.int q.1, .ref r]) ∧ TI H r q.2
theorem PairI.same {H H' : Hp} {b : Addr} {q : Int × Row} (h : PairI H b q) (s : Same H H') : PairI H' b q := let ⟨r, h1, h2⟩ := h; ⟨r, s _ _ h1, h2.same s⟩
theorem PairI.noT {H : Hp} {b : Addr} {q : Int × Row} (h : PairI H b q) : PairI (noT H) b q := let ⟨r, h1, h2⟩ := h; ⟨r, noT_of h1 (fun _ z => by cases z), h2.noT⟩
theorem PairI.tk {H H' : Hp} {b : Addr} {q : Int × Row} (h : PairI H b q) (s : TupKeep H H') : PairI H' b q := let ⟨r, h1, h2⟩ := h; ⟨r, s _ _ h1, TI.tk h2 s⟩
theorem PairI.ex {W : Addr → Prop} {H H' : Hp} {b : Addr} {q : Int × Row} (h : PairI H b q) (s : Ex W H H') (l : Lists W H) : PairI H' b q := let ⟨r, h1, h2⟩ := h; ⟨r, keep_ex l s h1 (fun _ z => by cases z), TI.ex h2 s l⟩
def PsI (H : Hp) (f : Addr) (B : List (Int × Row)) : Prop := ∃ bs : List Addr, H f = some (.lst (bs.map V.ref)) ∧ Paired (PairI H) bs B
theorem PsI.same {H H' : Hp} {f : Addr} {B : List (Int × Row)} (h : PsI H f B) (s : Same H H') : PsI H' f B := let ⟨bs, h1, h2⟩ := h; ⟨bs, s _ _ h1, pd_imp (fun _ _ q => q.same s) h2⟩
theorem PsI.noT {H : Hp} {f : Addr} {B : List (Int × Row)} (h : PsI H f B) : PsI (noT H) f B := let ⟨bs, h1, h2⟩ := h; ⟨bs, noT_of h1 (fun _ z => by cases z), pd_imp (fun _ _ q => q.noT) h2⟩
theorem perm_up {l l' m : List Int} (h : l.Perm m) (h' : l'.Perm m) (nd : m.Nodup) (u : l.Pairwise (· ≤ ·)) (u' : l'.Pairwise (· ≤ ·)) : l = l' := by
  have st : ∀ {l : List Int}, l.Perm m → l.Pairwise (· ≤ ·) → l.Pairwise fun x y => (id x : Int) < id y := fun {l} h u => by
    have nl : l.Nodup := h.nodup_iff.mpr nd
    exact (List.Pairwise.and nl u).imp fun {a b} ⟨x, y⟩ => by
      show a < b
      omega
  exact up_unique (f := id) (st h u) (st h' u') fun x => (h.mem_iff).trans (h'.mem_iff).symm
end K02

set_option Elab.async false
set_option linter.all false
set_option maxRecDepth 100000
set_option maxHeartbeats 1000000
/-! _law_reached_right: the second half -/
namespace K02
open PySem PySem.Spec PyProof.Rows L2
abbrev tReachR : Stmt := top 35
abbrev nRR : List Str := ["_law_deal", "_law_commands", "_law_steps", "_law_machine_here", "_law_many", "_law_found", "_law_length", "_law_row", "_law_end", "_law_pair", "_law_rows_here", "_law_start", "_law_state"]
theorem scRR : FnScope nRR ["_law_deal", "_law_commands", "_law_steps", "_law_machine_here"] (defScope tReachR) := ⟨rfl, rfl, rfl, by decide +kernel, rfl, by decide +kernel, by decide +kernel⟩
section
variable {P : Program} {w : World} {K : PySem.W.Frag} {mg : Str → Option Value} {base : Heap} {C : Addr}
structure FnR (P : Program) (w : World) (K : PySem.W.Frag) (mg : Str → Option Value) (base : Heap) (C R fI cc IM IR EE : Addr) : Prop where
  reached : Has P w K mg base 2 "reached" ["machine", "start"] (spReached C)
  reachedK : HasK P w K mg base 2 "reached" ["machine", "start"] ["start", "machine"] (spReached C)
  reach : Has P w K mg base 2 "reaching_row" ["machine", "start", "state"] (spReach C)
  reachK : HasK P w K mg base 2 "reaching_row" ["machine", "start", "state"] ["state", "start", "machine"] (spReach C)
  first : Has P w K mg base 1 "first_rows" ["machine", "start"] (spFirst C)
  dReach : Df K mg "reaching_row" tReachRow
  dRef : Df K mg "_law_refused" tLawRef
  rt : RTxt P K mg R fI cc
  rt2 : RTx2 K mg R IM IR EE
abbrev cxRR (P : Program) (w : World) (K : PySem.W.Frag) (mg : Str → Option Value) (base : Heap) (f : Addr) (cdv : Value) (A : Around) (outer : List Env) (s : Shared) (H : Hp) (E : XK) : Cx := (cxOf CX0 P w K mg base nRR "_law_reached_right" (defScope tReachR) f cdv A outer s H E).nox
abbrev lamQ : Str := "_law_reached_right.<locals>.<lambda>"
theorem low_ns {n : Nat} {ns : List Int} {B : List (Int × Row)} (pm : ns.Perm (keys B)) (hB : ∀ x ∈ keys B, x ∈ cmds n) (nd : (keys B).Nodup) (hn : n ≤ 100) : Shows (iT ns) := by
  refine shows_iT (fun k hk => ?_) ?_
  · have := mem_cmds.mp (hB k (pm.mem_iff.mp hk))
    exact ⟨this.1, by omega⟩
  · have h1 := pigeon (keys B) (cmds n) nd hB
    rw [cmds_length] at h1
    have h2 := pm.length_eq
    omega
theorem walkS {R fI cc IM IR EE f co Pt : Addr} {A : Around} {outer : List Env} {s : Shared} {H0 : Hp} {E : XK} {k : Nat} (F : Fns P w K mg base C) (FR : FnR P w K mg base C R fI cc IM IR EE) (TB : LamX.TabB base mg co Pt) (hr : Room k (cxRR P w K mg base f (.ref co) A outer s H0 E).A) (hgd : (cxRR P w K mg base f (.ref co) A outer s H0 E).A.guards = some []) (hk : 5 ≤ k) :
    ∃ t, PSs (cxRR P w K mg base f (.ref co) A outer s H0 E) ((defBody tReachR).drop 3) t ∧ ∀ (d g s0 p fl : Addr) (n c : Nat) (st : List (List Int)) (a : Int) (v6 v7 v8 : Option V) (H : Hp) (Q : VK), EF C d g s0 p n c st H → a ∈ cmds n → ¬ WD d g fl → PsI H fl (full c (stp st) a n) → LamX.Tabs [(Pt, lamQ)] H →
      (∀ H', ExN (WD d g) H H' → Deal H' d g → LamX.Tabs [(Pt, lamQ)] H' → Q (.bl true) H') → t { nx := fun _ H' => Q .non H', rt := Q } [some (.ref d), some (.int c), some (.ref s0), some (.ref p), some (.int n), some (.ref fl), v6, v7, v8, none, none, some (.int a), none] H := by
  have hu := units64 hr
  have hu8 := hu8_of hr
  obtain ⟨fr, fdr, Fr, hmr⟩ := FR.dReach.ex
  have okX : FnOk P w K mg base (L2.CX P w) 3 fr fdr ["machine", "start", "state"] (spReachX C R) := ok_reachX FR.rt FR.first Fr
  have bdX : Binds K fdr ["machine", "start", "state"] [] := Fr.binds fun _ _ _ _ _ _ us hl => match us, hl with | [_, _, _], _ => rfl
  obtain ⟨gr, fdg, Fg, hmg⟩ := FR.dRef.ex
  have bdG : Binds K fdg ["_law_work"] [] := Fg.binds fun _ _ _ _ _ _ us hl => match us, hl with | [_], _ => rfl
  obtain ⟨oc, od, kV, doc, pm, an, cdg, ct, osl, efd, lk, hcg⟩ := Fg.ex
  subst efd
  have hr5 : Room 5 (cxRR P w K mg base f (.ref co) A outer s H0 E).A := hr.mono hk
  refine ⟨_, pss_cons (ps_if (pt_cmpR op_ne (pe_callB (cr_repr hgd hu8) (by rfl) F.bi.repr (by decide +kernel) (pa_cons (pe_hk FR.reachedK hr (by omega) (pk_cons (pv 11) (pk_cons (pv 3) pk_nil))) pa_nil))
        (pe_callB (cr_repr hgd hu8) (by rfl) F.bi.repr (by decide +kernel) (pa_cons (pe_tupleOf (by rfl) F.bi.tuple (pe_callB cr_sortedI (by rfl) F.bi.sorted (by decide +kernel) (pa_cons
          (pe_lc (own := [("_law_pair", 9)]) (g := gName 9) (te := tOp (rIxT K) (tVar 9) (tC (.int 0))) (by rfl) scRR.nd (pi_list (pv 5)) (blkOk_by (own := [("_law_pair", 9)]) (N := nRR) (sc := defScope tReachR) (by decide +kernel))
            (fun _ _ _ _ _ => pg_name (i := 9) scRR.nd rfl (Or.inl rfl)) (fun _ _ _ _ _ => pts_nil) (fun _ _ _ _ _ => by exact (pe_ix ix_tup (pv 9) pe_int (fun _ _ => rfl)))) pa_nil))) pa_nil)) (nomark _)) (pss_one (ps_ret pe_bl)) pss_nil)
    (pss_cons (ps_for PassesOwn.never rfl (pi_range1 rfl F.bi.range (pa_cons (pv 4) pa_nil)) (pg_name (i := 12) scRR.nd rfl (Or.inr rfl))
      (pss_cons (ps_setLc (i := 10) (own := [("_law_pair", 9)]) (g := gName 9) (tt := tTest (tOp rEq (tOp (rIxT K) (tVar 9) (tC (.int 0))) (tVar 12))) (te := tOp (rIxT K) (tVar 9) (tC (.int 1))) (by rfl) scRR.nd rfl rfl (sw_true rfl rfl rfl (by decide +kernel)) (pi_list (pv 5))
          (blkOk_by (own := [("_law_pair", 9)]) (N := nRR) (sc := defScope tReachR) (by decide +kernel)) (fun _ _ _ _ _ => pg_name (i := 9) scRR.nd rfl (Or.inl rfl)) (fun _ _ _ _ _ => by exact (pts_one (pt_cmpR op_eq (pe_ix ix_tup (pv 9) pe_int (fun _ _ => rfl)) (pv 12) (nomark _)))) (fun _ _ _ _ _ => by exact (pe_ix ix_tup (pv 9) pe_int (fun _ _ => rfl))))
      (pss_one (ps_if (pt_cmpR (op_eqD hu) (pv 10) (pe_lst pa_nil) (nomark _))
        (pss_one (ps_if (pt_cmpR op_ne (LamX.pe_lamcall (T := [(Pt, lamQ)]) (TT := TRef R) (a := "_law_work") (k := 3) (Ng := nRef) (t := fun E => tCall (spReachX C R) [] E (tCons (tVar 3) (tCons (tVar 11) (tCons (tVar 12) tNil)))) rfl hmg Fg.kp lk hcg bdG scRef rfl (Or.inl rfl)
            (refused_gives F.bi FR.rt FR.rt2 hgd hr5) TB rfl List.mem_cons_self (fun p hp _ => by rw [List.mem_singleton.mp hp]; rfl) hr5 (LamX.lamS_by (sc := defScope tReachR) (by decide +kernel)) rfl (fun _ _ _ _ _ => rfl)
            (fun A outer s H E f c' hr2 => by exact (pe_call okX hr2 rfl hmr Fr.kp bdX .nil (passes_call (takes_of rfl rfl rfl rfl) (fun _ _ _ _ h => h)) (pa_cons (pv 3) (pa_cons (pv 11) (pa_cons (pv 12) pa_nil))))))
          (pe_callB (cr_repr hgd hu8) (by rfl) F.bi.repr (by decide +kernel) (pa_cons (pe_tup (pa_cons pe_int (pa_cons pe_int pa_nil))) pa_nil)) (nomark _)) (pss_one (ps_ret pe_bl)) pss_nil))
        (pss_one (ps_if (pt_cmpR op_ne (pe_callB (cr_repr hgd hu8) (by rfl) F.bi.repr (by decide +kernel) (pa_cons (pe_hk FR.reachK hr (by omega) (pk_cons (pv 12) (pk_cons (pv 11) (pk_cons (pv 3) pk_nil)))) pa_nil))
          (pe_callB (cr_repr hgd hu8) (by rfl) F.bi.repr (by decide +kernel) (pa_cons (pe_ix ix_list (pv 10) pe_int (fun _ _ => rfl)) pa_nil)) (nomark _)) (pss_one (ps_ret pe_bl)) pss_nil))))))
    (pss_one (ps_ret pe_bl))), ?_⟩
  intro d g s0 p fl n c st a v6 v7 v8 H Q ef ha flW hfl tb q
  have big : 1000 < sizeLine := by decide
  have M : Mach n c st := by
    obtain ⟨_, _, _, _, M, _⟩ := ef.ma
    exact M
  obtain ⟨hn100, hc100⟩ : n ≤ 100 ∧ c ≤ 100 := by
    obtain ⟨_, _, _, _, _, h⟩ := ef.ma
    exact h
  have hn0 := M.pos
  have hin : ∀ x ∈ keys (full c (stp st) a n), x ∈ cmds n := full_P c (stp st) a (fun x => x ∈ cmds n) ha (fun x hx k hk => M.stp_in hx hk) n
  have hnd := full_nodup c (stp st) a n
  have hlow : ∀ z r, look (full c (stp st) a n) z = some r → LowR r := fun z r h => (look_low hc100 (by omega) h).1
  have hBl : (full c (stp st) a n).length ≤ n := by
    have h1 := pigeon (keys (full c (stp st) a n)) (cmds n) hnd hin
    rw [cmds_length, List.length_map] at h1
    exact h1
  refine ⟨_, rfl, _, rfl, p, a, n, c, st, rfl, ef.ma, ha, fun H1 t1 ns s1 pm up ht => ?_⟩
  have sh := low_ns pm hin hnd hn100
  refine ⟨_, _, rfl, dp_iT ht, sh, .inl ⟨t1, rfl⟩, ?_⟩
  have hfl1 := hfl.same s1
  have ef1 := ef.same s1
  have tb1 := tb.ext s1
  generalize hB : full c (stp st) a n = B at hfl1 hin hnd hlow hBl pm hfl
  obtain ⟨bs, hbs, pbs⟩ := id hfl1
  have hbl : (bs.map V.ref).length = B.length := by rw [List.length_map]; exact Paired.length pbs
  refine ⟨_, rfl, fl, rfl, ⟨_, SqL.of hbs⟩, fun D hD => lc_fill (walk_list (xs := bs.map V.ref)) NoW (fun _ => True) (fun m H' v => ∃ z, (keys B)[m]? = some z ∧ v = .int z) hD (by omega) (fun z => z) (fun _ _ _ _ => trivial)
    (fun _ _ _ _ _ _ _ h => h) trivial (fun H' e _ => SqL.of (e.same _ _ hbs)) (fun m x H' H'' hm e _ _ hy Q kk => ?_) mono_yes (mono_name 9) (fun H3 acc e3 _ hd3 hl3 hr3 => ?_)⟩
  · obtain ⟨rfl, hx⟩ := hy
    obtain ⟨b, hb, rfl⟩ := get_ref hx
    obtain ⟨q, hq, r, h1, h2⟩ := pd_at1 pbs hb
    refine ⟨rfl, rfl, _, rfl, b, _, 0, .int q.1, rfl, rfl, SqT.of (e.same _ _ h1), at0, kk _ _ (Ex.refl _ _) trivial ⟨q.1, ?_, rfl⟩⟩
    unfold keys
    rw [List.getElem?_map, hq]
    rfl
  · have ea : acc = (keys B).map V.int := lst_int (by rw [hl3, hbl, List.length_map]) hr3
    rw [ea] at hd3
    refine ⟨D, keys B, rfl, SqL.of hd3, fun ns2 t2 pm2 up2 ht2 => .inl ⟨t2, _, rfl, SqL.of upd_same, fun u hu' => ?_⟩⟩
    obtain rfl := perm_up pm pm2 hnd up up2
    have s3 : Same H1 (upd (upd H3 t2 (.lst (ns.map V.int))) u (.tup (ns.map V.int))) := e3.same.trans ((same_new ht2).trans (same_new hu'))
    have hu2 : TI (upd (upd H3 t2 (.lst (ns.map V.int))) u (.tup (ns.map V.int))) u ns := upd_same
    refine ⟨_, _, rfl, dp_iT hu2, sh, .inl ⟨u, rfl⟩, rfl, _, rfl, ?_⟩
    refine iteNF rfl ?_
    have ef3 := ef1.same s3
    have hfl3 := hfl1.same s3
    have tb3 := tb1.ext s3
    have e4 : ExN (WD d g) H (upd (upd H3 t2 (.lst (ns.map V.int))) u (.tup (ns.map V.int))) := ExN.of (Ex.of (s1.trans s3))
    generalize upd (upd H3 t2 (.lst (ns.map V.int))) u (.tup (ns.map V.int)) = H4 at ef3 hfl3 tb3 e4
    refine ⟨_, rfl, _, rfl, by omega, by omega, for_it (walk_range (lo := 0) (n := n)) (fun i σ H' => ∃ (v10 v12 : Option V), σ = [some (.ref d), some (.int c), some (.ref s0), some (.ref p), some (.int n), some (.ref fl), v6, v7, v8, none, v10, some (.int a), v12] ∧ ExN (WD d g) H H' ∧ EF C d g s0 p n c st H' ∧ PsI H' fl B ∧ LamX.Tabs [(Pt, lamQ)] H')
      ⟨none, none, rfl, e4, ef3, hfl3, tb3⟩ (fun _ _ _ _ _ => trivial) ?_ ?_⟩
    · rintro i x σ H50 H5 hi ⟨v10, v12, rfl, e5, ef5, hfl5, tb5⟩ ⟨rfl, rfl⟩
      obtain ⟨bs5, hbs5, pbs5⟩ := id hfl5
      have hbl5 : (bs5.map V.ref).length = B.length := by rw [List.length_map]; exact Paired.length pbs5
      refine ⟨_, rfl, fl, rfl, ⟨_, SqL.of hbs5⟩, fun D5 hD5 => ?_⟩
      have walk := lc_filt (walk_list (K := K) (a := fl) (xs := bs5.map V.ref)) (g := gName 9) (tt := tTest (tOp rEq (tOp (rIxT K) (tVar 9) (tC (.int 0))) (tVar 12))) (te := tOp (rIxT K) (tVar 9) (tC (.int 1))) (vs := [9])
        (σ := [some (.ref d), some (.int c), some (.ref s0), some (.ref p), some (.int n), some (.ref fl), v6, v7, v8, none, v10, some (.int a), some (.int (0 + (i : Int)))])
        (H1 := H5) (D := D5) (Qd := fun H' => ∃ rs, Same H5 H' ∧ LsT H' D5 rs ∧ rs = (B.filter fun q => decide (q.1 = 0 + (i : Int))).map (·.2)) NoW (fun _ => True) (fun j => (B[j]?).any fun q => decide (q.1 = 0 + (i : Int))) (fun j H v => ∃ q, B[j]? = some q ∧ ∃ t, v = .ref t ∧ TI H t q.2) hD5 (by omega) (fun z => z) (fun _ _ _ _ => trivial)
        (fun i v H4 H5 e _ hd ⟨q, e1, t, e2, h⟩ => ⟨q, e1, t, e2, ti_put e (lists_no _) hd h⟩) trivial (fun H' e _ => SqL.of (e.same _ _ hbs5)) (fun j x H' H'' hj e _ _ hy Qn Q' k1 k2 => by
          obtain ⟨rfl, hx⟩ := hy
          obtain ⟨b, hb, rfl⟩ := get_ref hx
          obtain ⟨qq, hq, ra, ea1, ea3⟩ := pd_at1 pbs5 hb
          refine ⟨rfl, _, rfl, b, _, 0, .int qq.1, rfl, rfl, SqT.of (e.same _ _ ea1), at0, _, rfl, rfl, _, rfl, ?_⟩
          rw [hq] at k1 k2
          by_cases c1 : qq.1 = 0 + (i : Int)
          · exact iteDT (congrArg V.int c1) ⟨_, rfl, b, _, 1, .ref ra, rfl, rfl, SqT.of (e.same _ _ ea1), at1, k2 (decide_eq_true c1) _ _ (Ex.refl _ _) trivial ⟨qq, rfl, ra, rfl, ea3.same e.same⟩⟩
          · exact iteDF (fun e => c1 (V.int.inj e)) (k1 (decide_eq_false c1) _ (Ex.refl _ _) trivial)) (fun H5 acc e5 _ hd5 pf => by
          rw [hbl5] at pf
          have pg := filt_list B (fun q => decide (q.1 = 0 + (i : Int))) acc pf
          obtain ⟨ts, ets, pts⟩ := pd_refs (F := fun t (q : Int × Row) => TI H5 t q.2) pg
          exact ⟨_, e5.same, ⟨ts, by rw [hd5, ets], pd_map pts⟩, rfl⟩)
      obtain ⟨W1, w1, w2⟩ := walk
      refine ⟨W1, w1, fun iz m H' hw => ?_⟩
      rcases w2 iz m H' hw with ⟨stop, rs, s5, hrs, ers⟩ | go
      rotate_left
      · exact .inr go
      refine .inl ⟨stop, ?_⟩
      have ef6 := ef5.same s5
      have hfl6 := hfl5.same s5
      have tb6 := tb5.ext s5
      have e6 : ExN (WD d g) H H' := e5.then (Ex.of s5)
      have hlk := look_head B (0 + (i : Int))
      rw [← ers] at hlk
      refine ⟨_, rfl, Nat.zero_le _, fun p7 hp7 => ?_⟩
      have s7 : Same H' (upd H' p7 (.lst [])) := same_new hp7
      refine ⟨_, _, dp_lT (hrs.same s7), dp_nil upd_same, shaped_lT _, shaped_nil, _, rfl, ?_⟩
      rw [eqv_lT_nil]
      have ef7 := ef6.same s7
      have e7 : ExN (WD d g) H (upd H' p7 (.lst [])) := e6.then (Ex.of s7)
      have hfl7 := hfl6.same s7
      have tb7 := tb6.ext s7
      have hrs7 := hrs.same s7
      generalize upd H' p7 (.lst []) = H7 at ef7 e7 hfl7 tb7 hrs7
      by_cases hem : rs = []
      · refine iteDT hem ?_
        rw [hem] at hlk
        have lk0 : look (full c (stp st) a n) (0 + (i : Int)) = none := by
          rw [hB]
          exact hlk
        refine ⟨tb7, fun H8 eN tb8 Qn => ⟨_, rfl, _, rfl, _, rfl, p, a, 0 + (i : Int), n, c, st, rfl, (ef7.noT.same (same_ext eN)).ma, ha, lk0, fun H9 dd s9 hdd hxd => ⟨rfl, dd, rfl, hxd, fun H10 s10 => ?_⟩⟩⟩
        refine ⟨by show 2 ≤ sizeLine; omega, fun tp htp => ⟨_, _, rfl, dp_iT (ns := [2, 0]) upd_same, shows_iT (fun k hk => by
          simp only [List.mem_cons, List.not_mem_nil, or_false] at hk
          rcases hk with e | e <;> subst e
          · exact ⟨by decide, by decide⟩
          · exact ⟨by decide, by decide⟩) (by decide), .inl ⟨tp, rfl⟩, rfl, _, rfl, ?_⟩⟩
        refine iteNF rfl ?_
        have s11 : Same H8 (upd H10 tp (.tup [.int 2, .int 0])) := s9.trans (s10.trans (same_new htp))
        exact ⟨_, _, rfl, (e7.trans (Ex.of (same_ext eN))).then (Ex.of s11), (ef7.noT.same (same_ext eN)).same s11, (hfl7.noT.same (same_ext eN)).same s11, tb8.ext s11⟩
      · refine iteDF hem ?_
        obtain ⟨r, rest, ers'⟩ : ∃ r rest, rs = r :: rest := by
          cases rs with
          | nil => exact absurd rfl hem
          | cons r rest => exact ⟨r, rest, rfl⟩
        rw [ers'] at hlk hrs7
        have hlk' : look B (0 + (i : Int)) = some r := hlk
        have lk1 : look (full c (stp st) a n) (0 + (i : Int)) = some r := by
          rw [hB]
          exact hlk'
        have shr := hlow _ _ hlk'
        have sh7 := shows_iT shr.2 shr.1
        refine ⟨_, rfl, _, rfl, _, rfl, p, a, 0 + (i : Int), n, c, st, r, rfl, ef7.ma, ha, lk1, fun H8 t8 s8 ht8 => ⟨_, _, rfl, dp_iT ht8, sh7, .inl ⟨t8, rfl⟩, ?_⟩⟩
        obtain ⟨rb, hrb, prb⟩ := hrs7
        obtain ⟨b0, rb', rfl, hb1⟩ : ∃ b0 rb', rb = b0 :: rb' ∧ TI H7 b0 r := by
          cases prb with
          | cons h t => exact ⟨_, _, rfl, h⟩
        refine ⟨_, rfl, D5, _, 0, .ref b0, rfl, rfl, SqL.of (s8 _ _ hrb), ?_, _, _, rfl, dp_iT (hb1.same s8), sh7, .inl ⟨b0, rfl⟩, rfl, _, rfl, ?_⟩
        · exact at0
        · refine iteNF rfl ?_
          exact ⟨_, _, rfl, e7.then (Ex.of s8), ef7.same s8, hfl7.same s8, tb7.ext s8⟩
    · rintro σ H5 ⟨v10, v12, rfl, e5, ef5, hfl5, tb5⟩
      exact q H5 e5 ef5.dl tb5
end
end K02

set_option Elab.async false
set_option linter.all false
set_option maxRecDepth 100000
set_option maxHeartbeats 1000000
/-! _law_reached_right: the first half -/
namespace K02
open PySem PySem.Spec PyProof.Rows L2
theorem any_ints (l : List Int) (a : Int) : ((l.map PyData.int).any fun z => PyData.eqv z (.int a)) = decide (a ∈ l) := by
  induction l with
  | nil => simp
  | cons x l ih =>
    rw [List.map_cons, List.any_cons, ih]
    have e : PyData.eqv (.int x) (.int a) = decide (x = a) := rfl
    rw [e]
    by_cases h : x = a
    · simp [h]
    · have h' : ¬ a = x := fun z => h z.symm
      simp [h, h']
theorem shaped_ints (ns : List Int) : SeqAt.shaped (.list (ns.map PyData.int)) = true := shaped_iT ns
/-- the pairs found before the rows of length i -/
def flv (c : Nat) (st : List (List Int)) (a : Int) : Nat → List (Int × Row)
  | 0 => []
  | i + 1 => full c (stp st) a i
theorem flv_succ (c : Nat) (st : List (List Int)) (a : Int) : ∀ i, scan (flv c st a i) (allP c (stp st) a i) = flv c st a (i + 1)
  | 0 => by
    show scan [] [(a, [])] = [(a, [])]
    rw [scan_cons, scan_nil, scan1_new (by simp)]
    rfl
  | i + 1 => rfl
theorem flv_le {n c : Nat} {st : List (List Int)} {a : Int} (M : Mach n c st) (ha : a ∈ cmds n) (i : Nat) : (flv c st a (i + 1)).length ≤ n := by
  have hin : ∀ x ∈ keys (full c (stp st) a i), x ∈ cmds n := full_P c (stp st) a (fun x => x ∈ cmds n) ha (fun x hx k hk => M.stp_in hx hk) i
  have h1 := pigeon (keys (full c (stp st) a i)) (cmds n) (full_nodup c (stp st) a i) hin
  rw [cmds_length, List.length_map] at h1
  exact h1
theorem flv_part {n c : Nat} {st : List (List Int)} {a : Int} (M : Mach n c st) (ha : a ∈ cmds n) (i j : Nat) : (scan (flv c st a i) ((allP c (stp st) a i).take j)).length ≤ n := by
  have h1 := flv_le M ha i
  rw [← flv_succ, ← List.take_append_drop j (allP c (stp st) a i), scan_append] at h1
  exact Nat.le_trans (scan_len_le _ _) h1
theorem flv_end {n c : Nat} {st : List (List Int)} {a : Int} (M : Mach n c st) (ha : a ∈ cmds n) : flv c st a n = full c (stp st) a n := by
  have hn := M.pos
  obtain ⟨m, rfl⟩ : ∃ m, n = m + 1 := ⟨n - 1, by omega⟩
  have hin : ∀ L, ∀ x ∈ keys (full c (stp st) a L), x ∈ cmds (m + 1) := full_P c (stp st) a (fun x => x ∈ cmds (m + 1)) ha fun x hx k hk => M.stp_in hx hk
  have hf := fresh_end c (stp st) a (cmds (m + 1)) hin
  rw [cmds_length] at hf
  show full c (stp st) a m = full c (stp st) a (m + 1)
  rw [full_succ, hf, List.append_nil]
section
variable {P : Program} {w : World} {K : PySem.W.Frag} {mg : Str → Option Value} {base : Heap} {C : Addr}
theorem walkR {R fI cc IM IR EE f co Pt : Addr} {A : Around} {outer : List Env} {s : Shared} {H0 : Hp} {E : XK} {k : Nat} (F : Fns P w K mg base C) (FR : FnR P w K mg base C R fI cc IM IR EE) (TB : LamX.TabB base mg co Pt) (hr : Room k (cxRR P w K mg base f (.ref co) A outer s H0 E).A) (hgd : (cxRR P w K mg base f (.ref co) A outer s H0 E).A.guards = some []) (hk : 5 ≤ k) :
    ∃ t, PSs (cxRR P w K mg base f (.ref co) A outer s H0 E) (defBody tReachR) t ∧ ∀ (d g s0 p : Addr) (n c : Nat) (st : List (List Int)) (H : Hp) (Q : VK), EF C d g s0 p n c st H → (∀ i, i < n → c ^ i ≤ 1000) → LamX.Tabs [(Pt, lamQ)] H →
      (∀ H', ExN (WD d g) H H' → Deal H' d g → LamX.Tabs [(Pt, lamQ)] H' → Q (.bl true) H') → t { nx := fun _ H' => Q .non H', rt := Q } (L2.start nRR [.ref d, .int c, .ref s0, .ref p]) H := by
  have hu := units64 hr
  obtain ⟨tS, hS, qS⟩ := walkS (f := f) (A := A) (outer := outer) (s := s) (H0 := H0) (E := E) F FR TB hr hgd hk
  refine ⟨_, pss_cons (ps_set (i := 4) scRR.nd rfl (Or.inl rfl) (pe_callB call_len_seq (by rfl) F.bi.len PySem.boot_len (pa_cons (pv 2) pa_nil)))
    (pss_cons (ps_asg (pe_tup (pa_cons (pe_h F.any hr (by omega) (pa_cons (pv 0) (pa_cons (pv 4) pa_nil))) (pa_cons (pe_lst pa_nil) pa_nil))) (pg_tup rfl (pgs_cons (pg_name (i := 11) scRR.nd rfl (Or.inr rfl)) (pgs_cons (pg_name (i := 5) scRR.nd rfl (Or.inl rfl)) pgs_nil))))
    (pss_cons (ps_for PassesOwn.never rfl (pi_range1 rfl F.bi.range (pa_cons (pv 4) pa_nil)) (pg_name (i := 6) scRR.nd rfl (Or.inl rfl))
      (pss_one (ps_for PassesOwn.never rfl (pi_list (pe_h F.rows hr (by omega) (pa_cons (pv 1) (pa_cons (pv 6) pa_nil)))) (pg_name (i := 7) scRR.nd rfl (Or.inl rfl))
        (pss_cons (ps_set (i := 8) scRR.nd rfl (Or.inl rfl) (pe_h F.led hr (by omega) (pa_cons (pv 2) (pa_cons (pv 11) (pa_cons (pv 7) pa_nil)))))
        (pss_one (ps_if (pt_cmpR (op_notInD (units65 hr)) (pv 8) (pe_lc (own := [("_law_pair", 9)]) (g := gName 9) (te := tOp (rIxT K) (tVar 9) (tC (.int 0))) (by rfl) scRR.nd (pi_list (pv 5)) (blkOk_by (own := [("_law_pair", 9)]) (N := nRR) (sc := defScope tReachR) (by decide +kernel))
            (fun _ _ _ _ _ => pg_name (i := 9) scRR.nd rfl (Or.inl rfl)) (fun _ _ _ _ _ => pts_nil) (fun _ _ _ _ _ => by exact (pe_ix ix_tup (pv 9) pe_int (fun _ _ => rfl)))) (by rfl))
          (pss_one (ps_expr (pe_bm PySem.F.plainAttrs_list PySem.F.slot_list_append PySem.F.type_list_append mt_append (pv 5) (pa_cons (pe_tup (pa_cons (pv 8) (pa_cons (pv 7) pa_nil))) pa_nil)))) pss_nil))))))
    hS)), ?_⟩
  intro d g s0 p n c st H Q ef hpw tb q
  have big : 2000 < sizeLine := by decide
  have M : Mach n c st := by
    obtain ⟨_, _, _, _, M, _⟩ := ef.ma
    exact M
  obtain ⟨hn100, hc100⟩ : n ≤ 100 ∧ c ≤ 100 := by
    obtain ⟨_, _, _, _, _, h⟩ := ef.ma
    exact h
  have hn0 := M.pos
  have hc0 := M.cpos
  obtain ⟨_, ss, hss, pss⟩ := id ef.ll
  have hsl : (ss.map V.ref).length = n := by rw [List.length_map]; exact (Paired.length pss).trans M.len
  refine ⟨_, rfl, _, _, rfl, .inl (SqL.of hss), ?_⟩
  rw [hsl]
  refine ⟨_, rfl, _, rfl, d, g, _, rfl, ef.dl, by omega, by omega, fun H1 a e1 D1 a0 a1 => ⟨Nat.zero_le _, fun fl hfl => ⟨by show 2 ≤ sizeLine; omega, fun tp htp => ⟨tp, _, rfl, SqT.of upd_same, rfl, _, _, rfl, _, _, rfl, rfl, ?_⟩⟩⟩⟩
  have ha : a ∈ cmds n := mem_cmds.mpr ⟨a0, a1⟩
  have s1 : Same H1 (upd (upd H1 fl (.lst [])) tp (.tup [.int a, .ref fl])) := (same_new hfl).trans (same_new htp)
  have flW := wd_new D1 hfl
  have hfl2 : PsI (upd (upd H1 fl (.lst [])) tp (.tup [.int a, .ref fl])) fl (flv c st a 0) := ⟨[], same_new htp _ _ upd_same, .nil⟩
  have e2 := e1.trans (Ex.of s1)
  have D2 := D1.same s1
  generalize upd (upd H1 fl (.lst [])) tp (.tup [.int a, .ref fl]) = H2 at e2 D2 hfl2
  have fl0 : H fl = none := e1.free flW hfl
  refine ⟨_, rfl, _, rfl, by omega, by omega, for_it (walk_range (lo := 0) (n := n)) (fun i σ H' => ∃ (v6 v7 v8 : Option V), σ = [some (.ref d), some (.int c), some (.ref s0), some (.ref p), some (.int n), some (.ref fl), v6, v7, v8, none, none, some (.int a), none] ∧ Ex (WD d g) H H' ∧ Deal H' d g ∧ PsI H' fl (flv c st a i))
    ⟨none, none, none, rfl, e2, D2, hfl2⟩ (fun _ _ _ _ _ => trivial) ?_ ?_⟩
  · rintro i x σ H30 H3 hi ⟨v6, v7, v8, rfl, e3, D3, hfl3⟩ ⟨rfl, rfl⟩
    have hpi := hpw i hi
    have zi : ((0 : Int) + (i : Int)) = ((i : Nat) : Int) := Int.zero_add _
    refine ⟨_, rfl, _, rfl, c, i, by simp only [zi], hc0, by omega, by omega, hpi, fun H4 ro s4 hro0 hro => ?_⟩
    obtain ⟨os, hos, pos⟩ := hro
    have hfr : fl ≠ ro := by
      obtain ⟨bs, h, _⟩ := hfl3
      exact ne_of_none h hro0
    have hrl : os.length = (allRows c i).length := Paired.length pos
    have hal : (allP c (stp st) a i).length = (allRows c i).length := by rw [allP_rows, List.length_map]
    refine ⟨ro, rfl, ⟨_, SqL.of hos⟩, for_list (K := K) (a := ro) (xs := os.map V.ref) (fun j σ H' => ∃ (v7 v8 : Option V), σ = [some (.ref d), some (.int c), some (.ref s0), some (.ref p), some (.int n), some (.ref fl), some (.int (0 + (i : Int))), v7, v8, none, none, some (.int a), none] ∧ Ex (WD d g) H H' ∧ Deal H' d g ∧ PsI H' fl (scan (flv c st a i) ((allP c (stp st) a i).take j)) ∧ H' ro = some (.lst (os.map V.ref)) ∧ Paired (TI H') os (allRows c i))
      ⟨v7, v8, rfl, e3.trans (Ex.of s4), D3.same s4, hfl3.same s4, hos, pos⟩ (fun j σ H' _ ⟨_, _, _, _, _, _, h, _⟩ => SqL.of h) ?_ ?_⟩
    · rintro j x σ H5 hj ⟨v7, v8, rfl, e5, D5, hfl5, hos5, pos5⟩
      obtain ⟨b, hb, rfl⟩ := get_ref hj
      obtain ⟨r, hr', hbr⟩ := pd_at1 pos5 hb
      have hrm : ∀ k ∈ r, k ∈ cmds c := ((mem_allRows c i r).mp (List.mem_of_getElem? hr')).2
      have hP : (allP c (stp st) a i)[j]? = some (ledM st a r, r) := by
        rw [allP_rows, List.getElem?_map, hr']
        rfl
      have hstep := scan_take (acc := flv c st a i) hP
      have ef5 := ef.ex e5 D5
      refine ⟨_, rfl, _, rfl, _, rfl, s0, b, n, c, st, a, r, rfl, ef5.ll.no, M, ha, .inl hbr, hrm, ?_⟩
      have hBn := flv_part M ha i j
      generalize scan (flv c st a i) ((allP c (stp st) a i).take j) = B at hfl5 hstep hBn
      obtain ⟨fs, hfs, pfs⟩ := id hfl5
      have hfl' : (fs.map V.ref).length = B.length := by rw [List.length_map]; exact Paired.length pfs
      refine ⟨_, rfl, _, rfl, fl, rfl, ⟨_, SqL.of hfs⟩, fun D hD => lc_fill (walk_list (xs := fs.map V.ref)) NoW (fun _ => True) (fun m H' v => ∃ z, (keys B)[m]? = some z ∧ v = .int z) hD (by omega) (fun z => z) (fun _ _ _ _ => trivial)
        (fun _ _ _ _ _ _ _ h => h) trivial (fun H' e _ => SqL.of (e.same _ _ hfs)) (fun m x H' H'' hm e _ _ hy Q kk => ?_) mono_yes (mono_name 9) (fun H8 acc e8 _ hd8 hl8 hr8 => ?_)⟩
      · obtain ⟨rfl, hx⟩ := hy
        obtain ⟨bq, hbq, rfl⟩ := get_ref hx
        obtain ⟨qq, hq, ra, ea1, ea3⟩ := pd_at1 pfs hbq
        refine ⟨rfl, rfl, _, rfl, bq, _, 0, .int qq.1, rfl, rfl, SqT.of (e.same _ _ ea1), at0, kk _ _ (Ex.refl _ _) trivial ⟨qq.1, ?_, rfl⟩⟩
        unfold keys
        rw [List.getElem?_map, hq]
        rfl
      · have ea : acc = (keys B).map V.int := lst_int (by rw [hl8, hfl', List.length_map]) hr8
        rw [ea] at hd8
        have s8 : Same H5 H8 := e8.same
        refine ⟨_, _, .int _, .lst (SqL.of hd8) (dp_ints _), rfl, shaped_ints _, _, rfl, ?_⟩
        rw [any_ints]
        have hfs8 := s8 _ _ hfs
        by_cases mem : ledM st a r ∈ keys B
        · refine iteNF mem ?_
          refine ⟨_, _, rfl, e5.trans (Ex.of s8), D5.same s8, ?_, s8 _ _ hos5, pd_imp (fun _ _ h => TI.same h s8) pos5⟩
          rw [hstep, scan1_mem mem]
          exact hfl5.same s8
        · refine iteNT mem ?_
          refine ⟨_, rfl, .inl ⟨rfl, _, SqL.of hfs8⟩, _, rfl, _, rfl, by show 2 ≤ sizeLine; omega, fun p2 hp2 => ?_⟩
          have s9 : Same H8 (upd H8 p2 (.tup [.int (ledM st a r), .ref b])) := same_new hp2
          have hp2t : (upd H8 p2 (.tup [.int (ledM st a r), .ref b])) p2 = some (.tup [.int (ledM st a r), .ref b]) := upd_same
          generalize upd H8 p2 (.tup [.int (ledM st a r), .ref b]) = H9 at s9 hp2t
          have s10 : Same H5 H9 := s8.trans s9
          have hfs9 := s10 _ _ hfs
          refine ⟨fl, _, .ref p2, rfl, rfl, hfs9, by omega, ?_⟩
          have tk1 : TupKeep H9 (upd H9 fl (.lst (fs.map V.ref ++ [.ref p2]))) := TupKeep.put hfs9
          have tk5 : TupKeep H5 (upd H9 fl (.lst (fs.map V.ref ++ [.ref p2]))) := (TupKeep.of s10).trans tk1
          refine ⟨_, _, rfl, (e5.trans (Ex.of s10)).put_new fl0, (D5.same s10).off flW, ?_, ?_, pd_imp (fun _ _ h => TI.tk h tk5) pos5⟩
          · rw [hstep, scan1_new mem]
            exact ⟨fs ++ [p2], by rw [upd_same, List.map_append]; rfl, pd_app (pd_imp (fun _ _ h => PairI.tk h tk5) pfs) (.cons ⟨b, tk1 _ _ hp2t, TI.tk hbr tk5⟩ .nil)⟩
          · rw [upd_ne hfr.symm]
            exact s10 _ _ hos5
    · rintro σ H5 ⟨v7, v8, rfl, e5, D5, hfl5, hos5, pos5⟩
      rw [List.length_map, hrl, ← hal, List.take_length, flv_succ] at hfl5
      exact ⟨_, _, _, rfl, e5, D5, hfl5⟩
  · rintro σ H3 ⟨v6, v7, v8, rfl, e3, D3, hfl3⟩
    rw [flv_end M ha] at hfl3
    exact qS d g s0 p fl n c st a v6 v7 v8 H3 Q (ef.ex e3 D3) ha flW hfl3 (tabs_ex tb e3 ef.dl.lists) fun H' e' D' t' => q H' ((ExN.of e3).trans e') D' t'
end
end K02

set_option Elab.async false
set_option linter.all false
set_option maxRecDepth 100000
set_option maxHeartbeats 1000000
/-! _law_reached_right: whole -/
namespace K02
open PySem PySem.Spec PyProof.Rows L2
/-- a def of the top whose code object is at co -/
structure DfC (K : PySem.W.Frag) (mg : Str → Option Value) (x : Str) (st : Stmt) (co : Addr) : Prop where
  ex : ∃ (f : Addr) (oc : Value) (od : Option Addr) (kV doc pm : Value) (an : Option Addr) (ct : Value) (osl : Array (Option Value)),
    K.lookup f = some ⟨oc, od, .func (PySem.W.fnOf x x (defArgs st) (defBody st) (defScope st) .none kV doc pm an (.ref co) ct), osl⟩ ∧ PySem.W.codeIn K (.ref co) x = true ∧ mg x = some (.ref f) ∧ PySem.W.keepIn K (.ref f) = true
section
variable {P : Program} {w : World} {K : PySem.W.Frag} {mg : Str → Option Value} {base : Heap} {C : Addr}
def spReachR (C Pt : Addr) : Sp := fun vs H Q _ => ∃ (d g s0 p : Addr) (n c : Nat) (st : List (List Int)), vs = [.ref d, .int c, .ref s0, .ref p] ∧ EF C d g s0 p n c st H ∧ (∀ i, i < n → c ^ i ≤ 1000) ∧ LamX.Tabs [(Pt, lamQ)] H ∧
  ∀ H', ExN (WD d g) H H' → Deal H' d g → LamX.Tabs [(Pt, lamQ)] H' → Q (.bl true) H'
theorem has_reachR {R fI cc IM IR EE co Pt : Addr} (F : Fns P w K mg base C) (FR : FnR P w K mg base C R fI cc IM IR EE) (TB : LamX.TabB base mg co Pt) (D : DfC K mg "_law_reached_right" tReachR co) : HasG P w K mg base 6 "_law_reached_right" ["_law_deal", "_law_commands", "_law_steps", "_law_machine_here"] (spReachR C Pt) := by
  obtain ⟨f, oc, od, kV, doc, pm, an, ct, osl, lk, hcd, hm, hkp⟩ := D.ex
  have Fn : Fun K "_law_reached_right" "_law_reached_right" tReachR f _ := ⟨⟨oc, od, kV, doc, pm, an, .ref co, ct, osl, rfl, lk, hcd⟩, hkp⟩
  refine ⟨f, _, ?_, hm, hkp, Fn.binds fun _ _ _ _ _ _ us hl => match us, hl with | [_, _, _, _], _ => rfl⟩
  have len : ∀ vs H Q E, spReachR C Pt vs H Q E → vs.length = (["_law_deal", "_law_commands", "_law_steps", "_law_machine_here"] : List Str).length := fun vs H Q E h => by
    obtain ⟨d, g, s0, p, n, c, st, rfl, _⟩ := h
    rfl
  refine ⟨len, fun A outer s H args us vs Q E hr hg e0 hb hv hs => ?_⟩
  refine LamX.run_ofS lk hcd scRR hr e0 hb hv (len _ _ _ _ hs) fun hr' => ?_
  obtain ⟨t, h1, h2⟩ := walkR (f := f) (A := A) (outer := outer) (s := s) (H0 := H) (E := E) F FR TB hr' hg (Nat.le_refl 5)
  obtain ⟨d, g, s0, p, n, c, st, rfl, ef, hpw, tb, q⟩ := hs
  exact ⟨t, h1.nox, h2 d g s0 p n c st H Q ef hpw tb q⟩
end
end K02

set_option Elab.async false
set_option linter.all false
set_option maxRecDepth 100000
set_option maxHeartbeats 1000000
/-! powers of one command -/
namespace K02
open PySem PySem.Spec PyProof.Rows L2
theorem eff_itr (st : List (List Int)) (n k : Nat) : eff st n (List.replicate k 0) = itr (effStep st) (cmds n) k := (eff_fold st n _).symm
theorem rep_in (k : Nat) : ∀ z ∈ List.replicate k (0 : Int), z ∈ cmds 1 := fun z hz => by
  rw [List.eq_of_mem_replicate hz]
  exact mem_cmds.mpr ⟨by decide, by decide⟩
theorem first_in {n : Nat} {st : List (List Int)} {a : Int} (M : Mach n 1 st) (ha : a ∈ cmds n) (L : Nat) : ∃ k, k < n ∧ itr (stp st) a k = itr (stp st) a L := by
  have hn := M.pos
  have hin : ∀ L, ∀ x ∈ keys (full 1 (stp st) a L), x ∈ cmds n := full_P 1 (stp st) a (fun x => x ∈ cmds n) ha fun x hx k hk => M.stp_in hx hk
  have hf := fresh_end 1 (stp st) a (cmds n) hin
  rw [cmds_length] at hf
  have hL : itr (stp st) a L ∈ keys (full 1 (stp st) a L) := (full_one_keys (stp st) a L _).mpr ⟨L, Nat.le_refl _, rfl⟩
  have hn1 : itr (stp st) a L ∈ keys (full 1 (stp st) a (n - 1)) := by
    by_cases c : L ≤ n - 1
    · obtain ⟨r, e⟩ := full_prefix 1 (stp st) a c
      rw [e]
      unfold keys
      rw [List.map_append]
      exact List.mem_append_left _ hL
    · obtain ⟨m, rfl⟩ : ∃ m, n = m + 1 := ⟨n - 1, by omega⟩
      have := full_stop 1 (stp st) a hf L (by omega)
      rw [this] at hL
      exact hL
  obtain ⟨i, hi, e⟩ := (full_one_keys (stp st) a (n - 1) _).mp hn1
  exact ⟨i, by omega, e.symm⟩
theorem filt_first {n : Nat} {p : Nat → Bool} (h : ∃ k, k < n ∧ p k = true) : ∃ m rest, (List.range n).filter p = m :: rest ∧ m < n ∧ p m = true ∧ ∀ i, i < m → p i = false := by
  obtain ⟨k, hk, hp⟩ := h
  have ne : (List.range n).filter p ≠ [] := fun e => by
    have : k ∈ (List.range n).filter p := List.mem_filter.mpr ⟨List.mem_range.mpr hk, hp⟩
    rw [e] at this
    cases this
  cases e : (List.range n).filter p with
  | nil => exact absurd e ne
  | cons m rest =>
    have hm : m ∈ (List.range n).filter p := by rw [e]; exact List.mem_cons_self
    obtain ⟨h1, h2⟩ := List.mem_filter.mp hm
    refine ⟨m, rest, rfl, List.mem_range.mp h1, h2, fun i hi => ?_⟩
    cases hpi : p i with
    | false => rfl
    | true =>
      have hmem : i ∈ (List.range n).filter p := List.mem_filter.mpr ⟨List.mem_range.mpr (Nat.lt_trans hi (List.mem_range.mp h1)), hpi⟩
      have up : ((List.range n).filter p).Pairwise (· < ·) := List.Pairwise.filter _ List.pairwise_lt_range
      rw [e] at up hmem
      rcases List.mem_cons.mp hmem with z | z
      · omega
      · have := (List.pairwise_cons.mp up).1 i z
        omega
theorem effL_one {n L : Nat} {st : List (List Int)} : EffL n 1 st L [eff st n (List.replicate L 0)] := ⟨List.pairwise_singleton _ _, fun x => by
  unfold effs
  rw [allRows_one]
  rfl⟩
/-! ### [0] * k, a machine made -/
def tRow0 (i : Nat) : TE := tOp rRep (tLst (tCons (tC (.int 0)) tNil)) (tVar i)
theorem row0_read {σ : L2.St} {H : Hp} {Q : VK} {i k : Nat} {z : Int} (h : σ[i]? = some (some (.int z))) (hz : z = (k : Int)) (hk : k ≤ 1000) (q : ∀ H' p, Same H H' → H p = none → H' p = some (.lst ((List.replicate k (0 : Int)).map V.int)) → Q (.ref p) H') : tRow0 i σ H Q := by
  subst hz
  have big : 1000 < sizeLine := by decide
  refine ⟨by show 1 ≤ sizeLine; omega, fun l hl => ⟨_, h, l, k, [.int 0], rfl, rfl, upd_same, by omega, by omega, by show 1 * (k : Int).toNat ≤ sizeLine; omega, fun p hp => ?_⟩⟩
  refine q _ p ((same_new hl).trans (same_new hp)) ((same_new hl).free hp) ?_
  rw [upd_same, flat_rep, List.map_replicate]
  rfl
theorem repA_read {K : PySem.W.Frag} {σ : L2.St} {H : Hp} {Q : VK} {i k : Nat} {z : Int} (h : σ[i]? = some (some (.int z))) (hz : z = (k : Int)) (hk : k ≤ 1000) (q : ∀ H' p, Same H H' → TI H' p (List.replicate k 0) → Q (.ref p) H') : tOp (rRepA K) (tTup (tCons (tC (.int 0)) tNil)) (tVar i) σ H Q := by
  subst hz
  have big : 1000 < sizeLine := by decide
  refine ⟨by show 1 ≤ sizeLine; omega, fun l hl => ⟨_, h, l, k, [.int 0], rfl, rfl, SqT.of upd_same, by simp, hk, by show 1 ≤ 1000; decide, fun h1 => ?_, fun _ p hp => ?_⟩⟩
  · subst h1
    exact q _ l (same_new hl) upd_same
  · refine q _ p ((same_new hl).trans (same_new hp)) ?_
    show upd _ p _ p = _
    rw [upd_same, flat_rep, List.map_replicate]
theorem sh0 {k : Nat} (hk : k ≤ 1000) : Shows (iT (List.replicate k 0)) := shows_iT (fun z hz => by
  rw [List.eq_of_mem_replicate hz]
  exact ⟨by decide, by decide⟩) (by rw [List.length_replicate]; exact hk)
structure HasM (P : Program) (w : World) (K : PySem.W.Frag) (mg : Str → Option Value) (base : Heap) (C : Addr) : Prop where
  ex : ∃ (fI : Addr) (fd : FuncData), Mk K C fI ∧ FnOk P w K mg base CX0 4 fI fd ["self", "commands", "steps"] (spInit C) ∧ L2.Binds K fd ["self", "commands", "steps"] []
  mgC : mg "Machine" = some (.ref C)
theorem pe_mach {X : Cx} {C : Addr} {j : Nat} {e : Expr} {es : List Expr} {t : TA} {p pos : Pos} (h : HasM X.prog X.w X.K X.mg X.base C) (hr : Room j X.A) (hk : 5 ≤ j) (ha : PA X (e :: es) t) (hg : Gl X "Machine" := by rfl)
    (he : starEach (e :: es) X.env = (false, eval e X.env) :: starEach es X.env := by rfl) (hpl : (backTo pos (starEach es X.env)).any (·.1) = false := by rfl) :
    PE X (.Call (.Name "Machine" p) (e :: es) [] pos) (tMake C (spInit C) [] E0 t) := by
  obtain ⟨fI, fd, M, F, hb⟩ := h.ex
  exact pe_make M F (hr.mono hk) hg h.mgC hb .nil pass0 ha (by decide) he hpl
theorem mach_read {H : Hp} {a C : Addr} {n c : Nat} {ci : Int} {st : List (List Int)} {Q : Addr → Hp → Prop} (hci : ci = (c : Int)) (l : LL NoW H a st) (M : Mach n c st) (hn : n ≤ 100) (hc : c ≤ 100) (q : ∀ H' p, Same H H' → MachAt C H' p n c st → Q p H') :
    ∀ x dx, H x = none → H dx = none → dx ≠ x → spInit C (.ref x :: ([.int ci, .ref a] ++ [])) (upd (upd H dx (.own x)) x (.ins C dx [])) (fun v H2 => v = .non ∧ Q x H2) E0 := fun x dx hx hdx hne => by
  subst hci
  have s1 : Same H (upd (upd H dx (.own x)) x (.ins C dx [])) := (same_new hdx).trans (same_new (by rw [upd_ne (Ne.symm hne)]; exact hx))
  refine ⟨x, dx, a, n, c, st, rfl, upd_same, l.same s1, M, hn, hc, fun H' e m => ⟨rfl, q H' x (fun b o h => ?_) m⟩⟩
  exact e b o (fun z => by rw [z, hx] at h; cases h) (s1 b o h)
end K02

set_option Elab.async false
set_option linter.all false
set_option maxRecDepth 100000
set_option maxHeartbeats 1000000
/-! _law_powers_right: behind the steps -/
namespace K02
open PySem PySem.Spec PyProof.Rows L2
abbrev tPow : Stmt := top 36
abbrev nPow : List Str := ["_law_deal", "_law_many", "_law_to", "_law_steps", "_law_state", "_law_machine_here", "_law_length", "_law_found", "_law_wanted", "_law_start", "_law_goal", "_law_one", "_law_least"]
theorem scPow : FnScope nPow ["_law_deal"] (defScope tPow) := ⟨rfl, rfl, rfl, by decide +kernel, rfl, by decide +kernel, by decide +kernel⟩
section
variable {P : Program} {w : World} {K : PySem.W.Frag} {mg : Str → Option Value} {base : Heap} {C : Addr}
abbrev cxP (P : Program) (w : World) (K : PySem.W.Frag) (mg : Str → Option Value) (base : Heap) (f : Addr) (cdv : Value) (A : Around) (outer : List Env) (s : Shared) (H : Hp) (E : XK) : Cx := (cxOf CX0 P w K mg base nPow "_law_powers_right" (defScope tPow) f cdv A outer s H E).nox
theorem walkQ {f : Addr} {cdv : Value} {A : Around} {outer : List Env} {s : Shared} {H0 : Hp} {E : XK} {k : Nat} (F : Fns P w K mg base C) (FR : Has P w K mg base 2 "reaching_row" ["machine", "start", "state"] (spReach C)) (FM : HasM P w K mg base C) (hr : Room k (cxP P w K mg base f cdv A outer s H0 E).A) (hgd : (cxP P w K mg base f cdv A outer s H0 E).A.guards = some []) (hk : 5 ≤ k) :
    ∃ t, PSs (cxP P w K mg base f cdv A outer s H0 E) ((defBody tPow).drop 3) t ∧ ∀ (d g s0 : Addr) (n : Nat) (st : List (List Int)) (H : Hp) (Q : VK), Deal H d g → LL (WD d g) H s0 st → Mach n 1 st → n ≤ 10 →
      (∀ H', Ex (WD d g) H H' → Deal H' d g → Q (.bl true) H') → t { nx := fun _ H' => Q .non H', rt := Q } [some (.ref d), some (.int n), none, some (.ref s0), none, none, none, none, none, none, none, none, none] H := by
  have hu := units64 hr
  have hu8 := hu8_of hr
  refine ⟨_, pss_cons (ps_par3 (i := 5) (j := 6) (l := 7) (by rfl) scPow.nd rfl rfl rfl (by decide) (by decide) (by decide) rfl rfl rfl (pa_cons (pe_mach FM hr hk (pa_cons pe_int (pa_cons (pv 3) pa_nil))) (pa_cons (pe_h F.any hr (by omega) (pa_cons (pv 0) (pa_cons pe_int pa_nil))) (pa_cons pe_int pa_nil))) (by rfl))
    (pss_cons (ps_set (i := 8) scPow.nd rfl (Or.inl rfl) (pe_h F.eff hr (by omega) (pa_cons (pv 3) (pa_cons (pe_op op_rep (pe_lst (pa_cons pe_int pa_nil)) (pv 6)) pa_nil))))
    (pss_cons (ps_while PassesOwn.never (pt_cmpR (op_neD hu) (pe_h F.eff hr (by omega) (pa_cons (pv 3) (pa_cons (pe_op op_rep (pe_lst (pa_cons pe_int pa_nil)) (pv 7)) pa_nil))) (pv 8) (nomark _))
      (pss_one (ps_set (i := 7) scPow.nd rfl (Or.inl rfl) (pe_op op_add (pv 7) pe_int))))
    (pss_cons (ps_set (i := 9) scPow.nd rfl (Or.inr rfl) (pe_h F.any hr (by omega) (pa_cons (pv 0) (pa_cons (pv 1) pa_nil))))
    (pss_cons (ps_set (i := 10) scPow.nd rfl (Or.inr rfl) (pe_h F.led hr (by omega) (pa_cons (pv 3) (pa_cons (pv 9) (pa_cons (pe_op op_rep (pe_lst (pa_cons pe_int pa_nil)) (pv 6)) pa_nil)))))
    (pss_cons (ps_set (i := 12) scPow.nd rfl (Or.inl rfl) (pe_ix ix_list (pe_lc (own := [("_law_one", 11)]) (g := gName 11) (tt := tTest (tOp rEq (tCl spLawLed (tCons (tVar 3) (tCons (tVar 9) (tCons (tRow0 11) tNil)))) (tVar 10))) (te := tVar 11) (by rfl) scPow.nd (pi_range1 rfl F.bi.range (pa_cons (pv 1) pa_nil))
        (blkOk_by (own := [("_law_one", 11)]) (N := nPow) (sc := defScope tPow) (by decide +kernel)) (fun _ _ _ _ _ => pg_name (i := 11) scPow.nd rfl (Or.inl rfl))
        (fun _ _ _ _ _ => by exact (pts_one (pt_cmpR op_eq (pe_h F.led hr (by omega) (pa_cons (pv 3) (pa_cons (pv 9) (pa_cons (pe_op op_rep (pe_lst (pa_cons pe_int pa_nil)) (pv 11)) pa_nil)))) (pv 10) (nomark _)))) (fun _ _ _ _ _ => by exact (pv 11))) pe_int (fun _ _ => rfl)))
    (pss_cons (ps_if (PW.pt (pw_or (pt_cmpR op_ne (pe_callB (cr_repr hgd hu8) (by rfl) F.bi.repr (by decide +kernel) (pa_cons (pe_h F.row hr (by omega) (pa_cons (pv 5) (pa_cons (pv 8) pa_nil))) pa_nil)) (pe_callB (cr_repr hgd hu8) (by rfl) F.bi.repr (by decide +kernel) (pa_cons (pe_op op_repA (pe_tup (pa_cons pe_int pa_nil)) (pv 7)) pa_nil)) (nomark _))
        (pw_or1 (pt_cmpR op_ne (pe_callB (cr_repr hgd hu8) (by rfl) F.bi.repr (by decide +kernel) (pa_cons (pe_h F.effs hr (by omega) (pa_cons (pv 5) (pa_cons (pv 6) pa_nil))) pa_nil)) (pe_callB (cr_repr hgd hu8) (by rfl) F.bi.repr (by decide +kernel) (pa_cons (pe_tup (pa_cons (pv 8) pa_nil)) pa_nil)) (nomark _))))) (pss_one (ps_ret pe_bl)) pss_nil)
    (pss_one (ps_ret (pe_cmpR op_eq (pe_callB (cr_repr hgd hu8) (by rfl) F.bi.repr (by decide +kernel) (pa_cons (pe_h FR hr (by omega) (pa_cons (pv 5) (pa_cons (pv 9) (pa_cons (pv 10) pa_nil)))) pa_nil)) (pe_callB (cr_repr hgd hu8) (by rfl) F.bi.repr (by decide +kernel) (pa_cons (pe_op op_repA (pe_tup (pa_cons pe_int pa_nil)) (pv 12)) pa_nil)) (nomark _)))))))))), ?_⟩
  intro d g s0 n st H Q hD hs M hn q
  have big : 2000 < sizeLine := by decide
  have hn0 := M.pos
  refine ⟨_, rfl, ?_⟩
  refine mach_read (C := C) (a := s0) (ci := 1) (c := 1) rfl hs.no M (by omega) (by decide) (fun H1 p s1 hM => ?_)
  refine ⟨_, rfl, d, g, 31, rfl, hD.same s1, by decide, by decide, fun H3 r e2 D2 r0 r1 => ⟨_, _, _, rfl, ?_⟩⟩
  obtain ⟨L, rfl⟩ : ∃ L : Nat, r = (L : Int) := ⟨r.toNat, by omega⟩
  have e3 : Ex (WD d g) H H3 := (Ex.of s1).trans e2
  have ef3 : EF C d g s0 p n 1 st H3 := EF.ex ⟨hD.same s1, hs.same s1, hM⟩ e2 D2
  have big2 : 1000 < sizeLine := by decide
  refine ⟨_, rfl, row0_read rfl (k := L) rfl (by omega) fun H4 t4 s4 _ h4 => ?_⟩
  refine ⟨s0, t4, n, 1, st, List.replicate L 0, rfl, (ef3.same s4).ll.no, M, by omega, .inr h4, rep_in L, fun H5 tw s5 htw => ?_⟩
  have hwn : eff st n (List.replicate L 0) ∈ allRows n n := M.eff_in (rep_in L)
  obtain ⟨mm, _, _, hmL, hmp, hmn⟩ := filt_first (n := L + 1) (p := fun i => decide (itr (effStep st) (cmds n) i = itr (effStep st) (cmds n) L)) ⟨L, Nat.lt_succ_self L, decide_eq_true rfl⟩
  have hme : itr (effStep st) (cmds n) mm = itr (effStep st) (cmds n) L := of_decide_eq_true hmp
  have hmx : ∀ i, i < mm → itr (effStep st) (cmds n) i ≠ itr (effStep st) (cmds n) mm := fun i hi => by
    rw [hme]
    exact of_decide_eq_false (hmn i hi)
  have s35 := s4.trans s5
  refine ⟨fun m σ H' => ∃ j : Nat, j ≤ mm ∧ m = mm - j ∧ σ = [some (.ref d), some (.int n), none, some (.ref s0), none, some (.ref p), some (.int L), some (.int j), some (.ref tw), none, none, none, none] ∧ Ex (WD d g) H H' ∧ EF C d g s0 p n 1 st H' ∧ TI H' tw (eff st n (List.replicate L 0)),
    ⟨_, 0, Nat.zero_le _, rfl, rfl, e3.trans (Ex.of s35), ef3.same s35, htw⟩, ?_⟩
  rintro m σ H6 ⟨j, hj, rfl, rfl, e6, ef6, htw6⟩
  refine ⟨_, rfl, row0_read rfl (k := j) rfl (by omega) fun H7 t7 s7 _ h7 => ⟨s0, t7, n, 1, st, List.replicate j 0, rfl, (ef6.same s7).ll.no, M, by omega, .inr h7, rep_in j, fun H8 t8 s8 ht8 => ?_⟩⟩
  have s68 := s7.trans s8
  have e8 := e6.trans (Ex.of s68)
  have ef8 := ef6.same s68
  have htw8 := TI.same htw6 s68
  refine ⟨_, rfl, _, _, dp_iT ht8, dp_iT htw8, shaped_iT _, shaped_iT _, _, rfl, ?_⟩
  have heq : decide (eff st n (List.replicate j 0) = eff st n (List.replicate L 0)) = decide (itr (effStep st) (cmds n) j = itr (effStep st) (cmds n) L) := by rw [eff_itr, eff_itr]
  rw [eqv_iT, heq]
  by_cases hje : itr (effStep st) (cmds n) j = itr (effStep st) (cmds n) L
  · refine iteNF hje ?_
    have hjm : j = mm := by
      rcases Nat.lt_or_ge j mm with c | c
      · exact absurd (hje.trans hme.symm) (hmx j c)
      · omega
    subst hjm
    refine ⟨_, rfl, _, rfl, d, g, n, rfl, ef8.dl, by omega, by omega, fun H9 a e9 D9 a0 a1 => ?_⟩
    have ha : a ∈ cmds n := mem_cmds.mpr ⟨a0, a1⟩
    have ef9 := ef8.ex e9 D9
    have htw9 := TI.ex htw8 e9 ef8.dl.lists
    have e10 := e8.trans e9
    refine ⟨_, rfl, _, rfl, row0_read rfl (k := L) rfl (by omega) fun H10 t10 s10 _ h10 => ?_⟩
    have ef10 := ef9.same s10
    refine ⟨s0, t10, n, 1, st, a, List.replicate L 0, rfl, ef10.ll.no, M, ha, .inr h10, rep_in L, ?_⟩
    have htw10 := htw9.same s10
    have e11 := e10.trans (Ex.of s10)
    obtain ⟨lm, lrest, hfl, hln, hlp, hlo⟩ := filt_first (n := n) (p := fun i => decide (itr (stp st) a i = itr (stp st) a L)) (by
      obtain ⟨k, h1, h2⟩ := first_in M ha L
      exact ⟨k, h1, decide_eq_true h2⟩)
    have hle : itr (stp st) a lm = itr (stp st) a L := of_decide_eq_true hlp
    have hlx : ∀ i, i < lm → itr (stp st) a i ≠ itr (stp st) a lm := fun i hi => by
      rw [hle]
      exact of_decide_eq_false (hlo i hi)
    refine ⟨_, rfl, _, rfl, by omega, by omega, fun D hD => ?_⟩
    have walk := lc_filt (walk_range (lo := 0) (n := n)) (g := gName 11) (tt := tTest (tOp rEq (tCl spLawLed (tCons (tVar 3) (tCons (tVar 9) (tCons (tRow0 11) tNil)))) (tVar 10))) (te := tVar 11) (vs := [11])
      (σ := [some (.ref d), some (.int n), none, some (.ref s0), none, some (.ref p), some (.int L), some (.int j), some (.ref tw), some (.int a), some (.int (ledM st a (List.replicate L 0))), none, none])
      (H1 := H10) (D := D) (Qd := fun H' => ∃ rest, Same H10 H' ∧ H' D = some (.lst (.int lm :: rest))) NoW (fun _ => True) (fun i => decide (itr (stp st) a i = itr (stp st) a L)) (fun i _ v => v = .int (i : Int)) hD (by omega) (fun z => z) (fun _ _ _ _ => trivial)
      (fun _ _ _ _ _ _ _ h => h) trivial (fun H' e _ => trivial) (fun i x H' H'' hi e _ _ hy Qn Q' k1 k2 => by
        obtain ⟨rfl, rfl⟩ := hy
        have zi : ((0 : Int) + (i : Int)) = ((i : Nat) : Int) := Int.zero_add _
        refine ⟨rfl, _, rfl, _, rfl, row0_read rfl (k := i) zi (by omega) fun H12 t12 s12 _ h12 => ⟨s0, t12, n, 1, st, a, List.replicate i 0, rfl, ((ef10.same e.same).same s12).ll.no, M, ha, .inr h12, rep_in i, _, rfl, rfl, _, rfl, ?_⟩⟩
        by_cases c1 : itr (stp st) a i = itr (stp st) a L
        · exact iteDT (congrArg V.int c1) ⟨_, rfl, k2 (decide_eq_true c1) _ _ (Ex.of s12) trivial (by simp only [zi])⟩
        · exact iteDF (fun e => c1 (V.int.inj e)) (k1 (decide_eq_false c1) _ (Ex.of s12) trivial)) (fun H12 acc e12 _ hd12 pf => by
        rw [hfl] at pf
        cases pf with
        | cons h t => 
          subst h
          exact ⟨_, e12.same, hd12⟩)
    obtain ⟨W1, w1, w2⟩ := walk
    refine ⟨W1, w1, fun i m H' hw => ?_⟩
    rcases w2 i m H' hw with ⟨stop, rest, s11, hrest⟩ | go
    rotate_left
    · exact .inr go
    refine .inl ⟨stop, ?_⟩
    refine ⟨D, _, 0, .int lm, rfl, rfl, SqL.of hrest, at0, ?_⟩
    have ef11 := ef10.same s11
    have htw11 := htw10.same s11
    have e12 := e11.trans (Ex.of s11)
    -- row_for
    have lk : look (full 1 (effStep st) (cmds n) L) (eff st n (List.replicate L 0)) = some (List.replicate j 0) := by
      rw [eff_itr, ← hme]
      exact full_one_first (effStep st) (cmds n) hmx (by omega)
    refine ⟨_, rfl, _, rfl, p, _, n, 1, st, rfl, ef11.ma, .inl ⟨tw, eff st n (List.replicate L 0), L, rfl, htw11, hwn, by omega, fun L' _ => Nat.le_trans (full_one_len (effStep st) (cmds n) L') (by omega), .inr ?_, fun H13 y s13 hy => ?_⟩⟩
    · rw [eff_itr]
      exact (full_one_keys (effStep st) (cmds n) L _).mpr ⟨L, Nat.le_refl _, rfl⟩
    · generalize hB : full 1 (effStep st) (cmds n) L = B at hy lk
      rw [lk] at hy
      obtain ⟨ty, rfl, hty⟩ := hy
      have shj := sh0 (k := j) (by omega)
      refine ⟨_, _, rfl, dp_iT hty, shj, .inl ⟨ty, rfl⟩, repA_read rfl rfl (by omega) fun H14 tz s14 htz => ?_⟩
      refine ⟨_, _, rfl, dp_iT htz, shj, .inl ⟨tz, rfl⟩, rfl, _, rfl, ?_⟩
      refine iteNF rfl ?_
      have s14' := s13.trans s14
      have ef14 := ef11.same s14'
      have htw14 := htw11.same s14'
      have e14 := e12.trans (Ex.of s14')
      -- effects_of_length
      refine ⟨_, rfl, _, rfl, p, n, 1, L, st, rfl, ef14.ma, by omega, few_one, fun H15 t15 l15 s15 hl15 ht15 => ?_⟩
      obtain rfl := hl15.unique effL_one
      have shl := (effl_low M (by omega) few_one (effL_one (L := L))).1
      refine ⟨_, _, rfl, dp_tT ht15, shl, .inl ⟨t15, rfl⟩, _, rfl, by show 1 ≤ sizeLine; omega, fun tu htu => ?_⟩
      have s16 := s15.trans (same_new (o := .tup [.ref tw]) htu)
      have htu' : TuT (upd H15 tu (.tup [.ref tw])) tu [eff st n (List.replicate L 0)] := ⟨[tw], upd_same, .cons (htw14.same s16) .nil⟩
      refine ⟨_, _, rfl, dp_tT htu', shl, .inl ⟨tu, rfl⟩, rfl, _, rfl, ?_⟩
      refine iteNF rfl ?_
      have ef16 := ef14.same s16
      have e16 := e14.trans (Ex.of s16)
      generalize upd H15 tu (.tup [.ref tw]) = H16 at ef16 e16
      -- reaching_row
      have lk2 : look (full 1 (stp st) a n) (ledM st a (List.replicate L 0)) = some (List.replicate lm 0) := by
        show look _ (itr (stp st) a L) = _
        rw [← hle]
        exact full_one_first (stp st) a hlx (by omega)
      have shm := sh0 (k := lm) (by omega)
      refine ⟨_, rfl, _, rfl, _, rfl, p, a, _, n, 1, st, List.replicate lm 0, rfl, ef16.ma, ha, lk2, fun H17 t17 s17 ht17 => ?_⟩
      refine ⟨_, _, rfl, dp_iT ht17, shm, .inl ⟨t17, rfl⟩, repA_read rfl rfl (by omega) fun H18 t18 s18 ht18 => ?_⟩
      refine ⟨_, _, rfl, dp_iT ht18, shm, .inl ⟨t18, rfl⟩, rfl, ?_⟩
      have fin : decide (V.str (iT (List.replicate lm 0)).shown = V.str (iT (List.replicate lm 0)).shown) = true := decide_eq_true rfl
      have s19 := s17.trans s18
      have done := q H18 (e16.trans (Ex.of s19)) (ef16.same s19).dl
      rw [← fin] at done
      exact done
  · refine iteNT hje ?_
    have hlt : j < mm := by
      rcases Nat.lt_or_ge j mm with c | c
      · exact c
      · have : j = mm := by omega
        rw [this] at hje
        exact absurd hme hje
    refine ⟨fun σ' H' => ∃ j' : Nat, j' ≤ mm ∧ mm - j' < mm - j ∧ σ' = [some (.ref d), some (.int n), none, some (.ref s0), none, some (.ref p), some (.int L), some (.int j'), some (.ref tw), none, none, none, none] ∧ Ex (WD d g) H H' ∧ EF C d g s0 p n 1 st H' ∧ TI H' tw (eff st n (List.replicate L 0)),
      fun σ' H' ⟨j', a1, a2, a3, a4, a5, a6⟩ => ⟨_, a2, j', a1, rfl, a3, a4, a5, a6⟩, ?_⟩
    exact ⟨_, rfl, _, _, rfl, rfl, j + 1, hlt, by omega, rfl, e8, ef8, htw8⟩
end
end K02

set_option Elab.async false
set_option linter.all false
set_option maxRecDepth 100000
set_option maxHeartbeats 1000000
/-! _law_powers_right: whole -/
namespace K02
open PySem PySem.Spec PyProof.Rows L2
section
variable {P : Program} {w : World} {K : PySem.W.Frag} {mg : Str → Option Value} {base : Heap} {C : Addr}
def spPow : Sp := fun vs H Q _ => ∃ (d g : Addr), vs = [.ref d] ∧ Deal H d g ∧ ∀ H', Ex (WD d g) H H' → Deal H' d g → Q (.bl true) H'
/-- a list of lists with one item -/
def OneAt (W : Addr → Prop) (H : Hp) (b : Addr) (z : Int) : Prop := ¬ W b ∧ H b = some (.lst [.int z])
theorem ones_ll {W : Addr → Prop} {H : Hp} {D : Addr} {n : Nat} {acc : List V} (hW : ¬ W D) (hd : H D = some (.lst acc)) (hl : acc.length = n) (h : ∀ (i : Nat) (v : V), acc[i]? = some v → ∃ (b : Addr) (z : Int), v = .ref b ∧ z ∈ cmds n ∧ OneAt W H b z) (hn : 0 < n) : ∃ st, LL W H D st ∧ Mach n 1 st := by
  have key : ∀ acc : List V, (∀ v ∈ acc, ∃ (b : Addr) (z : Int), v = .ref b ∧ z ∈ cmds n ∧ OneAt W H b z) → ∃ (bs : List Addr) (zs : List Int), acc = bs.map V.ref ∧ (∀ z ∈ zs, z ∈ cmds n) ∧ Paired (fun b r => ¬ W b ∧ H b = some (.lst (r.map V.int))) bs (zs.map fun z => [z]) ∧ zs.length = acc.length := by
    intro acc
    induction acc with
    | nil => exact fun _ => ⟨[], [], rfl, (fun _ h => nomatch h), .nil, rfl⟩
    | cons v acc ih =>
      intro h
      obtain ⟨b, z, rfl, hz, hb⟩ := h v List.mem_cons_self
      obtain ⟨bs, zs, e1, e2, e3, e4⟩ := ih fun x hx => h x (List.mem_cons_of_mem _ hx)
      refine ⟨b :: bs, z :: zs, by rw [e1]; rfl, fun x hx => ?_, .cons hb e3, by rw [List.length_cons, List.length_cons, e4]⟩
      rcases List.mem_cons.mp hx with e | e
      · rw [e]; exact hz
      · exact e2 x e
  obtain ⟨bs, zs, e1, e2, e3, e4⟩ := key acc fun v hv => by
    obtain ⟨i, hi⟩ := List.getElem?_of_mem hv
    exact h i v hi
  refine ⟨zs.map fun z => [z], ⟨hW, bs, by rw [hd, e1], e3⟩, ⟨by rw [List.length_map, e4, hl], hn, by decide, fun r hr => ?_⟩⟩
  obtain ⟨z, hz, rfl⟩ := List.mem_map.mp hr
  exact ⟨rfl, fun x hx => by rw [List.mem_singleton.mp hx]; exact e2 z hz⟩
theorem has_pow (F : Fns P w K mg base C) (FR : Has P w K mg base 2 "reaching_row" ["machine", "start", "state"] (spReach C)) (FM : HasM P w K mg base C) (D : Df K mg "_law_powers_right" tPow) : HasG P w K mg base 6 "_law_powers_right" ["_law_deal"] spPow := by
  refine D.hasG (fun Fn => fun_g Fn scPow (fun vs H Q E h => ?_) (fun cdv A outer s H vs Q E hr hg h => ?_)) (fun F => F.binds fun _ _ _ _ _ _ us hl => match us, hl with | [_], _ => rfl)
  · obtain ⟨d, g, rfl, _⟩ := h
    rfl
  · obtain ⟨d, g, rfl, hD, q⟩ := h
    obtain ⟨tQ, hQ, qQ⟩ := walkQ (f := _) (cdv := cdv) (A := A) (outer := outer) (s := s) (H0 := H) (E := E) F FR FM hr hg (Nat.le_refl 5)
    refine ⟨_, pss_cons (ps_set (i := 1) scPow.nd rfl (Or.inr rfl) (pe_op op_add pe_int (pe_h F.any hr (by omega) (pa_cons (pv 0) (pa_cons pe_int pa_nil)))))
      (pss_cons (ps_set (i := 3) scPow.nd rfl (Or.inr rfl) (pe_lc (own := [("_law_to", 2)]) (g := gName 2) (te := tLst (tCons (tVar 2) tNil)) (by rfl) scPow.nd (pi_list (pe_h F.mixed hr (by omega) (pa_cons (pv 0) (pa_cons (pe_listRg rfl (by rfl) F.bi.list (prg_1 rfl F.bi.range (pv 1))) pa_nil))))
          (blkOk_by (own := [("_law_to", 2)]) (N := nPow) (sc := defScope tPow) (by decide +kernel)) (fun _ _ _ _ _ => pg_name (i := 2) scPow.nd rfl (Or.inl rfl)) (fun _ _ _ _ _ => pts_nil) (fun _ _ _ _ _ => by exact (pe_lst (pa_cons (pv 2) pa_nil)))))
      (pss_cons (ps_if (pt_cmpR op_eq (pe_h F.any hr (by omega) (pa_cons (pv 0) (pa_cons pe_int pa_nil))) pe_int (nomark _))
          (pss_one (ps_set (i := 3) scPow.nd rfl (Or.inr rfl) (pe_lc (own := [("_law_state", 4)]) (g := gName 4) (te := tLst (tCons (tCl spAny (tCons (tVar 0) (tCons (tVar 1) tNil))) tNil)) (by rfl) scPow.nd (pi_range1 rfl F.bi.range (pa_cons (pv 1) pa_nil))
            (blkOk_by (own := [("_law_state", 4)]) (N := nPow) (sc := defScope tPow) (by decide +kernel)) (fun _ _ _ _ _ => pg_name (i := 4) scPow.nd rfl (Or.inl rfl)) (fun _ _ _ _ _ => pts_nil) (fun _ _ _ _ _ => by exact (pe_lst (pa_cons (pe_h F.any hr (by omega) (pa_cons (pv 0) (pa_cons (pv 1) pa_nil))) pa_nil)))))) pss_nil)
      hQ)), ?_⟩
    have big : 1000 < sizeLine := by decide
    refine ⟨_, rfl, d, g, 10, rfl, hD, by decide, by decide, fun H1 r e1 D1 r0 r1 => ⟨_, _, rfl, rfl, ?_⟩⟩
    obtain ⟨n, hn⟩ : ∃ n : Nat, 1 + r = (n : Int) := ⟨(1 + r).toNat, by omega⟩
    simp only [hn]
    have hn1 : 0 < n := by omega
    have hn10 : n ≤ 10 := by omega
    refine ⟨_, rfl, _, rfl, n, rfl, RgOk.of_le (by omega) (by omega) (by omega) (by omega), fun lr hlr => ?_⟩
    refine ⟨d, g, lr, cmds n, rfl, D1.same (same_new hlr), wd_new D1 hlr, by rw [upd_same, rgV_cmds], by rw [cmds_length]; omega, fun H2 f l e2 D2 hf0 hf hlen hsub => ⟨f, rfl, ⟨_, SqL.of hf⟩, fun Dl hDl => ?_⟩⟩
    have e2' : Ex (WD d g) H H2 := (e1.trans (Ex.new hlr)).trans e2
    have DlW := wd_new D2 hDl
    rw [cmds_length] at hlen
    refine lc_fill (walk_list (xs := l.map V.int)) NoW (fun _ => True) (fun _ H' v => ∃ (b : Addr) (z : Int), v = .ref b ∧ b ≠ Dl ∧ z ∈ cmds n ∧ OneAt (WD d g) H' b z) hDl (by rw [List.length_map, hlen]; omega) (fun z => z) (fun _ _ _ _ => trivial)
      (fun _ v H4 H5 e _ hd ⟨b, z, a1, a2, a3, a4, a5⟩ => ⟨b, z, a1, a2, a3, a4, e _ _ (fun q => q.elim (fun q => q) a2) a5⟩) trivial (fun H' e _ => SqL.of (e.same _ _ hf)) (fun j x H' H'' hj e _ hacc hy Q kk => ?_) mono_yes (mono_name 2) (fun H3 acc e3 _ hd3 hl3 hr3 => ?_)
    · obtain ⟨rfl, hx⟩ := hy
      obtain ⟨z, hz, rfl⟩ := get_int hx
      obtain ⟨acc, hacc⟩ := hacc
      exact ⟨rfl, rfl, _, rfl, by show 1 ≤ sizeLine; omega, fun b hb => kk _ _ (Ex.new hb) trivial ⟨b, z, rfl, (ne_of_none hacc hb).symm, hsub z (List.mem_of_getElem? hz), wd_new (D2.same e.same) hb, upd_same⟩⟩
    · rw [List.length_map, hlen] at hl3
      obtain ⟨st, hll, M⟩ := ones_ll DlW hd3 hl3 (fun i v hv => by
        obtain ⟨b, z, a1, a2, a3, a4⟩ := hr3 i v hv
        exact ⟨b, z, a1, a3, a4⟩) hn1
      have D3 := D2.same e3.same
      have e4 : Ex (WD d g) H H3 := e2'.trans (Ex.of e3.same)
      refine ⟨_, rfl, d, g, 3, rfl, D3, by decide, by decide, fun H5 r5 e5 D5 q0 q1 => ⟨rfl, _, rfl, ?_⟩⟩
      have e6 := e4.trans e5
      by_cases h0 : r5 = 0
      · refine iteDT (congrArg V.int h0) ?_
        refine ⟨_, rfl, _, rfl, by omega, by omega, fun D7 hD7 => ?_⟩
        have D7W := wd_new D5 hD7
        refine lc_fill (walk_range (lo := 0) (n := n)) (WD d g) (fun H => Deal H d g) (fun _ H' v => ∃ (b : Addr) (z : Int), v = .ref b ∧ b ≠ D7 ∧ z ∈ cmds n ∧ OneAt (WD d g) H' b z) hD7 (by omega) D7W (fun H H' s v => v.ex_off s D7W)
          (fun _ v H4 H5 e _ hd ⟨b, z, a1, a2, a3, a4, a5⟩ => ⟨b, z, a1, a2, a3, a4, e _ _ (fun q => q.elim a4 a2) a5⟩) D5 (fun H' e _ => trivial) (fun j x H' H'' hj e v hacc hy Q kk => ?_) mono_yes (mono_name 4) (fun H8 acc8 e8 D8 hd8 hl8 hr8 => ?_)
        · obtain ⟨rfl, rfl⟩ := hy
          obtain ⟨acc8, hacc⟩ := hacc
          refine ⟨rfl, rfl, _, rfl, _, rfl, d, g, n, rfl, v, by omega, by omega, fun H9 r9 e9 D9 a0 a1 => ⟨by show 1 ≤ sizeLine; omega, fun b hb => ?_⟩⟩
          have hacc9 := e9 _ _ D7W hacc
          exact kk _ _ (e9.trans (Ex.new hb)) (D9.same (same_new hb)) ⟨b, r9, rfl, (ne_of_none hacc9 hb).symm, mem_cmds.mpr ⟨a0, a1⟩, wd_new D9 hb, upd_same⟩
        · obtain ⟨st8, hll8, M8⟩ := ones_ll D7W hd8 hl8 (fun i v hv => by
            obtain ⟨b, z, a1, a2, a3, a4⟩ := hr8 i v hv
            exact ⟨b, z, a1, a3, a4⟩) hn1
          exact qQ d g D7 n st8 H8 Q D8 hll8 M8 hn10 fun H' e' D' => q H' ((e6.trans e8).trans e') D'
      · refine iteDF (fun e => h0 (V.int.inj e)) ?_
        exact qQ d g Dl n st H5 Q D5 (hll.ex e5) M hn10 fun H' e' D' => q H' (e6.trans e') D'
end
end K02

set_option Elab.async false
set_option linter.all false
set_option maxRecDepth 100000
set_option maxHeartbeats 1000000
/-! the law itself -/
namespace K02
open PySem PySem.Spec PyProof.Rows L2
abbrev tLaw : Stmt := top 37
abbrev nLaw : List Str := ["_law_script", "_law_deal", "_law_commands", "_law_steps", "_law_row", "_law_machine_here"]
theorem scLaw : FnScope nLaw ["_law_script"] (defScope tLaw) := ⟨rfl, rfl, rfl, by decide +kernel, rfl, by decide +kernel, by decide +kernel⟩
theorem lls_ll {W : Addr → Prop} {H : Hp} {D : Addr} {acc : List V} {l : List (List Int)} (hW : ¬ W D) (hd : H D = some (.lst acc)) (hl : acc.length = l.length) (h : ∀ (i : Nat) (v : V), acc[i]? = some v → ∃ (b : Addr) (r : List Int), v = .ref b ∧ l[i]? = some r ∧ ¬ W b ∧ H b = some (.lst (r.map V.int))) : LL W H D l := by
  have pr : Paired (fun v r => ∃ b, v = V.ref b ∧ (¬ W b ∧ H b = some (.lst (r.map V.int)))) acc l := pd_of hl fun i v r h1 h2 => by
    obtain ⟨b, r', e1, e2, e3, e4⟩ := h i v h1
    rw [h2] at e2
    cases e2
    exact ⟨b, e1, e3, e4⟩
  obtain ⟨bs, e1, e2⟩ := pd_refs (F := fun b (r : List Int) => ¬ W b ∧ H b = some (.lst (r.map V.int))) pr
  exact ⟨hW, bs, by rw [hd, e1], e2⟩
theorem mach_cut {n c k : Nat} {st : List (List Int)} (M : Mach n c st) (hk : 0 < k) (hc : k ≤ c) : Mach n k (st.map fun r => r.take k) := by
  refine ⟨by rw [List.length_map]; exact M.len, M.pos, hk, fun r hr => ?_⟩
  obtain ⟨r', hr', rfl⟩ := List.mem_map.mp hr
  obtain ⟨h1, h2⟩ := M.row r' hr'
  exact ⟨by rw [List.length_take, h1]; omega, fun x hx => h2 x (List.mem_of_mem_take hx)⟩
/-- if c > k: c, s = (k, [r[:k] for r in s]) -/
def tCut (K : PySem.W.Frag) (k : Int) : TS := tIfS (tTest (tOp (rI0 fun i j => .bl (decide (j < i))) (tVar 2) (tC (.int k)))) (tPar 2 3 (tCons (tC (.int k)) (tCons (tLc (iList K (tVar 3)) (gName 4) tYes (tSl (rSlL K) (tVar 4) tNoPart (tPart (tC (.int k)))) [4]) tNil))) tNext
theorem cut_read {K : PySem.W.Frag} {Dd : Ends} {d g s0 : Addr} {n c kk : Nat} {k : Int} {st : List (List Int)} {v0 v5 : Option V} {H : Hp} (hki : k = (kk : Int)) (hk : 0 < kk) (hD : Deal H d g) (hs : LL (WD d g) H s0 st) (M : Mach n c st) (hn : n ≤ 100)
    (q : ∀ H' s' c' st', Same H H' → LL (WD d g) H' s' st' → Mach n c' st' → c' ≤ kk → Dd.nx [v0, some (.ref d), some (.int (c' : Nat)), some (.ref s'), none, v5] H') :
    tCut K k Dd [v0, some (.ref d), some (.int c), some (.ref s0), none, v5] H := by
  subst hki
  refine ⟨_, rfl, _, _, rfl, rfl, _, rfl, ?_⟩
  by_cases hck : ((kk : Nat) : Int) < (c : Int)
  · refine iteDT hck ?_
    obtain ⟨_, ss, hss, pss⟩ := id hs
    have hsl : (ss.map V.ref).length = n := by rw [List.length_map]; exact (Paired.length pss).trans M.len
    refine ⟨_, rfl, s0, rfl, ⟨_, SqL.of hss⟩, fun D hD1 => lc_fill (walk_list (xs := ss.map V.ref)) NoW (fun _ => True) (fun i H' v => ∃ (b : Addr) (r : List Int), v = .ref b ∧ b ≠ D ∧ st[i]? = some r ∧ ¬ WD d g b ∧ H' b = some (.lst ((r.take kk).map V.int))) hD1 (by omega) (fun z => z) (fun _ _ _ _ => trivial)
      (fun _ v H4 H5 e _ hd ⟨b, r, a1, a2, a3, a4, a5⟩ => ⟨b, r, a1, a2, a3, a4, e _ _ (fun q => q.elim (fun q => q) a2) a5⟩) trivial (fun H' e _ => SqL.of (e.same _ _ hss)) (fun j x H' H'' hj e _ hacc hy Q kq => ?_) mono_yes (mono_name 4) (fun H3 acc e3 _ hd3 hl3 hr3 => ?_)⟩
    · obtain ⟨rfl, hx⟩ := hy
      obtain ⟨b, hb, rfl⟩ := get_ref hx
      obtain ⟨r, hr, h1, h2⟩ := pd_at1 pss hb
      obtain ⟨acc, hacc⟩ := hacc
      refine ⟨rfl, rfl, _, rfl, ?_⟩
      unfold tNoPart
      refine ⟨_, rfl, b, _, rfl, SqL.of (e.same _ _ h2), fun p hp => kq _ _ (Ex.new hp) trivial ⟨p, r, rfl, (ne_of_none hacc hp).symm, hr, wd_new (hD.same e.same) hp, ?_⟩⟩
      rw [upd_same, cut_to, List.map_take]
    · refine ⟨_, _, rfl, ?_⟩
      refine q H3 D kk (st.map fun r => r.take kk) e3.same (lls_ll (wd_new hD hD1) hd3 ?_ fun i v hv => ?_) (mach_cut M hk (by omega)) (Nat.le_refl _)
      · rw [hl3, List.length_map, List.length_map]
        exact Paired.length pss
      · obtain ⟨b, r, a1, _, a3, a4, a5⟩ := hr3 i v hv
        exact ⟨b, _, a1, by rw [List.getElem?_map, a3]; rfl, a4, a5⟩
  · refine iteDF hck ?_
    exact q H s0 c st (Same.refl _) hs M (by omega)
end K02

set_option Elab.async false
set_option linter.all false
set_option maxRecDepth 100000
set_option maxHeartbeats 1000000
/-! law: whole -/
namespace K02
open PySem PySem.Spec PyProof.Rows L2
section
variable {P : Program} {w : World} {K : PySem.W.Frag} {mg : Str → Option Value} {base : Heap} {C : Addr}
def spLaw (K : PySem.W.Frag) (Pt : Addr) : Sp := fun vs H Q _ => ∃ (a : Addr) (ns : List Int), vs = [.ref a] ∧ SqL K H a (ns.map V.int) ∧ ns.length ≤ 100 ∧ LamX.Tabs [(Pt, lamQ)] H ∧ ∀ H', Q (.bl true) H'
structure FnL (P : Program) (w : World) (K : PySem.W.Frag) (mg : Str → Option Value) (base : Heap) (C Pt : Addr) : Prop where
  bi : Bi mg
  draw : Has P w K mg base 1 "_law_draw" ["_law_script", "_law_salt"] (spDraw K)
  machine : Has P w K mg base 3 "_law_machine" ["_law_deal", "_law_most"] spMachine
  mach : HasM P w K mg base C
  effR : HasG P w K mg base 6 "_law_effects_right" ["_law_deal", "_law_commands", "_law_steps", "_law_machine_here"] (spEffR C)
  reachR : HasG P w K mg base 6 "_law_reached_right" ["_law_deal", "_law_commands", "_law_steps", "_law_machine_here"] (spReachR C Pt)
  pow : HasG P w K mg base 6 "_law_powers_right" ["_law_deal"] spPow
  effect : Has P w K mg base 3 "effect" ["machine", "row"] (spEffect C)
theorem has_law {Pt : Addr} (F : FnL P w K mg base C Pt) {f : Addr} {fd : FuncData} (Fn : Fun K "law" "law" tLaw f fd) : FnG P w K mg base 7 f fd ["_law_script"] (spLaw K Pt) := by
  refine fun_g Fn scLaw (fun vs H Q E h => ?_) (fun cdv A outer s H vs Q E hr hgd h => ?_)
  · obtain ⟨a, ns, rfl, _⟩ := h
    rfl
  · obtain ⟨a, ns, rfl, hS, hns, tb, q⟩ := h
    have hu8 := hu8_of hr
    refine ⟨_, pss_cons (ps_set (i := 1) scLaw.nd rfl (Or.inl rfl) (pe_h F.draw hr (by omega) (pa_cons (pv 0) (pa_cons pe_int pa_nil))))
      (pss_cons (ps_asg (pe_h F.machine hr (by omega) (pa_cons (pv 1) (pa_cons pe_int pa_nil))) (pg_tup rfl (pgs_cons (pg_name (i := 2) scLaw.nd rfl (Or.inl rfl)) (pgs_cons (pg_name (i := 3) scLaw.nd rfl (Or.inl rfl)) pgs_nil))))
      (pss_cons (t := tCut K 3) (ps_if (pt_cmpR op_gt (pv 2) pe_int (nomark _)) (pss_one (ps_par (i := 2) (j := 3) (by rfl) scLaw.nd rfl rfl (by decide) rfl rfl (pa_cons pe_int (pa_cons
          (pe_lc (own := [("_law_row", 4)]) (g := gName 4) (te := tSl (rSlL K) (tVar 4) tNoPart (tPart (tC (.int 3)))) (by rfl) scLaw.nd (pi_list (pv 3)) (blkOk_by (own := [("_law_row", 4)]) (N := nLaw) (sc := defScope tLaw) (by decide +kernel))
            (fun _ _ _ _ _ => pg_name (i := 4) scLaw.nd rfl (Or.inl rfl)) (fun _ _ _ _ _ => pts_nil) (fun _ _ _ _ _ => by exact (pe_slice sl_list (pv 4) po_none (po_some pe_int)))) pa_nil)) (by rfl))) pss_nil)
      (pss_cons (ps_set (i := 5) scLaw.nd rfl (Or.inl rfl) (pe_mach F.mach hr (by omega) (pa_cons (pv 2) (pa_cons (pv 3) pa_nil))))
      (pss_cons (ps_if (PW.pt (pw_or (pt_not (pt_val (pe_hg F.effR hr hgd (by omega) (pa_cons (pv 1) (pa_cons (pv 2) (pa_cons (pv 3) (pa_cons (pv 5) pa_nil))))))) (pw_or1 (pt_not (pt_val (pe_hg F.reachR hr hgd (by omega) (pa_cons (pv 1) (pa_cons (pv 2) (pa_cons (pv 3) (pa_cons (pv 5) pa_nil)))))))))) (pss_one (ps_ret pe_bl)) pss_nil)
      (pss_cons (ps_asg (pe_h F.machine hr (by omega) (pa_cons (pv 1) (pa_cons pe_int pa_nil))) (pg_tup rfl (pgs_cons (pg_name (i := 2) scLaw.nd rfl (Or.inl rfl)) (pgs_cons (pg_name (i := 3) scLaw.nd rfl (Or.inl rfl)) pgs_nil))))
      (pss_cons (t := tCut K 2) (ps_if (pt_cmpR op_gt (pv 2) pe_int (nomark _)) (pss_one (ps_par (i := 2) (j := 3) (by rfl) scLaw.nd rfl rfl (by decide) rfl rfl (pa_cons pe_int (pa_cons
          (pe_lc (own := [("_law_row", 4)]) (g := gName 4) (te := tSl (rSlL K) (tVar 4) tNoPart (tPart (tC (.int 2)))) (by rfl) scLaw.nd (pi_list (pv 3)) (blkOk_by (own := [("_law_row", 4)]) (N := nLaw) (sc := defScope tLaw) (by decide +kernel))
            (fun _ _ _ _ _ => pg_name (i := 4) scLaw.nd rfl (Or.inl rfl)) (fun _ _ _ _ _ => pts_nil) (fun _ _ _ _ _ => by exact (pe_slice sl_list (pv 4) po_none (po_some pe_int)))) pa_nil)) (by rfl))) pss_nil)
      (pss_cons (ps_set (i := 5) scLaw.nd rfl (Or.inl rfl) (pe_mach F.mach hr (by omega) (pa_cons (pv 2) (pa_cons (pv 3) pa_nil))))
      (pss_cons (ps_if (PW.pt (pw_or (pt_not (pt_val (pe_hg F.reachR hr hgd (by omega) (pa_cons (pv 1) (pa_cons (pv 2) (pa_cons (pv 3) (pa_cons (pv 5) pa_nil))))))) (pw_or1 (pt_not (pt_val (pe_hg F.pow hr hgd (by omega) (pa_cons (pv 1) pa_nil))))))) (pss_one (ps_ret pe_bl)) pss_nil)
      (pss_one (ps_ret (pe_cmpR op_eq (pe_callB (cr_repr hgd hu8) (by rfl) F.bi.repr (by decide +kernel) (pa_cons (pe_h F.effect hr (by omega) (pa_cons (pv 5) (pa_cons (pe_tup pa_nil) pa_nil))) pa_nil))
        (pe_callB (cr_repr hgd hu8) (by rfl) F.bi.repr (by decide +kernel) (pa_cons (pe_tupRg rfl (by rfl) F.bi.tuple (prg_1 rfl F.bi.range (pe_callB call_len_seq (by rfl) F.bi.len PySem.boot_len (pa_cons (pv 3) pa_nil)))) pa_nil)) (nomark _)))))))))))), ?_⟩
    have big : 1000 < sizeLine := by decide
    have sz2 : 2 ≤ sizeLine := by omega
    refine ⟨_, rfl, a, ns, rfl, hS, hns, fun H1 d g s1 _ _ D1 => ?_⟩
    have tb1 := tb.ext s1
    refine ⟨_, rfl, d, g, 3, rfl, D1, by decide, by decide, fun H2 t2 s2 n c st e2 D2 ht2 ll2 M2 hn2 _ => ?_⟩
    have tb2 := tabs_ex tb1 e2 D1.lists
    refine ⟨t2, _, rfl, SqT.of ht2, rfl, _, _, rfl, _, _, rfl, rfl, ?_⟩
    refine cut_read (kk := 3) rfl (by decide) D2 ll2 M2 (by omega) fun H3 s3 c3 st3 e3 ll3 M3 hc3 => ?_
    have D3 := D2.same e3
    have tb3 := tb2.ext e3
    refine ⟨_, rfl, _, rfl, ?_⟩
    refine mach_read (C := C) rfl ll3.no M3 (by omega) (by omega) (fun H4 p4 s4 hM4 => ?_)
    have ef4 : EF C d g s3 p4 n c3 st3 H4 := ⟨D3.same s4, ll3.same s4, hM4⟩
    have tb4 := tb3.ext s4
    refine ⟨_, rfl, _, rfl, _, rfl, _, rfl, d, g, s3, p4, n, c3, st3, rfl, ef4, hn2, hc3, fun H5 e5 D5 => ⟨true, rfl, ?_⟩⟩
    have ef5 := ef4.ex e5 D5
    have tb5 := tabs_ex tb4 e5 ef4.dl.lists
    have pw1 : ∀ i, i < n → c3 ^ i ≤ 1000 := fun i hi => Nat.le_trans (Nat.pow_le_pow_left hc3 i) (Nat.le_trans (Nat.pow_le_pow_right (by decide) (show i ≤ 2 by omega)) (by decide))
    refine ⟨_, rfl, _, rfl, _, rfl, _, rfl, d, g, s3, p4, n, c3, st3, rfl, ef5, pw1, tb5, fun H6 e6 D6 tb6 => ⟨true, rfl, ?_⟩⟩
    refine ⟨_, rfl, d, g, 5, rfl, D6, by decide, by decide, fun H7 t7 s7 n7 c7 st7 e7 D7 ht7 ll7 M7 hn7 _ => ?_⟩
    have tb7 := tabs_ex tb6 e7 D6.lists
    refine ⟨t7, _, rfl, SqT.of ht7, rfl, _, _, rfl, _, _, rfl, rfl, ?_⟩
    refine cut_read (kk := 2) rfl (by decide) D7 ll7 M7 (by omega) fun H8 s8 c8 st8 e8 ll8 M8 hc8 => ?_
    have D8 := D7.same e8
    have tb8 := tb7.ext e8
    refine ⟨_, rfl, _, rfl, ?_⟩
    refine mach_read (C := C) rfl ll8.no M8 (by omega) (by omega) (fun H9 p9 s9 hM9 => ?_)
    have ef9 : EF C d g s8 p9 n7 c8 st8 H9 := ⟨D8.same s9, ll8.same s9, hM9⟩
    have tb9 := tb8.ext s9
    have pw2 : ∀ i, i < n7 → c8 ^ i ≤ 1000 := fun i hi => Nat.le_trans (Nat.pow_le_pow_left hc8 i) (Nat.le_trans (Nat.pow_le_pow_right (by decide) (show i ≤ 4 by omega)) (by decide))
    refine ⟨_, rfl, _, rfl, _, rfl, _, rfl, d, g, s8, p9, n7, c8, st8, rfl, ef9, pw2, tb9, fun H10 e10 D10 tb10 => ⟨true, rfl, ?_⟩⟩
    have ef10 := ef9.exN e10 D10
    refine ⟨_, rfl, d, g, rfl, D10, fun H11 e11 D11 => ⟨true, rfl, ?_⟩⟩
    have ef11 := ef10.ex e11 D11
    refine ⟨_, rfl, Nat.zero_le _, fun tz htz => ?_⟩
    have ef12 := ef11.same (same_new (o := .tup []) htz)
    refine ⟨p9, tz, n7, c8, st8, rfl, ef12.ma, upd_same, fun H13 r13 s13 ht13 => ?_⟩
    have ef13 := ef12.same s13
    have sh : Shows (iT (cmds n7)) := shows_iT (fun k hk => by
      have := mem_cmds.mp hk
      exact ⟨this.1, by omega⟩) (by rw [cmds_length]; omega)
    refine ⟨_, _, rfl, dp_iT ht13, sh, .inl ⟨r13, rfl⟩, ?_⟩
    obtain ⟨_, ss, hss, pss⟩ := id ef13.ll
    have hsl : (ss.map V.ref).length = n7 := by rw [List.length_map]; exact (Paired.length pss).trans M8.len
    refine ⟨_, rfl, _, _, rfl, .inl (SqL.of hss), ?_⟩
    rw [hsl]
    refine ⟨n7, rfl, RgOk.of_le (by omega) (by omega) (by omega) (by omega), fun e0 he0 => ?_⟩
    have ht0 : TI (upd H13 e0 (.tup (rgV 0 n7))) e0 (cmds n7) := by
      show upd H13 e0 _ e0 = _
      rw [upd_same, rgV_cmds]
    refine ⟨_, _, rfl, dp_iT ht0, sh, .inl ⟨e0, rfl⟩, rfl, ?_⟩
    have fin : decide (V.str (iT (cmds n7)).shown = V.str (iT (cmds n7)).shown) = true := decide_eq_true rfl
    have done := q (upd H13 e0 (.tup (rgV 0 n7)))
    rw [← fin] at done
    exact done
end
end K02

set_option Elab.async false
set_option linter.all false
set_option maxRecDepth 100000
set_option maxHeartbeats 2000000
/-! the law called at the end of the head: one table, the script, nothing being shown -/
namespace K02
open PySem PySem.Spec PyProof.Rows L2
/-- what is tracked at first: the table and (unless the written part knows it) the script -/
def hp0 (K : PySem.W.Frag) (a Pt : Addr) (o : Obj) (xs : List V) : Hp := fun b => if b = Pt then some (.tbl #[]) else if b = a ∧ K.lookup a = none then some (.frz o (.lst xs)) else none
section
variable {K : PySem.W.Frag} {a Pt : Addr} {o : Obj} {xs : List V} {h : Heap}
theorem hp0_P : hp0 K a Pt o xs Pt = some (.tbl #[]) := if_pos rfl
theorem hp0_a (n : a ≠ Pt) (k : K.lookup a = none) : hp0 K a Pt o xs a = some (.frz o (.lst xs)) := (if_neg n).trans (if_pos ⟨rfl, k⟩)
theorem hp0_out {b : Addr} (n1 : b ≠ Pt) (n2 : ¬ (b = a ∧ K.lookup a = none)) : hp0 K a Pt o xs b = none := (if_neg n1).trans (if_neg n2)
theorem hp0_inv {b : Addr} {u : HO} (e : hp0 K a Pt o xs b = some u) : (b = Pt ∧ u = .tbl #[]) ∨ (b = a ∧ b ≠ Pt ∧ K.lookup a = none ∧ u = .frz o (.lst xs)) := by
  by_cases n1 : b = Pt
  · subst n1
    rw [hp0_P] at e
    exact .inl ⟨rfl, (Option.some.inj e).symm⟩
  · by_cases n2 : b = a ∧ K.lookup a = none
    · have e2 : hp0 K a Pt o xs b = some (.frz o (.lst xs)) := (if_neg n1).trans (if_pos n2)
      rw [e] at e2
      exact .inr ⟨n2.1, n1, n2.2, Option.some.inj e2⟩
    · rw [hp0_out n1 n2] at e
      cases e
/-- an object that is neither the table nor the script is not tracked -/
theorem hp0_obj {b : Addr} {ob op : Obj} (hP : h.get? Pt = some op) (ha : h.get? a = some o) (e : h.get? b = some ob) (n1 : ob ≠ op) (n2 : ob ≠ o) : hp0 K a Pt o xs b = none :=
  hp0_out (fun z => n1 (by rw [z, hP] at e; exact (Option.some.inj e).symm)) fun z => n2 (by rw [z.1, ha] at e; exact (Option.some.inj e).symm)
end
theorem call_g {P : Program} {w : World} {K : PySem.W.Frag} {mg mb : Str → Option Value} {k : Nat} {fa a co Pt : Addr} {fd : FuncData} {x : Str} {sp : Sp} {s : Shared} {vs : List Value} {ns : List Int}
    (hK : K.In s.heap) (hm : s.heap.Ns mainGlobals mg) (hb : s.heap.Ns builtinsNs mb) (hbb : ∀ x : Str, x ≠ "__name__" → mb x = bootBuiltins x) (hlim : s.heap.NoLimit) (hgen : s.gens = #[])
    (hP : s.heap.get? Pt = some { cls := .none, data := .fields #[] }) (kP : K.lookup Pt = none) (hC : PySem.W.CodeHd s.heap co Pt)
    (hbm : ∃ (bm : Addr) (ob : Obj), mg "__builtins__" = some (.ref bm) ∧ bm ≠ builtinsNs ∧ s.heap.get? bm = some ob ∧ ob.cls = .type "module" ∧ ob.dict = some builtinsNs ∧ ob.data = .plain)
    (ha : s.heap.get? a = some { cls := .type "list", data := .seq vs.toArray }) (hi : IntsAre vs ns) (hl : ns.length ≤ sizeLine) (hr : Room k callerA)
    (hF : ∀ base : Heap, K.In base → base.Ns mainGlobals mg → LamX.TabB base mg co Pt → FnG P w K mg base k fa fd [x] sp) (hbind : ∀ (s : Shared) (u : Value), BindsTo s fd ⟨[u], []⟩ [(x, u)])
    (hsp : ∀ H : Hp, H Pt = some (.tbl #[]) → SqL K H a (ns.map V.int) → sp [.ref a] H (fun v _ => v = .bl true) fun _ _ _ => False) :
    codeAny (model P w) callerA (.call (.ref fa) ⟨[.ref a], []⟩) (fun r s' => r = .ok (.ret (.bool true)) ∧ OldK s.heap s'.heap ∧ s'.os = s.os ∧ AllBare s'.gens) s := by
  have rv := vals_ints hi
  have lv := hi.length
  have aP : a ≠ Pt := fun z => by
    rw [z, hP] at ha
    have z2 : Data.fields #[] = Data.seq vs.toArray _ := congrArg Obj.data (Option.some.inj ha)
    cases z2
  generalize hH : hp0 K a Pt { cls := .type "list", data := .seq vs.toArray } (ns.map V.int) = H
  have fromH : ∀ {b : Addr} {u : HO}, H b = some u → (b = Pt ∧ u = .tbl #[]) ∨ (b = a ∧ b ≠ Pt ∧ K.lookup a = none ∧ u = .frz { cls := .type "list", data := .seq vs.toArray } (.lst (ns.map V.int))) := fun e => by
    rw [← hH] at e
    exact hp0_inv e
  have HP : H Pt = some (.tbl #[]) := by rw [← hH]; exact hp0_P
  -- objects of another data
  have free : ∀ {b : Addr} {ob : Obj}, s.heap.get? b = some ob → (∀ (us : Array Value) (n : Nat), ob.data ≠ .seq us n) → ob.data ≠ .fields #[] → H b = none := fun {b ob} e h1 h2 => by
    rw [← hH]
    exact hp0_obj hP ha e (fun z => h2 (by rw [z])) fun z => h1 _ _ (by rw [z])
  have stay : ∀ {b : Addr} {ob : Obj}, s.heap.get? b = some ob → (∀ (us : Array Value) (n : Nat), ob.data ≠ .seq us n) → ob.data ≠ .fields #[] → (hidT s.heap H).get? b = some ob := fun e h1 h2 => hidT_get e (free e h1 h2)
  have nsb : ∀ {b : Addr} {m : Str → Option Value}, s.heap.Ns b m → (hidT s.heap H).Ns b m := fun {b m} ⟨ob, es, ep, e, d, r⟩ => ⟨ob, es, ep, stay e (fun us n z => by rw [d] at z; cases z) (fun z => by rw [d] at z; cases z), d, r⟩
  have kH : ∀ b, (∃ ob, K.lookup b = some ob) → H b = none := fun b ⟨ob, e⟩ => by
    cases q : H b with
    | none => rfl
    | some u =>
      rcases fromH q with ⟨z, _⟩ | ⟨z, _, z2, _⟩
      · rw [z, kP] at e
        cases e
      · rw [z, z2] at e
        cases e
  have hKb : K.In (hidT s.heap H) := fun b ob e => hidT_get (hK b ob e) (kH b ⟨ob, e⟩)
  have mod : L2.Mod K mg (hidT s.heap H) := ⟨hKb, nsb hm, ⟨mb, nsb hb, hbb⟩, let ⟨mc, h1, h2⟩ := hlim; ⟨mc, nsb h1, h2⟩⟩
  have hok : HOk P w H s.heap := fun b u e => by
    rcases fromH e with ⟨z1, z2⟩ | ⟨z1, _, _, z2⟩
    · rw [z1, z2]
      exact hP
    · rw [z1, z2]
      exact ⟨ha, by rw [List.length_map]; exact hl, vs, _, rv, ha⟩
  have seqA : SqL K H a (ns.map V.int) := by
    cases e : K.lookup a with
    | none => exact .inl (.inr ⟨_, by rw [← hH]; exact hp0_a aP e⟩)
    | some ob =>
      have q := hK a ob e
      rw [ha] at q
      cases q
      exact .inr ⟨_, vs.toArray, _, e, rfl, rfl, rfl, by rw [List.size_toArray, lv]; exact hl, by simpa using rv⟩
  have tab : LamX.TabB (hidT s.heap H) mg co Pt := by
    refine ⟨?_, ?_, fun z => ?_⟩
    · obtain ⟨ob, us, f1, f2, f3, f4, f5, f6, f7, e, r1, r2, r3, rest⟩ := hC
      refine ⟨ob, us, f1, f2, f3, f4, f5, f6, f7, stay e (fun q n z => by rw [r2] at z; cases z) (fun z => ?_), r1, r2, r3, rest⟩
      rw [r2] at z
      cases z
      simp at r3
    · obtain ⟨bm, ob, b1, b2, b3, b4, b5, b6⟩ := hbm
      refine ⟨bm, ob, b1, b2, fun q => ?_, fun q => ?_, stay b3 (fun us n z => by rw [b6] at z; cases z) (fun z => by rw [b6] at z; cases z), b4, b5, b6⟩
      · obtain ⟨og, es, ep, e, d, _⟩ := hm
        rw [q, e] at b3
        cases b3
        rw [d] at b6
        cases b6
      · rw [q, hP] at b3
        cases b3
        cases b6
    · obtain ⟨og, es, ep, e, d, _⟩ := hm
      rw [z, hP] at e
      cases e
      cases d
  have env : Env0 P w K mg (hidT s.heap H) callerA [] s H := ⟨rfl, mod, fun b ob e => of_hidT e, Nat.le_of_eq (hidT_size _ _), trivial, fun b hb => absurd (show b ∈ ([] : List Addr) from hb) (by simp), hok, .of_eq hgen⟩
  refine codeAny_mono ((hF _ hKb (nsb hm) tab).run callerA [] s H ⟨[.ref a], []⟩ [.ref a] [.ref a] _ _ hr rfl env (hbind s (.ref a)) (.cons rfl .nil) (hsp H HP seqA)) fun r s' q => ?_
  cases r with
  | error e => exact (show False from q).elim
  | ok fl =>
    cases fl with
    | next => exact False.elim q
    | brk => exact False.elim q
    | cont => exact False.elim q
    | ret u =>
      obtain ⟨v, H', os, bare, un, hok', rr, hv⟩ := q
      have hv' : v = .bl true := hv
      subst hv'
      obtain rfl : u = Value.bool true := rr
      obtain ⟨more, hmore⟩ := un.tbls Pt #[] HP
      have hP' : s'.heap.get? Pt = some { cls := .none, data := .fields more } := by
        have q2 := hok' Pt _ hmore
        rw [Array.empty_append] at q2
        exact q2
      have key : ∀ b ob, b ≠ Pt → s.heap.get? b = some ob → s'.heap.get? b = some ob := fun b ob nb e => by
        cases q : H b with
        | none => exact un.keep b ob e q (fun z => nomatch (show b ∈ ([] : List Addr) from z)) (by simp)
        | some u =>
          rcases fromH q with ⟨z, _⟩ | ⟨z1, _, _, z2⟩
          · exact absurd z nb
          · subst z2
            have q3 := hok' b _ (un.frzs b _ _ q)
            rw [z1, ha] at e
            cases e
            obtain ⟨e2, _⟩ := q3
            exact e2
      refine ⟨rfl, ⟨fun b ob e => ?_, fun b ob e => ?_⟩, os, bare⟩
      · by_cases nb : b = Pt
        · subst nb
          rw [hP] at e
          cases e
          exact .inr (.inl ⟨(hC.tab hP).isCodeTable, rfl, #[], more, rfl, by rw [Array.empty_append]; exact hP'⟩)
        · exact .inl (key b ob nb e)
      · by_cases nb : b = Pt
        · subst nb
          exact ⟨_, hP'⟩
        · exact ⟨ob, key b ob nb e⟩
end K02

set_option Elab.async false
set_option linter.all false
set_option maxRecDepth 100000
set_option maxHeartbeats 2000000
/-! the walk of the law's row from what the head tells -/
namespace K02
open PySem PySem.Spec PyProof.Rows L2
/-- what is needed of the law at the head's heap -/
def LawG (l : PySem.W.OpenLaw) (w : World) (k n : Nat) (x : Str) (mg : Str → Option Value) (fa : Addr) (h : Heap) : Prop :=
  ∃ (K : PySem.W.Frag) (fd : FuncData) (co Pt : Addr) (sp : Sp), K.In h ∧ h.get? Pt = some { cls := .none, data := .fields #[] } ∧ K.lookup Pt = none ∧ PySem.W.CodeHd h co Pt ∧ (∀ (s : Shared) (u : Value), BindsTo s fd ⟨[u], []⟩ [(x, u)]) ∧
    (∀ (H : Hp) (a : Addr) (ns : List Int), ns.length ≤ n → H Pt = some (.tbl #[]) → SqL K H a (ns.map V.int) → sp [.ref a] H (fun v _ => v = .bl true) fun _ _ _ => False) ∧
    ∀ base : Heap, K.In base → base.Ns mainGlobals mg → LamX.TabB base mg co Pt → FnG l.prog w K mg base k fa fd [x] sp
theorem walk_g {l : PySem.W.OpenLaw} {n k : Nat} {q : Program} {loose : List Str} {XP : (Str → Option Value) → Heap → Prop} {YP : World → Heap → Prop} {d : PySem.DefRec} {x : Str}
    (hn : l.most = some n) (hn2 : n ≤ sizeLine) (hdf : d.params.defaults = []) (hr : Room k callerA)
    (F : ∀ (w : World) (mg : Str → Option Value) (fa : Addr) (h : Heap), YP w h → h.Ns mainGlobals mg → mg d.name = some (.ref fa) → LawG l w k n x mg fa h) :
    PySem.W.WalkO q loose XP YP l.row.toRowW d [] (fun f vs => PySem.call f vs) := by
  refine Att.attach_callB hn hdf fun w s₀ s₁ mg mb fa o pm cd doc a vs ns G Y ho hd hcd hmg hobj hints hlen hbits hg => ?_
  obtain ⟨K, fd, co, Pt, sp, hK, hP, kP, hC, hb, hsp, hF⟩ := F w mg fa _ Y G.T.g hmg
  exact call_g hK G.T.g G.T.b G.T.builtins G.T.nolimit hg hP kP hC G.T.bmain hobj hints (Nat.le_trans hlen hn2) hr hF hb fun H h1 h2 => hsp H a ns hlen h1 h2
end K02

set_option Elab.async false
set_option linter.all false
set_option maxRecDepth 100000
set_option maxHeartbeats 4000000
/-! what the head tells, joined (printed by mk_head.py) -/
namespace K02
open PySem PySem.Spec PySem.Calls PyProof.Rows L2
theorem all_mk {l : PySem.W.OpenLaw} {w : World} {K : PySem.W.Frag} {h : Heap} {mg : Str → Option Value} {fa : Addr} (X : K.In h) (G : h.Ns mainGlobals mg) (hfa : mg "law" = some (.ref fa))
    {C R fI fM cc IM IR EE co Pt fL fR f1 f2 f3 f4 f5 f6 f7 f8 f9 f10 f11 f12 f13 f14 f15 f16 f17 f18 f19 f20 f21 f22 f23 f24 f25 f26 f27 : Addr}
    {od1 an1 od2 an2 od3 an3 od4 an4 od5 an5 od6 an6 od7 an7 od8 an8 od9 an9 od10 an10 od11 an11 od12 an12 od13 an13 od14 an14 od15 an15 od16 an16 od17 an17 od18 an18 od19 an19 od20 an20 od21 an21 od22 an22 od23 an23 od24 an24 od25 an25 od26 an26 od27 an27 odL anL odR anR odM anM odI anI odC : Option Addr} {sl1 sl2 sl3 sl4 sl5 sl6 sl7 sl8 sl9 sl10 sl11 sl12 sl13 sl14 sl15 sl16 sl17 sl18 sl19 sl20 sl21 sl22 sl23 sl24 sl25 sl26 sl27 slL slR slM slI slC ccs : Array (Option Value)}
    {oc1 kV1 dc1 pm1 ct1 oc2 kV2 dc2 pm2 ct2 oc3 kV3 dc3 pm3 ct3 oc4 kV4 dc4 pm4 ct4 oc5 kV5 dc5 pm5 ct5 oc6 kV6 dc6 pm6 ct6 oc7 kV7 dc7 pm7 ct7 oc8 kV8 dc8 pm8 ct8 oc9 kV9 dc9 pm9 ct9 oc10 kV10 dc10 pm10 ct10 oc11 kV11 dc11 pm11 ct11 oc12 kV12 dc12 pm12 ct12 oc13 kV13 dc13 pm13 ct13 oc14 kV14 dc14 pm14 ct14 oc15 kV15 dc15 pm15 ct15 oc16 kV16 dc16 pm16 ct16 oc17 kV17 dc17 pm17 ct17 oc18 kV18 dc18 pm18 ct18 oc19 kV19 dc19 pm19 ct19 oc20 kV20 dc20 pm20 ct20 oc21 kV21 dc21 pm21 ct21 oc22 kV22 dc22 pm22 ct22 oc23 kV23 dc23 pm23 ct23 oc24 kV24 dc24 pm24 ct24 oc25 kV25 dc25 pm25 ct25 oc26 kV26 dc26 pm26 ct26 oc27 kV27 dc27 pm27 ct27 ocL kVL dcL pmL ctL ocR kVR dcR pmR ctR ocM kVM dcM pmM ctM ocI dcI pmI ctI : Value} {cd1 cd2 cd3 cd4 cd5 cd6 cd7 cd8 cd9 cd10 cd11 cd12 cd13 cd14 cd15 cd16 cd17 cd18 cd19 cd20 cd21 cd22 cd23 cd24 cd25 cd26 cd27 cdL cdM ccl ccd2 : Value} {cda : Addr} {ccdd : Option Addr} {cvs pvs : Array Value} {tf : Tok} {cld : Option Addr} {csl : Array (Option Value)} {cl : Value}
    {nm qq : Str} {N : Addr} {bs : List Value} {bm : List Value} {sn : List Str} {sub : List Value} {ab : Bool} {col : Option Bool} {dd : Option Addr} {m0 m1 m2 m3 m5 : Option Value} {file : Str}
    (z_isinstance : PySem.W.nsIn K mainGlobals "isinstance" = some none)
    (z_int : PySem.W.nsIn K mainGlobals "int" = some none)
    (z_bool : PySem.W.nsIn K mainGlobals "bool" = some none)
    (z_list : PySem.W.nsIn K mainGlobals "list" = some none)
    (z_tuple : PySem.W.nsIn K mainGlobals "tuple" = some none)
    (z_len : PySem.W.nsIn K mainGlobals "len" = some none)
    (z_enumerate : PySem.W.nsIn K mainGlobals "enumerate" = some none)
    (z_all : PySem.W.nsIn K mainGlobals "all" = some none)
    (z_range : PySem.W.nsIn K mainGlobals "range" = some none)
    (z_sorted : PySem.W.nsIn K mainGlobals "sorted" = some none)
    (z_abs : PySem.W.nsIn K mainGlobals "abs" = some none)
    (z_repr : PySem.W.nsIn K mainGlobals "repr" = some none)
    (z_set : PySem.W.nsIn K mainGlobals "set" = some none)
    (z_super : PySem.W.nsIn K mainGlobals "super" = some none)
    (a1 : PySem.W.nsIn K mainGlobals "is_integer" = some (some (.ref f1)))
    (l1 : K.lookup f1 = some ⟨oc1, od1, .func (PySem.W.fnOf "is_integer" "is_integer" (defArgs tIsInt) (defBody tIsInt) (defScope tIsInt) .none kV1 dc1 pm1 an1 cd1 ct1), sl1⟩)
    (c1 : PySem.W.codeIn K cd1 "is_integer" = true)
    (k1 : PySem.W.keepIn K (.ref f1) = true)
    (a2 : PySem.W.nsIn K mainGlobals "is_number" = some (some (.ref f2)))
    (l2 : K.lookup f2 = some ⟨oc2, od2, .func (PySem.W.fnOf "is_number" "is_number" (defArgs tIsNum) (defBody tIsNum) (defScope tIsNum) .none kV2 dc2 pm2 an2 cd2 ct2), sl2⟩)
    (c2 : PySem.W.codeIn K cd2 "is_number" = true)
    (k2 : PySem.W.keepIn K (.ref f2) = true)
    (a3 : PySem.W.nsIn K mainGlobals "is_sequence" = some (some (.ref f3)))
    (l3 : K.lookup f3 = some ⟨oc3, od3, .func (PySem.W.fnOf "is_sequence" "is_sequence" (defArgs tIsSeq) (defBody tIsSeq) (defScope tIsSeq) .none kV3 dc3 pm3 an3 cd3 ct3), sl3⟩)
    (c3 : PySem.W.codeIn K cd3 "is_sequence" = true)
    (k3 : PySem.W.keepIn K (.ref f3) = true)
    (a4 : PySem.W.nsIn K mainGlobals "is_index" = some (some (.ref f4)))
    (l4 : K.lookup f4 = some ⟨oc4, od4, .func (PySem.W.fnOf "is_index" "is_index" (defArgs tIsIdx) (defBody tIsIdx) (defScope tIsIdx) .none kV4 dc4 pm4 an4 cd4 ct4), sl4⟩)
    (c4 : PySem.W.codeIn K cd4 "is_index" = true)
    (k4 : PySem.W.keepIn K (.ref f4) = true)
    (a5 : PySem.W.nsIn K mainGlobals "checked_row" = some (some (.ref f5)))
    (l5 : K.lookup f5 = some ⟨oc5, od5, .func (PySem.W.fnOf "checked_row" "checked_row" (defArgs tChecked) (defBody tChecked) (defScope tChecked) .none kV5 dc5 pm5 an5 cd5 ct5), sl5⟩)
    (c5 : PySem.W.codeIn K cd5 "checked_row" = true)
    (k5 : PySem.W.keepIn K (.ref f5) = true)
    (a6 : PySem.W.nsIn K mainGlobals "led" = some (some (.ref f6)))
    (l6 : K.lookup f6 = some ⟨oc6, od6, .func (PySem.W.fnOf "led" "led" (defArgs tLed) (defBody tLed) (defScope tLed) .none kV6 dc6 pm6 an6 cd6 ct6), sl6⟩)
    (c6 : PySem.W.codeIn K cd6 "led" = true)
    (k6 : PySem.W.keepIn K (.ref f6) = true)
    (a7 : PySem.W.nsIn K mainGlobals "effect" = some (some (.ref f7)))
    (l7 : K.lookup f7 = some ⟨oc7, od7, .func (PySem.W.fnOf "effect" "effect" (defArgs tEffect) (defBody tEffect) (defScope tEffect) .none kV7 dc7 pm7 an7 cd7 ct7), sl7⟩)
    (c7 : PySem.W.codeIn K cd7 "effect" = true)
    (k7 : PySem.W.keepIn K (.ref f7) = true)
    (a8 : PySem.W.nsIn K mainGlobals "followed" = some (some (.ref f8)))
    (l8 : K.lookup f8 = some ⟨oc8, od8, .func (PySem.W.fnOf "followed" "followed" (defArgs tFollowed) (defBody tFollowed) (defScope tFollowed) .none kV8 dc8 pm8 an8 cd8 ct8), sl8⟩)
    (c8 : PySem.W.codeIn K cd8 "followed" = true)
    (k8 : PySem.W.keepIn K (.ref f8) = true)
    (a9 : PySem.W.nsIn K mainGlobals "single_effects" = some (some (.ref f9)))
    (l9 : K.lookup f9 = some ⟨oc9, od9, .func (PySem.W.fnOf "single_effects" "single_effects" (defArgs tSingle) (defBody tSingle) (defScope tSingle) .none kV9 dc9 pm9 an9 cd9 ct9), sl9⟩)
    (c9 : PySem.W.codeIn K cd9 "single_effects" = true)
    (k9 : PySem.W.keepIn K (.ref f9) = true)
    (a10 : PySem.W.nsIn K mainGlobals "effects_of_length" = some (some (.ref f10)))
    (l10 : K.lookup f10 = some ⟨oc10, od10, .func (PySem.W.fnOf "effects_of_length" "effects_of_length" (defArgs tEffs) (defBody tEffs) (defScope tEffs) .none kV10 dc10 pm10 an10 cd10 ct10), sl10⟩)
    (c10 : PySem.W.codeIn K cd10 "effects_of_length" = true)
    (k10 : PySem.W.keepIn K (.ref f10) = true)
    (a11 : PySem.W.nsIn K mainGlobals "is_effect" = some (some (.ref f11)))
    (l11 : K.lookup f11 = some ⟨oc11, od11, .func (PySem.W.fnOf "is_effect" "is_effect" (defArgs tIsEffect) (defBody tIsEffect) (defScope tIsEffect) .none kV11 dc11 pm11 an11 cd11 ct11), sl11⟩)
    (c11 : PySem.W.codeIn K cd11 "is_effect" = true)
    (k11 : PySem.W.keepIn K (.ref f11) = true)
    (a12 : PySem.W.nsIn K mainGlobals "row_for" = some (some (.ref f12)))
    (l12 : K.lookup f12 = some ⟨oc12, od12, .func (PySem.W.fnOf "row_for" "row_for" (defArgs tRowFor) (defBody tRowFor) (defScope tRowFor) .none kV12 dc12 pm12 an12 cd12 ct12), sl12⟩)
    (c12 : PySem.W.codeIn K cd12 "row_for" = true)
    (k12 : PySem.W.keepIn K (.ref f12) = true)
    (a13 : PySem.W.nsIn K mainGlobals "first_rows" = some (some (.ref f13)))
    (l13 : K.lookup f13 = some ⟨oc13, od13, .func (PySem.W.fnOf "first_rows" "first_rows" (defArgs tFirst) (defBody tFirst) (defScope tFirst) .none kV13 dc13 pm13 an13 cd13 ct13), sl13⟩)
    (c13 : PySem.W.codeIn K cd13 "first_rows" = true)
    (k13 : PySem.W.keepIn K (.ref f13) = true)
    (a14 : PySem.W.nsIn K mainGlobals "reached" = some (some (.ref f14)))
    (l14 : K.lookup f14 = some ⟨oc14, od14, .func (PySem.W.fnOf "reached" "reached" (defArgs tReached) (defBody tReached) (defScope tReached) .none kV14 dc14 pm14 an14 cd14 ct14), sl14⟩)
    (c14 : PySem.W.codeIn K cd14 "reached" = true)
    (k14 : PySem.W.keepIn K (.ref f14) = true)
    (a15 : PySem.W.nsIn K mainGlobals "reaching_row" = some (some (.ref f15)))
    (l15 : K.lookup f15 = some ⟨oc15, od15, .func (PySem.W.fnOf "reaching_row" "reaching_row" (defArgs tReachRow) (defBody tReachRow) (defScope tReachRow) .none kV15 dc15 pm15 an15 cd15 ct15), sl15⟩)
    (c15 : PySem.W.codeIn K cd15 "reaching_row" = true)
    (k15 : PySem.W.keepIn K (.ref f15) = true)
    (a16 : PySem.W.nsIn K mainGlobals "_law_draw" = some (some (.ref f16)))
    (l16 : K.lookup f16 = some ⟨oc16, od16, .func (PySem.W.fnOf "_law_draw" "_law_draw" (defArgs tDraw) (defBody tDraw) (defScope tDraw) .none kV16 dc16 pm16 an16 cd16 ct16), sl16⟩)
    (c16 : PySem.W.codeIn K cd16 "_law_draw" = true)
    (k16 : PySem.W.keepIn K (.ref f16) = true)
    (a17 : PySem.W.nsIn K mainGlobals "_law_any" = some (some (.ref f17)))
    (l17 : K.lookup f17 = some ⟨oc17, od17, .func (PySem.W.fnOf "_law_any" "_law_any" (defArgs tAny) (defBody tAny) (defScope tAny) .none kV17 dc17 pm17 an17 cd17 ct17), sl17⟩)
    (c17 : PySem.W.codeIn K cd17 "_law_any" = true)
    (k17 : PySem.W.keepIn K (.ref f17) = true)
    (a18 : PySem.W.nsIn K mainGlobals "_law_of" = some (some (.ref f18)))
    (l18 : K.lookup f18 = some ⟨oc18, od18, .func (PySem.W.fnOf "_law_of" "_law_of" (defArgs tOf) (defBody tOf) (defScope tOf) .none kV18 dc18 pm18 an18 cd18 ct18), sl18⟩)
    (c18 : PySem.W.codeIn K cd18 "_law_of" = true)
    (k18 : PySem.W.keepIn K (.ref f18) = true)
    (a19 : PySem.W.nsIn K mainGlobals "_law_mixed" = some (some (.ref f19)))
    (l19 : K.lookup f19 = some ⟨oc19, od19, .func (PySem.W.fnOf "_law_mixed" "_law_mixed" (defArgs tMixed) (defBody tMixed) (defScope tMixed) .none kV19 dc19 pm19 an19 cd19 ct19), sl19⟩)
    (c19 : PySem.W.codeIn K cd19 "_law_mixed" = true)
    (k19 : PySem.W.keepIn K (.ref f19) = true)
    (a20 : PySem.W.nsIn K mainGlobals "_law_machine" = some (some (.ref f20)))
    (l20 : K.lookup f20 = some ⟨oc20, od20, .func (PySem.W.fnOf "_law_machine" "_law_machine" (defArgs tMachine) (defBody tMachine) (defScope tMachine) .none kV20 dc20 pm20 an20 cd20 ct20), sl20⟩)
    (c20 : PySem.W.codeIn K cd20 "_law_machine" = true)
    (k20 : PySem.W.keepIn K (.ref f20) = true)
    (a21 : PySem.W.nsIn K mainGlobals "_law_led" = some (some (.ref f21)))
    (l21 : K.lookup f21 = some ⟨oc21, od21, .func (PySem.W.fnOf "_law_led" "_law_led" (defArgs tLawLed) (defBody tLawLed) (defScope tLawLed) .none kV21 dc21 pm21 an21 cd21 ct21), sl21⟩)
    (c21 : PySem.W.codeIn K cd21 "_law_led" = true)
    (k21 : PySem.W.keepIn K (.ref f21) = true)
    (a22 : PySem.W.nsIn K mainGlobals "_law_rows" = some (some (.ref f22)))
    (l22 : K.lookup f22 = some ⟨oc22, od22, .func (PySem.W.fnOf "_law_rows" "_law_rows" (defArgs tRows) (defBody tRows) (defScope tRows) .none kV22 dc22 pm22 an22 cd22 ct22), sl22⟩)
    (c22 : PySem.W.codeIn K cd22 "_law_rows" = true)
    (k22 : PySem.W.keepIn K (.ref f22) = true)
    (a23 : PySem.W.nsIn K mainGlobals "_law_refused" = some (some (.ref f23)))
    (l23 : K.lookup f23 = some ⟨oc23, od23, .func (PySem.W.fnOf "_law_refused" "_law_refused" (defArgs tLawRef) (defBody tLawRef) (defScope tLawRef) .none kV23 dc23 pm23 an23 cd23 ct23), sl23⟩)
    (c23 : PySem.W.codeIn K cd23 "_law_refused" = true)
    (k23 : PySem.W.keepIn K (.ref f23) = true)
    (a24 : PySem.W.nsIn K mainGlobals "_law_effect" = some (some (.ref f24)))
    (l24 : K.lookup f24 = some ⟨oc24, od24, .func (PySem.W.fnOf "_law_effect" "_law_effect" (defArgs tLawEffect) (defBody tLawEffect) (defScope tLawEffect) .none kV24 dc24 pm24 an24 cd24 ct24), sl24⟩)
    (c24 : PySem.W.codeIn K cd24 "_law_effect" = true)
    (k24 : PySem.W.keepIn K (.ref f24) = true)
    (a25 : PySem.W.nsIn K mainGlobals "_law_grown" = some (some (.ref f25)))
    (l25 : K.lookup f25 = some ⟨oc25, od25, .func (PySem.W.fnOf "_law_grown" "_law_grown" (defArgs tGrown) (defBody tGrown) (defScope tGrown) .none kV25 dc25 pm25 an25 cd25 ct25), sl25⟩)
    (c25 : PySem.W.codeIn K cd25 "_law_grown" = true)
    (k25 : PySem.W.keepIn K (.ref f25) = true)
    (a26 : PySem.W.nsIn K mainGlobals "_law_effects_right" = some (some (.ref f26)))
    (l26 : K.lookup f26 = some ⟨oc26, od26, .func (PySem.W.fnOf "_law_effects_right" "_law_effects_right" (defArgs tEffR) (defBody tEffR) (defScope tEffR) .none kV26 dc26 pm26 an26 cd26 ct26), sl26⟩)
    (c26 : PySem.W.codeIn K cd26 "_law_effects_right" = true)
    (k26 : PySem.W.keepIn K (.ref f26) = true)
    (a27 : PySem.W.nsIn K mainGlobals "_law_powers_right" = some (some (.ref f27)))
    (l27 : K.lookup f27 = some ⟨oc27, od27, .func (PySem.W.fnOf "_law_powers_right" "_law_powers_right" (defArgs tPow) (defBody tPow) (defScope tPow) .none kV27 dc27 pm27 an27 cd27 ct27), sl27⟩)
    (c27 : PySem.W.codeIn K cd27 "_law_powers_right" = true)
    (k27 : PySem.W.keepIn K (.ref f27) = true)
    (aL : PySem.W.nsIn K mainGlobals "law" = some (some (.ref fL)))
    (lL : K.lookup fL = some ⟨ocL, odL, .func (PySem.W.fnOf "law" "law" (defArgs tLaw) (defBody tLaw) (defScope tLaw) .none kVL dcL pmL anL cdL ctL), slL⟩)
    (cL : PySem.W.codeIn K cdL "law" = true)
    (kL : PySem.W.keepIn K (.ref fL) = true)
    (aR : PySem.W.nsIn K mainGlobals "_law_reached_right" = some (some (.ref fR)))
    (lR : K.lookup fR = some ⟨ocR, odR, .func (PySem.W.fnOf "_law_reached_right" "_law_reached_right" (defArgs tReachR) (defBody tReachR) (defScope tReachR) .none kVR dcR pmR anR (.ref co) ctR), slR⟩)
    (cR : PySem.W.codeIn K (.ref co) "_law_reached_right" = true)
    (kR : PySem.W.keepIn K (.ref fR) = true)
    (lC : K.lookup co = some ⟨ccl, odC, .fields pvs, slC⟩)
    (pC : (pvs[11]? : Option Value) = some (.ref Pt))
    (hC : PySem.W.codeHdIn K co Pt = true)
    (nP : K.lookup Pt = none)
    (hP : h.get? Pt = some { cls := .none, data := .fields #[] })
    (aM : PySem.W.nsIn K mainGlobals "Machine" = some (some (.ref C)))
    (pg : PySem.W.plainGet K C Str.empty = true)
    (hd : PySem.W.hasDictIn K C = true)
    (po : PySem.W.plainOver K C = true)
    (sa : PySem.W.findIn K (.ref C) "__setattr__" = some (some (.builtin "object.__setattr__")))
    (nC : PySem.W.findIn K (.ref C) "commands" = some none)
    (nS : PySem.W.findIn K (.ref C) "states" = some none)
    (nT : PySem.W.findIn K (.ref C) "steps" = some none)
    (mk : PySem.W.makesIn K C = true)
    (iM : PySem.W.findIn K (.ref C) "__init__" = some (some (.ref fM)))
    (jM : PySem.W.isFn K (.ref fM) = true)
    (kC : PySem.W.keepIn K (.ref C) = true)
    (lM : K.lookup fM = some ⟨ocM, odM, .func (PySem.W.fnOf "__init__" "Machine.__init__" (defArgs tInit) (defBody tInit) (defScope tInit) .none kVM dcM pmM anM cdM ctM), slM⟩)
    (cM : PySem.W.codeIn K cdM "Machine.__init__" = true)
    (kM : PySem.W.keepIn K (.ref fM) = true)
    (rA : PySem.W.nsIn K mainGlobals "Refused" = some (some (.ref R)))
    (rX : K.lookup R = some (excClassObj nm qq R N bs bm true sn sub ab col dd m0 m1 m2 m3 m5 "ValueError.__new__"))
    (rV : PySem.HandSPX.refsVE bm = true)
    (rsa : PySem.W.findIn K (.ref R) "__setattr__" = some (some (.builtin "object.__setattr__")))
    (rga : PySem.W.findIn K (.ref R) "__getattribute__" = some (some (.builtin "BaseException.__getattribute__")))
    (rgg : PySem.W.findIn K (.ref R) "__getattr__" = some none)
    (rno : PySem.W.findIn K (.ref R) "at" = some none)
    (rI : PySem.W.findIn K (.ref R) "__init__" = some (some (.ref fI)))
    (rtI : PySem.W.typeIn K (.ref fI) = some (.type "function"))
    (rk : PySem.W.keepIn K (.ref R) = true)
    (rex : PySem.W.subIn K (.ref R) (.type "BaseException") = some true)
    (rve : PySem.W.subIn K (.ref R) (.type "ValueError") = some true)
    (rty : PySem.W.typeIn K (.ref R) = some (.type "type"))
    (rhd : PySem.W.hasDictIn K R = true)
    (rsup : PySem.W.ks_superIn K R R "__init__" = some (some (.builtin "ValueError.__init__")))
    (rown : PySem.W.mroIn K R (.ref R) = some true)
    (rtp : PySem.W.nsIn K cStatics "thirdparty.any" = some none)
    (lI : K.lookup fI = some ⟨ocI, odI, .func (PySem.W.ksFn "__init__" "Refused.__init__" (defArgs tRIni) (defBody tRIni) (defScope tRIni) .none .none dcI pmI anI (.ref cda) ctI cc), slI⟩)
    (cI : PySem.W.codeIn K (.ref cda) "Refused.__init__" = true)
    (lcc : K.lookup cc = some ⟨cl, cld, .cell (some (.ref R)), csl⟩)
    (lcd : K.lookup cda = some ⟨ccd2, ccdd, .fields cvs, ccs⟩)
    (vcd : (cvs[2]? : Option Value) = some (.str file tf))
    (vfi : ((l.prog.main.file : Str) == file) = true)
    (tops : (l.prog.main.scope.names.lookup ("super" : Str)).isSome = false)
    (aIM : PySem.W.nsIn K mainGlobals "InvalidMachine" = some (some (.ref IM)))
    (aIR : PySem.W.nsIn K mainGlobals "InvalidRow" = some (some (.ref IR)))
    (aEE : PySem.W.nsIn K mainGlobals "EndsError" = some (some (.ref EE)))
    (kIM : PySem.W.kitOne K (.ref R) (.ref IM) = some false)
    (kIR : PySem.W.kitOne K (.ref R) (.ref IR) = some false)
    (te : PySem.W.exmOne K (.ref R) (.ref EE) = some true)
    (xcl : (PySem.W.clsIn K R).isSome = true)
    (xca : PySem.W.findIn K (.ref R) "__class__" = some (some (.builtin "object.__class__")))
    (xcn : PySem.W.specialIn K (.builtin "object.__class__") "__get__" = some (some (.builtin "getset_descriptor.__get__")))
    (xct : PySem.W.takesIn K (.builtin "object.__class__") = some true)
    (xcm : PySem.W.mroIn K R (.type "object") = some true)
    : LawG l w 7 63 "_law_script" mg fa h := by
  have e := hfa.symm.trans (PySem.W.mg_of X G aL)
  cases e
  have B : Bi mg := ⟨PySem.W.mg_none_of X G z_isinstance, PySem.W.mg_none_of X G z_int, PySem.W.mg_none_of X G z_bool, PySem.W.mg_none_of X G z_list, PySem.W.mg_none_of X G z_tuple, PySem.W.mg_none_of X G z_len, PySem.W.mg_none_of X G z_enumerate, PySem.W.mg_none_of X G z_all, PySem.W.mg_none_of X G z_range, PySem.W.mg_none_of X G z_sorted, PySem.W.mg_none_of X G z_abs, PySem.W.mg_none_of X G z_repr, PySem.W.mg_none_of X G z_set, PySem.W.mg_none_of X G z_super⟩
  have F1 := fun_mk (st := tIsInt) l1 c1 k1
  have D1 : Df K mg "is_integer" tIsInt := ⟨f1, _, F1, PySem.W.mg_of X G a1⟩
  have F2 := fun_mk (st := tIsNum) l2 c2 k2
  have D2 : Df K mg "is_number" tIsNum := ⟨f2, _, F2, PySem.W.mg_of X G a2⟩
  have F3 := fun_mk (st := tIsSeq) l3 c3 k3
  have D3 : Df K mg "is_sequence" tIsSeq := ⟨f3, _, F3, PySem.W.mg_of X G a3⟩
  have F4 := fun_mk (st := tIsIdx) l4 c4 k4
  have D4 : Df K mg "is_index" tIsIdx := ⟨f4, _, F4, PySem.W.mg_of X G a4⟩
  have F5 := fun_mk (st := tChecked) l5 c5 k5
  have D5 : Df K mg "checked_row" tChecked := ⟨f5, _, F5, PySem.W.mg_of X G a5⟩
  have F6 := fun_mk (st := tLed) l6 c6 k6
  have D6 : Df K mg "led" tLed := ⟨f6, _, F6, PySem.W.mg_of X G a6⟩
  have F7 := fun_mk (st := tEffect) l7 c7 k7
  have D7 : Df K mg "effect" tEffect := ⟨f7, _, F7, PySem.W.mg_of X G a7⟩
  have F8 := fun_mk (st := tFollowed) l8 c8 k8
  have D8 : Df K mg "followed" tFollowed := ⟨f8, _, F8, PySem.W.mg_of X G a8⟩
  have F9 := fun_mk (st := tSingle) l9 c9 k9
  have D9 : Df K mg "single_effects" tSingle := ⟨f9, _, F9, PySem.W.mg_of X G a9⟩
  have F10 := fun_mk (st := tEffs) l10 c10 k10
  have D10 : Df K mg "effects_of_length" tEffs := ⟨f10, _, F10, PySem.W.mg_of X G a10⟩
  have F11 := fun_mk (st := tIsEffect) l11 c11 k11
  have D11 : Df K mg "is_effect" tIsEffect := ⟨f11, _, F11, PySem.W.mg_of X G a11⟩
  have F12 := fun_mk (st := tRowFor) l12 c12 k12
  have D12 : Df K mg "row_for" tRowFor := ⟨f12, _, F12, PySem.W.mg_of X G a12⟩
  have F13 := fun_mk (st := tFirst) l13 c13 k13
  have D13 : Df K mg "first_rows" tFirst := ⟨f13, _, F13, PySem.W.mg_of X G a13⟩
  have F14 := fun_mk (st := tReached) l14 c14 k14
  have D14 : Df K mg "reached" tReached := ⟨f14, _, F14, PySem.W.mg_of X G a14⟩
  have F15 := fun_mk (st := tReachRow) l15 c15 k15
  have D15 : Df K mg "reaching_row" tReachRow := ⟨f15, _, F15, PySem.W.mg_of X G a15⟩
  have F16 := fun_mk (st := tDraw) l16 c16 k16
  have D16 : Df K mg "_law_draw" tDraw := ⟨f16, _, F16, PySem.W.mg_of X G a16⟩
  have F17 := fun_mk (st := tAny) l17 c17 k17
  have D17 : Df K mg "_law_any" tAny := ⟨f17, _, F17, PySem.W.mg_of X G a17⟩
  have F18 := fun_mk (st := tOf) l18 c18 k18
  have D18 : Df K mg "_law_of" tOf := ⟨f18, _, F18, PySem.W.mg_of X G a18⟩
  have F19 := fun_mk (st := tMixed) l19 c19 k19
  have D19 : Df K mg "_law_mixed" tMixed := ⟨f19, _, F19, PySem.W.mg_of X G a19⟩
  have F20 := fun_mk (st := tMachine) l20 c20 k20
  have D20 : Df K mg "_law_machine" tMachine := ⟨f20, _, F20, PySem.W.mg_of X G a20⟩
  have F21 := fun_mk (st := tLawLed) l21 c21 k21
  have D21 : Df K mg "_law_led" tLawLed := ⟨f21, _, F21, PySem.W.mg_of X G a21⟩
  have F22 := fun_mk (st := tRows) l22 c22 k22
  have D22 : Df K mg "_law_rows" tRows := ⟨f22, _, F22, PySem.W.mg_of X G a22⟩
  have F23 := fun_mk (st := tLawRef) l23 c23 k23
  have D23 : Df K mg "_law_refused" tLawRef := ⟨f23, _, F23, PySem.W.mg_of X G a23⟩
  have F24 := fun_mk (st := tLawEffect) l24 c24 k24
  have D24 : Df K mg "_law_effect" tLawEffect := ⟨f24, _, F24, PySem.W.mg_of X G a24⟩
  have F25 := fun_mk (st := tGrown) l25 c25 k25
  have D25 : Df K mg "_law_grown" tGrown := ⟨f25, _, F25, PySem.W.mg_of X G a25⟩
  have F26 := fun_mk (st := tEffR) l26 c26 k26
  have D26 : Df K mg "_law_effects_right" tEffR := ⟨f26, _, F26, PySem.W.mg_of X G a26⟩
  have F27 := fun_mk (st := tPow) l27 c27 k27
  have D27 : Df K mg "_law_powers_right" tPow := ⟨f27, _, F27, PySem.W.mg_of X G a27⟩
  have T : MC K mg C := ⟨⟨pg, hd, po, sa⟩, nC, nS, nT, PySem.W.mg_of X G aM⟩
  have FL := fun_mk (st := tLaw) lL cL kL
  have FM := fun_mk (st := tInit) lM cM kM
  have bM := FM.binds (ps := ["self", "commands", "steps"]) fun _ _ _ _ _ _ us hl => match us, hl with | [_, _, _], _ => rfl
  have DR : DfC K mg "_law_reached_right" tReachR co := ⟨fR, ocR, odR, kVR, dcR, pmR, anR, ctR, slR, lR, cR, PySem.W.mg_of X G aR, kR⟩
  have RT : RTxt l.prog K mg R fI cc :=
    { gC := PySem.W.mg_of X G rA, cls := ⟨nm, qq, N, bs, bm, sn, sub, ab, col, dd, m0, m1, m2, m3, m5, rX, rV⟩, sa := rsa, ga := rga, gg := rgg, noN := rno, iC := rI, tI := rtI, kC := rk, exC := rex, veC := rve, tyC := rty, hdC := rhd, sup := rsup, own := rown, tp := rtp, sup0 := B.super,
      cell := ⟨cl, cld, csl, lcc⟩, fn := ⟨ocI, odI, dcI, pmI, anI, cda, ctI, slI, lI, cI, ccd2, ccdd, cvs, ccs, file, tf, lcd, vcd, vfi⟩, tops := tops }
  have R2 : RTx2 K mg R IM IR EE := ⟨PySem.W.mg_of X G rA, PySem.W.mg_of X G aIM, PySem.W.mg_of X G aIR, PySem.W.mg_of X G aEE, kIM, kIR, te, xcl, xca, xcn, xct, xcm⟩
  refine ⟨K, PySem.W.fnOf "law" "law" (defArgs tLaw) (defBody tLaw) (defScope tLaw) .none kVL dcL pmL anL cdL ctL, co, Pt, spLaw K Pt, X, hP, nP, PySem.W.codeHd_of_K X hC, fun s u => ?_, fun H a ns hl ht hS => ⟨a, ns, rfl, hS, by omega, fun p hp => ?_, fun _ => rfl⟩, fun base _ _ TB => ?_⟩
  · exact .of_eq rfl
  · rw [List.mem_singleton.mp hp]
    exact LamX.TabS.nil ht
  · have h1 : Has l.prog w K mg base 1 "is_integer" ["value"] spIsInt := has_isInt B D1
    have h2 := has_isNum h1 D2
    have h3 := has_isIdx h2 D4
    have h4 : Has l.prog w K mg base 1 "is_sequence" ["value"] spIsSeq := has_isSeq B D3
    have hI := ok_init B T FM h1 h4 h3
    have h5 := has_checked B h4 D5
    have h6 : Has l.prog w K mg base 1 "led" ["machine", "state", "row"] (spLed C) := has_led T D6
    have h7 := has_effect B T h5 h6 D7
    have h8 : Has l.prog w K mg base 1 "followed" ["one", "other"] spFollowed := has_followed B D8
    have h9 : Has l.prog w K mg base 1 "single_effects" ["machine"] (spSingle C) := has_single B T D9
    have h10 := has_effs B T h9 h8 D10
    have h11 := has_isEff B T h3 D11
    have h12 := has_row B T h11 h9 h8 D12
    have h13 : Has l.prog w K mg base 1 "first_rows" ["machine", "start"] (spFirst C) := has_first B T D13
    have h14 := has_reached B h13 D14
    have h15 := has_reach h13 D15
    have g1 : Has l.prog w K mg base 1 "_law_draw" ["_law_script", "_law_salt"] (spDraw K) := has_draw B D16
    have g2 : Has l.prog w K mg base 1 "_law_any" ["_law_deal", "_law_bound"] spAny := has_any B D17
    have g3 := has_of B g2 D18
    have g4 := has_mixed B g2 D19
    have g5 := has_machine B g2 g3 g4 D20
    have g6 : Has l.prog w K mg base 1 "_law_led" ["_law_steps", "_law_state", "_law_row"] spLawLed := has_lawled D21
    have g7 : Has l.prog w K mg base 1 "_law_rows" ["_law_commands", "_law_length"] spRows := has_rows B D22
    have g8 := has_laweff B g6 D24
    have g9 := has_grown B g8 D25
    have kE := h10.kw D10 (ks := ["length", "machine"]) fun F => kb2 F (fun _ _ _ _ _ _ _ _ => rfl)
    have kW := h12.kw D12 (ks := ["wanted", "machine"]) fun F => kb2 F (fun _ _ _ _ _ _ _ _ => rfl)
    have kD := h14.kw D14 (ks := ["start", "machine"]) fun F => kb2 F (fun _ _ _ _ _ _ _ _ => rfl)
    have kH := h15.kw D15 (ks := ["state", "start", "machine"]) fun F => kb3 F (fun _ _ _ _ _ _ _ _ _ => rfl)
    have FF : Fns l.prog w K mg base C := ⟨B, g2, g3, g4, g6, g7, g8, g9, h10, kE, h12, kW⟩
    have FR : FnR l.prog w K mg base C R fI cc IM IR EE := ⟨h14, kD, h15, kH, h13, D15, D23, RT, R2⟩
    have HM : HasM l.prog w K mg base C := ⟨⟨fM, _, ⟨mk, iM, jM, kC⟩, hI, bM⟩, PySem.W.mg_of X G aM⟩
    exact has_law ⟨B, g1, g5, HM, has_effR FF D26, has_reachR FF FR TB DR, has_pow FF h15 HM D27, h7⟩ FL
end K02
open PySem PySem.W PyProof.Rows in
set_option maxRecDepth 100000 in
set_option maxHeartbeats 0 in
theorem PySem.Challenge.cw_endsandround_k02_whole_effects_and_first_holds : PySem.Challenge.rw_endsandround_k02_whole_effects_and_first.Holds := by
  w_on; o_law; k_head; (case hw => w_witness2)
  k_fill
  refine K02.walk_g (l := PySem.Challenge.rw_endsandround_k02_whole_effects_and_first) (n := 63) (k := 7) (x := "_law_script") rfl (by decide) rfl ⟨rfl, by decide, by decide⟩ ?F
  case F =>
    intro w mg fa h Y G hmg
    have KX := PySem.W.km_in_of Y
    have KT := PySem.W.km_tabs_of Y
    refine' K02.all_mk KX G hmg ?z_isinstance ?z_int ?z_bool ?z_list ?z_tuple ?z_len ?z_enumerate ?z_all ?z_range ?z_sorted ?z_abs ?z_repr ?z_set ?z_super ?a1 ?l1 ?c1 ?k1 ?a2 ?l2 ?c2 ?k2 ?a3 ?l3 ?c3 ?k3 ?a4 ?l4 ?c4 ?k4 ?a5 ?l5 ?c5 ?k5 ?a6 ?l6 ?c6 ?k6 ?a7 ?l7 ?c7 ?k7 ?a8 ?l8 ?c8 ?k8 ?a9 ?l9 ?c9 ?k9 ?a10 ?l10 ?c10 ?k10 ?a11 ?l11 ?c11 ?k11 ?a12 ?l12 ?c12 ?k12 ?a13 ?l13 ?c13 ?k13 ?a14 ?l14 ?c14 ?k14 ?a15 ?l15 ?c15 ?k15 ?a16 ?l16 ?c16 ?k16 ?a17 ?l17 ?c17 ?k17 ?a18 ?l18 ?c18 ?k18 ?a19 ?l19 ?c19 ?k19 ?a20 ?l20 ?c20 ?k20 ?a21 ?l21 ?c21 ?k21 ?a22 ?l22 ?c22 ?k22 ?a23 ?l23 ?c23 ?k23 ?a24 ?l24 ?c24 ?k24 ?a25 ?l25 ?c25 ?k25 ?a26 ?l26 ?c26 ?k26 ?a27 ?l27 ?c27 ?k27 ?aL ?lL ?cL ?kL ?aR ?lR ?cR ?kR ?lC ?pC ?hC ?nP ?hP ?aM ?pg ?hd ?po ?sa ?nC ?nS ?nT ?mk ?iM ?jM ?kC ?lM ?cM ?kM ?rA ?rX ?rV ?rsa ?rga ?rgg ?rno ?rI ?rtI ?rk ?rex ?rve ?rty ?rhd ?rsup ?rown ?rtp ?lI ?cI ?lcc ?lcd ?vcd ?vfi ?tops ?aIM ?aIR ?aEE ?kIM ?kIR ?te ?xcl ?xca ?xcn ?xct ?xcm
    (case z_isinstance => k_is)
    (case z_int => k_is)
    (case z_bool => k_is)
    (case z_list => k_is)
    (case z_tuple => k_is)
    (case z_len => k_is)
    (case z_enumerate => k_is)
    (case z_all => k_is)
    (case z_range => k_is)
    (case z_sorted => k_is)
    (case z_abs => k_is)
    (case z_repr => k_is)
    (case z_set => k_is)
    (case z_super => k_is)
    (case a1 => k_is)
    (case l1 => k_is)
    (case c1 => k_is)
    (case k1 => k_is)
    (case a2 => k_is)
    (case l2 => k_is)
    (case c2 => k_is)
    (case k2 => k_is)
    (case a3 => k_is)
    (case l3 => k_is)
    (case c3 => k_is)
    (case k3 => k_is)
    (case a4 => k_is)
    (case l4 => k_is)
    (case c4 => k_is)
    (case k4 => k_is)
    (case a5 => k_is)
    (case l5 => k_is)
    (case c5 => k_is)
    (case k5 => k_is)
    (case a6 => k_is)
    (case l6 => k_is)
    (case c6 => k_is)
    (case k6 => k_is)
    (case a7 => k_is)
    (case l7 => k_is)
    (case c7 => k_is)
    (case k7 => k_is)
    (case a8 => k_is)
    (case l8 => k_is)
    (case c8 => k_is)
    (case k8 => k_is)
    (case a9 => k_is)
    (case l9 => k_is)
    (case c9 => k_is)
    (case k9 => k_is)
    (case a10 => k_is)
    (case l10 => k_is)
    (case c10 => k_is)
    (case k10 => k_is)
    (case a11 => k_is)
    (case l11 => k_is)
    (case c11 => k_is)
    (case k11 => k_is)
    (case a12 => k_is)
    (case l12 => k_is)
    (case c12 => k_is)
    (case k12 => k_is)
    (case a13 => k_is)
    (case l13 => k_is)
    (case c13 => k_is)
    (case k13 => k_is)
    (case a14 => k_is)
    (case l14 => k_is)
    (case c14 => k_is)
    (case k14 => k_is)
    (case a15 => k_is)
    (case l15 => k_is)
    (case c15 => k_is)
    (case k15 => k_is)
    (case a16 => k_is)
    (case l16 => k_is)
    (case c16 => k_is)
    (case k16 => k_is)
    (case a17 => k_is)
    (case l17 => k_is)
    (case c17 => k_is)
    (case k17 => k_is)
    (case a18 => k_is)
    (case l18 => k_is)
    (case c18 => k_is)
    (case k18 => k_is)
    (case a19 => k_is)
    (case l19 => k_is)
    (case c19 => k_is)
    (case k19 => k_is)
    (case a20 => k_is)
    (case l20 => k_is)
    (case c20 => k_is)
    (case k20 => k_is)
    (case a21 => k_is)
    (case l21 => k_is)
    (case c21 => k_is)
    (case k21 => k_is)
    (case a22 => k_is)
    (case l22 => k_is)
    (case c22 => k_is)
    (case k22 => k_is)
    (case a23 => k_is)
    (case l23 => k_is)
    (case c23 => k_is)
    (case k23 => k_is)
    (case a24 => k_is)
    (case l24 => k_is)
    (case c24 => k_is)
    (case k24 => k_is)
    (case a25 => k_is)
    (case l25 => k_is)
    (case c25 => k_is)
    (case k25 => k_is)
    (case a26 => k_is)
    (case l26 => k_is)
    (case c26 => k_is)
    (case k26 => k_is)
    (case a27 => k_is)
    (case l27 => k_is)
    (case c27 => k_is)
    (case k27 => k_is)
    (case aL => k_is)
    (case lL => k_is)
    (case cL => k_is)
    (case kL => k_is)
    (case aR => k_is)
    (case lR => k_is)
    (case cR => k_is)
    (case kR => k_is)
    (case lC => k_is)
    (case pC => exact rfl)
    (case hC => kernel_rfl)
    (case nP => kernel_rfl)
    (case hP => exact KT _ (by k_mem))
    (case aM => k_is)
    (case pg => k_is)
    (case hd => k_is)
    (case po => k_is)
    (case sa => k_is)
    (case nC => k_is)
    (case nS => k_is)
    (case nT => k_is)
    (case mk => k_is)
    (case iM => k_is)
    (case jM => k_is)
    (case kC => k_is)
    (case lM => k_is)
    (case cM => k_is)
    (case kM => k_is)
    (case rA => k_is)
    (case rX => k_is)
    (case rV => kernel_rfl)
    (case rsa => k_is)
    (case rga => k_is)
    (case rgg => k_is)
    (case rno => k_is)
    (case rI => k_is)
    (case rtI => k_is)
    (case rk => k_is)
    (case rex => k_is)
    (case rve => k_is)
    (case rty => k_is)
    (case rhd => k_is)
    (case rsup => kernel_rfl)
    (case rown => k_is)
    (case rtp => kernel_rfl)
    (case lI => k_is)
    (case cI => k_is)
    (case lcc => k_is)
    (case lcd => k_is)
    (case vcd => exact rfl)
    (case vfi => kernel_rfl)
    (case tops => kernel_rfl)
    (case aIM => k_is)
    (case aIR => k_is)
    (case aEE => k_is)
    (case kIM => kernel_rfl)
    (case kIR => kernel_rfl)
    (case te => kernel_rfl)
    (case xcl => kernel_rfl)
    (case xca => k_is)
    (case xcn => k_is)
    (case xct => k_is)
    (case xcm => k_is)
#print axioms PySem.Challenge.cw_endsandround_k02_whole_effects_and_first_holds
