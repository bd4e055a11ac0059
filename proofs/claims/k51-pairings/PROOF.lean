import PyProof.Rows.All
import Wide.All
import OpenK.AllK
import Wide.FinOn
import HandS.GenList
import HandS.TupAny
import HandS.ForMost
import PySem.Challenge.RW_rimcords_k51_pairings
import KE.SortData
import HandS.IsInst
/-! k51: the mathematics: the pairings by recursion, by stages, their order -/
namespace M51
abbrev Pg := List (Int × Int)
/-- the places 1, .., n - 1 -/
def places (n : Nat) : List Nat := List.range' 1 (n - 1)
/-- what is left without the first and the k-th -/
def others (ns : List Int) (k : Nat) : List Int := (ns.take k).drop 1 ++ ns.drop (k + 1)
/-- all pairings, by recursion (f: at most so many turns) -/
def prs : Nat → List Int → List Pg
  | 0, ns => if ns.length = 0 then [[]] else []
  | f + 1, ns => if ns.length = 0 then [[]] else if ns.length % 2 = 0 then
      (places ns.length).flatMap fun k => (prs f (others ns k)).map fun fr => (ns.getD 0 0, ns.getD k 0) :: fr
    else []
theorem others_length (ns : List Int) (k : Nat) (h1 : 1 ≤ k) (h2 : k < ns.length) : (others ns k).length = ns.length - 2 := by
  unfold others
  rw [List.length_append, List.length_drop, List.length_take, List.length_drop]
  omega
theorem mem_places {n k : Nat} : k ∈ places n ↔ 1 ≤ k ∧ k < n := by
  unfold places
  rw [List.mem_range'_1]
  omega
theorem prs_fuel : ∀ (f g : Nat) (ns : List Int), ns.length ≤ 2 * f → ns.length ≤ 2 * g → prs f ns = prs g ns
  | 0, g, ns, h, _ => by
    have e : ns.length = 0 := by omega
    cases g with
    | zero => rfl
    | succ g => simp only [prs, if_pos e]
  | f + 1, g, ns, h1, h2 => by
    by_cases e : ns.length = 0
    · cases g with
      | zero => simp only [prs, if_pos e]
      | succ g => simp only [prs, if_pos e]
    · cases g with
      | zero => omega
      | succ g =>
        simp only [prs, if_neg e]
        by_cases e2 : ns.length % 2 = 0
        · simp only [if_pos e2]
          have q : ∀ k ∈ places ns.length, (prs f (others ns k)).map (fun fr => (ns.getD 0 0, ns.getD k 0) :: fr) = (prs g (others ns k)).map fun fr => (ns.getD 0 0, ns.getD k 0) :: fr := fun k hk => by
            obtain ⟨a, b⟩ := mem_places.mp hk
            have l := others_length ns k a b
            rw [prs_fuel f g _ (by omega) (by omega)]
          unfold List.flatMap
          rw [List.map_congr_left q]
        · simp only [if_neg e2]
/-- by stages -/
abbrev Ent := Pg × List Int
def ext (e : Ent) : List Ent := (places e.2.length).map fun k => (e.1 ++ [(e.2.getD 0 0, e.2.getD k 0)], others e.2 k)
def stage (l : List Ent) : List Ent := l.flatMap ext
def stages : Nat → List Ent → List Ent
  | 0, l => l
  | n + 1, l => stages n (stage l)
theorem stages_append : ∀ (n : Nat) (l m : List Ent), stages n (l ++ m) = stages n l ++ stages n m
  | 0, _, _ => rfl
  | n + 1, l, m => by
    simp only [stages, stage, List.flatMap_append]
    exact stages_append n _ _
theorem stages_flat (n : Nat) : ∀ (l : List Ent), stages n l = l.flatMap fun e => stages n [e]
  | [] => by
    rw [List.flatMap_nil]
    induction n with
    | zero => rfl
    | succ n ih => exact ih
  | e :: l => by
    rw [List.flatMap_cons, ← stages_flat n l, ← stages_append]
    rfl
theorem stages_prs : ∀ (f : Nat) (p : Pg) (ns : List Int), ns.length = 2 * f → (stages f [(p, ns)]).map (·.1) = (prs f ns).map (p ++ ·)
  | 0, p, ns, h => by
    have e : ns.length = 0 := by omega
    simp [stages, prs, e]
  | f + 1, p, ns, h => by
    have e : ¬ ns.length = 0 := by omega
    have e2 : ns.length % 2 = 0 := by omega
    show (stages f (stage [(p, ns)])).map _ = _
    rw [stages_flat]
    simp only [stage, List.flatMap_cons, List.flatMap_nil, List.append_nil, prs, if_neg e, if_pos e2, ext]
    rw [List.flatMap_map, List.map_flatMap, List.map_flatMap]
    unfold List.flatMap
    congr 1
    refine List.map_congr_left fun k hk => ?_
    obtain ⟨a, b⟩ := mem_places.mp hk
    have l := others_length ns k a b
    rw [stages_prs f _ _ (by omega), List.map_map]
    refine List.map_congr_left fun fr _ => ?_
    simp
/-! the order -/
def ltQ (p q : Int × Int) : Bool := decide (p.1 < q.1 ∨ (p.1 = q.1 ∧ p.2 < q.2))
def ltP : Pg → Pg → Bool
  | [], [] => false
  | [], _ :: _ => true
  | _ :: _, [] => false
  | p :: ps, q :: qs => if p = q then ltP ps qs else ltQ p q
theorem others_sub (ns : List Int) (k : Nat) : (others ns k).Sublist ns := by
  unfold others
  have h1 : ((ns.take k).drop 1 ++ ns.drop (k + 1)).Sublist (ns.take k ++ ns.drop k) :=
    (List.drop_sublist 1 _).append (by rw [← List.drop_drop]; exact List.drop_sublist 1 _)
  rw [List.take_append_drop] at h1
  exact h1
theorem getD_lt {ns : List Int} (h : ns.Pairwise (· < ·)) {i j : Nat} (hij : i < j) (hj : j < ns.length) : ns.getD i 0 < ns.getD j 0 := by
  have hi : i < ns.length := by omega
  rw [List.getD_eq_getElem?_getD, List.getD_eq_getElem?_getD, List.getElem?_eq_getElem hi, List.getElem?_eq_getElem hj]
  exact List.pairwise_iff_getElem.mp h i j hi hj hij
theorem prs_sorted : ∀ (f : Nat) (ns : List Int), ns.Pairwise (· < ·) → (prs f ns).Pairwise fun a b => ltP b a = false
  | 0, ns, _ => by
    unfold prs
    split
    · exact List.pairwise_singleton _ _
    · exact List.Pairwise.nil
  | f + 1, ns, h => by
    unfold prs
    split
    · exact List.pairwise_singleton _ _
    · split
      · rw [List.pairwise_flatMap]
        refine ⟨fun k hk => ?_, ?_⟩
        · rw [List.pairwise_map]
          refine (prs_sorted f _ (h.sublist (others_sub ns k))).imp fun {a b} q => ?_
          simpa [ltP] using q
        · have hs : (places ns.length).Pairwise (· < ·) := List.pairwise_lt_range'
          have hm : (places ns.length).Pairwise fun a b => (a < b ∧ b ∈ places ns.length) := by
            refine List.Pairwise.imp_of_mem (fun {a b} _ hb q => ⟨q, hb⟩) hs
          refine hm.imp fun {a b} ⟨hab, hb⟩ x hx y hy => ?_
          obtain ⟨x', _, rfl⟩ := List.mem_map.mp hx
          obtain ⟨y', _, rfl⟩ := List.mem_map.mp hy
          have lt := getD_lt h hab (mem_places.mp hb).2
          have ne : ¬ ((ns.getD 0 0, ns.getD b 0) = (ns.getD 0 0, ns.getD a 0)) := by
            intro e
            have e2 := (Prod.mk.inj e).2
            omega
          simp only [ltP, if_neg ne, ltQ]
          apply decide_eq_false
          intro z
          rcases z with z | ⟨_, z⟩
          · exact absurd z (Int.lt_irrefl _)
          · exact absurd (Int.lt_trans lt z) (Int.lt_irrefl _)
      · exact List.Pairwise.nil
theorem prs_odd (f : Nat) (ns : List Int) (h : ns.length % 2 = 1) : prs f ns = [] := by
  have e : ¬ ns.length = 0 := by omega
  have e2 : ¬ ns.length % 2 = 0 := by omega
  cases f with
  | zero => simp only [prs, if_neg e]
  | succ f => simp only [prs, if_neg e, if_neg e2]
/-- each pairing of n pins has half as many pairs -/
theorem prs_length : ∀ (f : Nat) (ns : List Int) (p : Pg), p ∈ prs f ns → 2 * p.length = ns.length
  | 0, ns, p, h => by
    unfold prs at h
    split at h
    · rename_i e
      rw [List.mem_singleton.mp h, e]; rfl
    · cases h
  | f + 1, ns, p, h => by
    unfold prs at h
    split at h
    · rename_i e
      rw [List.mem_singleton.mp h, e]; rfl
    · split at h
      · obtain ⟨k, hk, hp⟩ := List.mem_flatMap.mp h
        obtain ⟨a, b⟩ := mem_places.mp hk
        obtain ⟨q, hq, rfl⟩ := List.mem_map.mp hp
        have l := prs_length f _ q hq
        have l2 := others_length ns k a b
        rw [List.length_cons]
        omega
      · cases h
/-- how many there are -/
def dfac : Nat → Nat
  | 0 => 1
  | n + 1 => (2 * n + 1) * dfac n
theorem prs_count : ∀ (f : Nat) (ns : List Int), ns.length ≤ 2 * f → (prs f ns).length ≤ dfac f
  | 0, ns, h => by
    unfold prs dfac
    split <;> simp
  | f + 1, ns, h => by
    have pos : ∀ n, 1 ≤ dfac n := by
      intro n
      induction n with
      | zero => exact Nat.le_refl _
      | succ n ih => unfold dfac; exact Nat.le_trans ih (Nat.le_mul_of_pos_left _ (by omega))
    unfold prs
    split
    · exact pos _
    · split
      · rw [List.length_flatMap]
        have q : ∀ (l : List Nat), (∀ k ∈ l, 1 ≤ k ∧ k < ns.length) → (l.map fun k => ((prs f (others ns k)).map fun fr => ((ns.getD 0 0, ns.getD k 0) :: fr : Pg)).length).sum ≤ l.length * dfac f := by
          intro l
          induction l with
          | nil => intro _; simp
          | cons k l ih =>
            intro hl
            have h1 := hl k List.mem_cons_self
            have h2 := ih fun k' hk' => hl k' (List.mem_cons_of_mem _ hk')
            have l2 := others_length ns k h1.1 h1.2
            have h3 := prs_count f (others ns k) (by omega)
            rw [List.map_cons, List.sum_cons, List.length_cons, List.length_map, Nat.succ_mul]
            omega
        refine Nat.le_trans (q _ fun k hk => mem_places.mp hk) ?_
        have e : dfac (f + 1) = (2 * f + 1) * dfac f := rfl
        rw [e]
        unfold places
        rw [List.length_range']
        exact Nat.mul_le_mul_right _ (by omega : ns.length - 1 ≤ 2 * f + 1)
      · simp
end M51

set_option Elab.async false
set_option linter.all false
set_option maxRecDepth 100000
set_option maxHeartbeats 1000000
/-! k51: pure evaluation in a frame, over the bare heap; the state grows, generators stay -/
namespace G51
open PySem PySem.Spec PyProof.Rows L2 GenW

/-- nothing that stands is changed, generators stay -/
structure Grow (s s' : Shared) : Prop where
  gens : s'.gens = s.gens
  os : s'.os = s.os
  keep : ∀ b o, s.heap.get? b = some o → s'.heap.get? b = some o
  sz : s.heap.objs.size ≤ s'.heap.objs.size
theorem Grow.refl (s : Shared) : Grow s s := ⟨rfl, rfl, fun _ _ e => e, Nat.le_refl _⟩
theorem Grow.trans {s s1 s2 : Shared} (a : Grow s s1) (b : Grow s1 s2) : Grow s s2 :=
  ⟨b.gens.trans a.gens, b.os.trans a.os, fun x o e => b.keep x o (a.keep x o e), Nat.le_trans a.sz b.sz⟩
theorem Grow.tok (s : Shared) (t : Nat) : Grow s { s with toks := t } := ⟨rfl, rfl, fun _ _ e => e, Nat.le_refl _⟩
theorem Grow.push (s : Shared) (o : Obj) (t : Nat) : Grow s { s with heap := s.heap.push o, toks := t } :=
  ⟨rfl, rfl, fun _ _ e => Heap.get?_push_of_some _ e, by show _ ≤ (s.heap.push o).objs.size; rw [Heap.size_push]; exact Nat.le_succ _⟩

/-- where a frame's code runs -/
structure Fx where
  P : Program
  w : World
  K : PySem.W.Frag
  mg : Str → Option Value
  base : Heap
  mod : Mod K mg base
  env : Env
  kind : env.scope.kind = .function
  glob : env.globals = mainGlobals
  blt : env.builtins = builtinsNs
def Bk (base : Heap) (s : Shared) : Prop := ∀ b o, base.get? b = some o → s.heap.get? b = some o
theorem Bk.grow {base : Heap} {s s' : Shared} (h : Bk base s) (g : Grow s s') : Bk base s' := fun b o e => g.keep b o (h b o e)

/-- an expression grows to a value of which Φ holds -/
def GE (G : Fx) (A : Around) (e : Expr) (s : Shared) (Φ : Value → Shared → Prop) : Prop :=
  ∀ (Q : Value → Shared → Prop) (E : Value → Shared → Prop), (∀ v s', Grow s s' → Φ v s' → Q v s') → wpAny (model G.P G.w) A (eval e G.env) Q E s
def GT (G : Fx) (A : Around) (e : Expr) (s : Shared) (Φ : Bool → Shared → Prop) : Prop :=
  ∀ (Q : Bool → Shared → Prop) (E : Value → Shared → Prop), (∀ v s', Grow s s' → Φ v s' → Q v s') → wpAny (model G.P G.w) A (isTrue e G.env (eval e G.env)) Q E s
def GA (G : Fx) (A : Around) (es : List Expr) (pos : Pos) (s : Shared) (Φ : List Value → Shared → Prop) : Prop :=
  ∀ (Q : List Value → Shared → Prop) (E : Value → Shared → Prop), (∀ v s', Grow s s' → Φ v s' → Q v s') → wpAny (model G.P G.w) A (spliced (backTo pos (starEach es G.env))) Q E s

section
variable {G : Fx} {A : Around} {s : Shared} {m : Str → Option Value}
theorem GE.mono {e : Expr} {Φ Ψ : Value → Shared → Prop} (h : GE G A e s Φ) (q : ∀ v s', Grow s s' → Φ v s' → Ψ v s') : GE G A e s Ψ := fun Q E hq => h Q E fun v s' g p => hq v s' g (q v s' g p)
theorem ge_var {x : Str} {u : Value} {pos : Pos} (ns : s.heap.Ns G.env.locals m) (hk : G.env.kindOf x = some .local) (hm : m x = some u) (hd : (x == ("__debug__" : Str)) = false := by decide) :
    GE G A (.Name x pos) s fun v s' => v = u ∧ s' = s := fun Q E hq => wpAny_Name (wpAny_loadName_local G.kind hk ns hm (hq _ _ (.refl s) ⟨rfl, rfl⟩)) hd
theorem ge_int {i : Int} {j pos} : GE G A (.Constant (.int i) j pos) s fun v s' => (∃ t, v = .int i t) ∧ s'.heap = s.heap := fun Q E hq => wpAny_Constant_int (hq _ _ (.tok s _) ⟨⟨_, rfl⟩, rfl⟩)
/-- arguments -/
theorem ga_nil {pos : Pos} : GA G A [] pos s fun vs s' => vs = [] ∧ s' = s := fun Q E hq => Calls.spliced_nil (hq _ _ (.refl s) ⟨rfl, rfl⟩)
theorem ga_cons {e : Expr} {es : List Expr} {pos : Pos} {Φ : Value → Shared → Prop} {Ψ : List Value → Shared → Prop} (he : GE G A e s Φ) (hs : ∀ v s1, Grow s s1 → Φ v s1 → GA G A es pos s1 fun vs s2 => Ψ (v :: vs) s2)
    (hst : starEach (e :: es) G.env = (false, eval e G.env) :: starEach es G.env := by rfl) : GA G A (e :: es) pos s Ψ := fun Q E hq => by
  rw [hst]
  show wpAny _ _ (spliced ((false, eval e G.env) :: backTo pos (starEach es G.env))) Q E s
  refine Calls.spliced_cons (he _ _ fun v s1 g1 p1 => ?_)
  exact hs v s1 g1 p1 _ _ fun vs s2 g2 p2 => hq _ _ (g1.trans g2) p2
/-- f(..), f a built-in -/
theorem ge_callB {x : Str} {id : String} {e : Expr} {es : List Expr} {p pos : Pos} {Ψ : List Value → Shared → Prop} {Φ : Value → Shared → Prop} (bk : Bk G.base s) (hg : G.env.kindOf x = some .globalImplicit) (hm : G.mg x = none) (hv : bootBuiltins x = some (.builtin id))
    (ha : GA G A (e :: es) pos s Ψ) (hc : ∀ vs s1, Grow s s1 → Ψ vs s1 → ∀ (Q : Value → Shared → Prop) (E : Value → Shared → Prop), (∀ v s', Grow s1 s' → Φ v s' → Q v s') → wpAny (model G.P G.w) A (call (.builtin id) vs) Q E s1)
    (hn : x ≠ "__name__" := by decide) (hd : (x == ("__debug__" : Str)) = false := by decide)
    (he : starEach (e :: es) G.env = (false, eval e G.env) :: starEach es G.env := by rfl) (hpl : (backTo pos (starEach es G.env)).any (·.1) = false := by rfl) : GE G A (.Call (.Name x p) (e :: es) [] pos) s Φ := fun Q E hq => by
  obtain ⟨mb, h1, h2⟩ := G.mod.blt
  refine wpAny_Call_Name_kw (Calls.Name_function_global G.kind hg (Calls.loadGlobal_builtin (by rw [G.glob]; exact G.mod.glob.keeps bk) hm (by rw [G.blt]; exact h1.keeps bk) ((h2 x hn).trans hv) ?_) hd)
  exact PyProof.Rows.callWith_builtin1 (ha _ _ fun vs s1 g1 p1 => hc vs s1 g1 p1 _ _ fun v s2 g2 p2 => hq _ _ (g1.trans g2) p2) he hpl
theorem ge_callTy {x : Str} {T : String} {e : Expr} {es : List Expr} {p pos : Pos} {Ψ : List Value → Shared → Prop} {Φ : Value → Shared → Prop} (bk : Bk G.base s) (hg : G.env.kindOf x = some .globalImplicit) (hm : G.mg x = none) (hv : bootBuiltins x = some (.type T))
    (ha : GA G A (e :: es) pos s Ψ) (hc : ∀ vs s1, Grow s s1 → Ψ vs s1 → ∀ (Q : Value → Shared → Prop) (E : Value → Shared → Prop), (∀ v s', Grow s1 s' → Φ v s' → Q v s') → wpAny (model G.P G.w) A (call (.type T) vs) Q E s1)
    (hn : x ≠ "__name__" := by decide) (hd : (x == ("__debug__" : Str)) = false := by decide)
    (he : starEach (e :: es) G.env = (false, eval e G.env) :: starEach es G.env := by rfl) (hpl : (backTo pos (starEach es G.env)).any (·.1) = false := by rfl) : GE G A (.Call (.Name x p) (e :: es) [] pos) s Φ := fun Q E hq => by
  obtain ⟨mb, h1, h2⟩ := G.mod.blt
  refine wpAny_Call_Name_kw (Calls.Name_function_global G.kind hg (Calls.loadGlobal_builtin (by rw [G.glob]; exact G.mod.glob.keeps bk) hm (by rw [G.blt]; exact h1.keeps bk) ((h2 x hn).trans hv) ?_) hd)
  exact PyProof.Rows.callWith_type1 (ha _ _ fun vs s1 g1 p1 => hc vs s1 g1 p1 _ _ fun v s2 g2 p2 => hq _ _ (g1.trans g2) p2) he hpl
/-- a list (k) or a tuple of these ints -/
def IsSq (k : Bool) (h : Heap) (v : Value) (ns : List Int) : Prop := ∃ (a : Addr) (vs : List Value), v = .ref a ∧ Vals (ns.map V.int) vs ∧ ((k = true ∧ ∃ n, h.get? a = some { cls := .type "list", data := .seq vs.toArray n }) ∨ (k = false ∧ IsTup h a vs.toArray))
theorem IsSq.keeps {k : Bool} {h h' : Heap} {v : Value} {ns : List Int} (x : IsSq k h v ns) (q : ∀ b o, h.get? b = some o → h'.get? b = some o) : IsSq k h' v ns := by
  obtain ⟨a, vs, e, r, x⟩ := x
  refine ⟨a, vs, e, r, ?_⟩
  rcases x with ⟨e, n, x⟩ | ⟨e, x⟩
  · exact .inl ⟨e, n, q _ _ x⟩
  · exact .inr ⟨e, x.keeps q⟩
theorem isL_list {h : Heap} {a : Addr} {vs : List Value} {n : Nat} (x : h.get? a = some { cls := .type "list", data := .seq vs.toArray n }) : h.IsList a vs.toArray := ⟨_, x, rfl, n, rfl⟩
theorem vals_len {ns : List Int} {vs : List Value} (r : Vals (ns.map V.int) vs) : vs.length = ns.length := by rw [← r.length, List.length_map]
/-- len(x) of such -/
theorem ge_len {k : Bool} {e : Expr} {p pos : Pos} {ns : List Int} (bk : Bk G.base s) (hg : G.env.kindOf "len" = some .globalImplicit) (hm : G.mg "len" = none) (hl : ns.length ≤ 1000) (he : GE G A e s fun v s' => IsSq k s'.heap v ns)
    (h1 : starEach [e] G.env = (false, eval e G.env) :: starEach [] G.env := by rfl) : GE G A (.Call (.Name "len" p) [e] [] pos) s fun v s' => ∃ t, v = .int ns.length t := by
  refine ge_callB bk hg hm PySem.boot_len (ga_cons (Ψ := fun vs s' => ∃ v, vs = [v] ∧ IsSq k s'.heap v ns) he (fun v s1 g1 p1 => ?_) h1) (fun vs s1 g1 p1 Q E hq => ?_) (by decide) (by decide) h1
  · exact fun Q E hq => ga_nil (G := G) (A := A) _ _ fun vs s2 g2 ⟨e1, e2⟩ => hq _ _ g2 ⟨v, by rw [e1], by rw [e2]; exact p1⟩
  · obtain ⟨v, rfl, a, ws, rfl, r, x⟩ := p1
    have hlen := vals_len r
    rcases x with ⟨_, n, x⟩ | ⟨_, x⟩
    · refine Calls.call_len_list (isL_list x) (by simp only [List.size_toArray]; omega) (hq _ _ (.tok s1 _) ⟨s1.toks + 1, by rw [List.size_toArray, hlen]⟩)
    · refine len_tuple x (by simp only [List.size_toArray]; omega) (hq _ _ (.tok s1 _) ⟨s1.toks + 1, by rw [List.size_toArray, hlen]⟩)
/-- a op b -/
theorem ge_bin {op : Operator} {a b : Expr} {pos : Pos} {Φ Ψ : Value → Shared → Prop} (ha : GE G A a s Φ)
    (hb : ∀ v s1, Grow s s1 → Φ v s1 → ∃ Φ2 : Value → Shared → Prop, GE G A b s1 Φ2 ∧ ∀ u s2, Grow s1 s2 → Φ2 u s2 → ∀ (Q : Value → Shared → Prop) (E : Value → Shared → Prop), (∀ x s', Grow s2 s' → Ψ x s' → Q x s') → wpAny (model G.P G.w) A (binaryOp op v u) Q E s2) :
    GE G A (.BinOp a op b pos) s Ψ := fun Q E hq => by
  refine wpAny_BinOp (ha _ _ fun v s1 g1 p1 => ?_)
  obtain ⟨Φ2, h2, h3⟩ := hb v s1 g1 p1
  exact h2 _ _ fun u s2 g2 p2 => h3 u s2 g2 p2 _ _ fun x s3 g3 p3 => hq _ _ (g1.trans (g2.trans g3)) p3
/-- a == b, ints, as a test -/
theorem gt_eq {a b : Expr} {pos : Pos} {i j : Int} (ha : GE G A a s fun v s' => ∃ t, v = .int i t) (hb : ∀ s1, Grow s s1 → GE G A b s1 fun v s' => ∃ t, v = .int j t) (hm : behindInMarks .Eq b = false := by rfl) :
    GT G A (.Compare a [.Eq] [b] pos) s fun c s' => c = decide (i = j) := fun Q E hq => by
  refine wpAny_isTrue_Compare1 (ha _ _ fun v s1 g1 ⟨t, ev⟩ => hb s1 g1 _ _ fun u s2 g2 ⟨t2, eu⟩ => ?_) hm
  subst ev eu
  refine eq_int (wpAny_truthy_bool (hq _ _ (g1.trans g2) ?_))
  exact Bool.beq_eq_decide_eq i j
/-! slices -/
def cutI (ns : List Int) (lo hi : Option Int) : List Int := (ns.drop (HT.sIx ns.length 0 lo)).take (HT.sIx ns.length ns.length hi - HT.sIx ns.length 0 lo)
def GO (G : Fx) (A : Around) (e : Option Expr) (s : Shared) (o : Option Int) : Prop :=
  ∀ (Q : Value → Shared → Prop) (E : Value → Shared → Prop), (∀ v s', Grow s s' → IsPart v o → Q v s') → wpAny (model G.P G.w) A (evalPart e G.env) Q E s
theorem go_none : GO G A none s none := fun Q E hq => by
  rw [evalPart_none]
  exact wpAny_pure (hq _ _ (.refl s) .none)
theorem go_some {e : Expr} {i : Int} (h : GE G A e s fun v s' => ∃ t, v = .int i t) : GO G A (some e) s (some i) := fun Q E hq => by
  rw [evalPart_some]
  exact h _ _ fun v s1 g1 ⟨t, ev⟩ => hq _ _ g1 (by rw [ev]; exact .int i t)
/-- an object that did not stand at n -/
def Fr0 (n : Nat) (v : Value) : Prop := ∃ b : Addr, v = .ref b ∧ n ≤ b
theorem ge_slice {k : Bool} {e : Expr} {lo hi : Option Expr} {l u : Option Int} {p2 pos : Pos} {ns : List Int} (hl : ns.length ≤ 1000) (he : GE G A e s fun v s' => IsSq k s'.heap v ns) (h1 : ∀ s1, Grow s s1 → GO G A lo s1 l) (h2 : ∀ s1, Grow s s1 → GO G A hi s1 u) :
    GE G A (.Subscript e (.Slice lo hi none p2) pos) s fun v s' => IsSq k s'.heap v (cutI ns l u) ∧ (¬ (HT.sIx ns.length 0 l = 0 ∧ HT.sIx ns.length ns.length u = ns.length) → Fr0 s.heap.objs.size v) := fun Q E hq => by
  refine Subscript_ (he _ _ fun v s1 g1 p1 => ?_)
  refine wpAny_Slice (h1 s1 g1 _ _ fun vl s2 g2 pl => h2 s2 (g1.trans g2) _ _ fun vu s3 g3 pu => ?_)
  rw [evalPart_none]
  refine wpAny_pure ?_
  have g4 : Grow s3 { s3 with heap := s3.heap.push { cls := .type "slice", data := .fields #[vl, vu, .none] } } := .push s3 _ s3.toks
  have g34 : Grow s1 { s3 with heap := s3.heap.push { cls := .type "slice", data := .fields #[vl, vu, .none] } } := (g2.trans g3).trans g4
  obtain ⟨a, vs, rfl, r, x⟩ := p1.keeps g34.keep
  have hlen := vals_len r
  have hz : vs.length ≤ sizeLine := by rw [hlen, sizeLine_eq]; omega
  have fin : ∀ (o : Obj) (b : Bool), (b = true → o = { cls := .type "list", data := .seq ((vs.drop (HT.sIx vs.length 0 l)).take (HT.sIx vs.length vs.length u - HT.sIx vs.length 0 l)).toArray }) → (b = false → o = { cls := .type "tuple", data := .seq ((vs.drop (HT.sIx vs.length 0 l)).take (HT.sIx vs.length vs.length u - HT.sIx vs.length 0 l)).toArray }) → b = k →
      Q (.ref (s3.heap.push { cls := .type "slice", data := .fields #[vl, vu, .none] }).objs.size) { s3 with heap := (s3.heap.push { cls := .type "slice", data := .fields #[vl, vu, .none] }).push o } := fun o b e1 e2 e3 => by
    subst e3
    refine hq _ _ (g1.trans (g34.trans (.push _ o _))) ⟨⟨_, (vs.drop (HT.sIx vs.length 0 l)).take (HT.sIx vs.length vs.length u - HT.sIx vs.length 0 l), rfl, ?_, ?_⟩, fun _ => ⟨_, rfl, (g1.trans g34).sz⟩⟩
    · unfold cutI
      rw [← hlen, List.map_take, List.map_drop]
      exact (r.drop _).take _
    · cases b with
      | true =>
        rw [e1 rfl]
        exact .inl ⟨rfl, 0, Heap.get?_push_size _ rfl⟩
      | false =>
        rw [e2 rfl]
        exact .inr ⟨rfl, IsTup.new _ _⟩
  rcases x with ⟨ek, n, x⟩ | ⟨ek, x⟩
  · refine tail_any (ops := [.ref s3.heap.objs.size, .ref a]) (isL_list x).typeIs slot_list_getitem.lookup ?_ (by with_unfolding_all rfl)
    refine wpAny_getItem_list_slice (isL_list x) (Heap.IsSliceOf.new ..) pl pu .none (by simp) ?_ (by rw [List.size_toArray]; exact hz)
    rw [slicePick_cut]
    exact fin _ true (fun _ => rfl) (fun z => by cases z) ek.symm
  · refine tail_any (ops := [.ref s3.heap.objs.size, .ref a]) x.typeIs PyProof.Rows.slot_tuple_getitem.lookup ?_ (by with_unfolding_all rfl)
    have hsz : vs.toArray.size = vs.length := by simp
    by_cases hw : HT.sIx vs.length 0 l = 0 ∧ HT.sIx vs.length vs.length u = vs.length
    · refine getItem_tuple_whole x (Heap.IsSliceOf.new ..) pl pu (by rw [hsz]; exact hw) ?_
      refine hq _ _ (g1.trans g34) ⟨⟨a, vs, rfl, ?_, .inr ⟨ek, x⟩⟩, fun z => (z (by rw [← hlen]; exact hw)).elim⟩
      unfold cutI
      rw [← hlen, hw.1, hw.2, List.drop_zero, Nat.sub_zero, hlen, List.take_length]
      exact r
    · refine HT.getItem_tuple_cut x (Heap.IsSliceOf.new ..) pl pu (by rw [hsz]; exact hw) ?_ (by rw [hsz]; exact hz)
      rw [hsz]
      exact fin _ false (fun z => by cases z) (fun _ => rfl) ek.symm
/-- a + b, both lists or both tuples -/
theorem add_sq {k : Bool} {v u : Value} {ns ms : List Int} (hl : ns.length + ms.length ≤ 1000) (hv : IsSq k s.heap v ns) (hu : IsSq k s.heap u ms) (Q : Value → Shared → Prop) (E : Value → Shared → Prop)
    (hq : ∀ x s', Grow s s' → IsSq k s'.heap x (ns ++ ms) → (x = v ∨ x = u ∨ Fr0 s.heap.objs.size x) → Q x s') : wpAny (model G.P G.w) A (binaryOp .Add v u) Q E s := by
  obtain ⟨a, vs, rfl, r, x⟩ := hv
  obtain ⟨b, ws, rfl, r2, x2⟩ := hu
  have l1 := vals_len r
  have l2 := vals_len r2
  have hz : vs.length + ws.length ≤ sizeLine := by rw [l1, l2, sizeLine_eq]; omega
  have rr : Vals ((ns ++ ms).map V.int) (vs ++ ws) := by rw [List.map_append]; exact r.append r2
  rcases x with ⟨ek, n, x⟩ | ⟨ek, x⟩
  · rcases x2 with ⟨_, n2, x2⟩ | ⟨ek2, _⟩
    · refine PySem.P.add_list x x2 ?_ (by rw [List.size_toArray, List.size_toArray]; exact hz)
      have ea : vs.toArray ++ ws.toArray = (vs ++ ws).toArray := by simp
      rw [ea]
      exact hq _ _ (.push s _ _) ⟨_, _, rfl, rr, .inl ⟨ek, 0, Heap.get?_push_size _ rfl⟩⟩ (.inr (.inr ⟨_, rfl, Nat.le_refl _⟩))
    · rw [ek] at ek2; cases ek2
  · rcases x2 with ⟨ek2, _⟩ | ⟨_, x2⟩
    · rw [ek] at ek2; cases ek2
    · by_cases e : vs = []
      · subst e
        refine cat_tup0 x x2 (hq _ _ (.refl s) ⟨b, ws, rfl, ?_, .inr ⟨ek, x2⟩⟩ (.inr (.inl rfl)))
        simpa using rr
      · refine HT.cat_tup x x2 e (fun z => hq _ _ (.refl s) ⟨a, vs, rfl, ?_, .inr ⟨ek, x⟩⟩ (.inl rfl)) (fun z => hq _ _ (.push s _ _) ⟨_, _, rfl, rr, .inr ⟨ek, IsTup.new _ _⟩⟩ (.inr (.inr ⟨_, rfl, Nat.le_refl _⟩))) hz
        rw [z, List.append_nil] at rr
        exact rr
/-- x[i] -/
theorem ge_ix {k : Bool} {a b : Expr} {pos : Pos} {ns : List Int} {i : Nat} {x : Int} (hl : ns.length ≤ 1000) (hi : ns[i]? = some x) (ha : GE G A a s fun v s' => IsSq k s'.heap v ns) (hb : ∀ s1, Grow s s1 → GE G A b s1 fun v s' => ∃ t, v = .int i t)
    (hs : PlainIx b := by exact fun _ _ => rfl) : GE G A (.Subscript a b pos) s fun v s' => ∃ t, v = .int x t := fun Q E hq => by
  refine Subscript_ (ha _ _ fun v s1 g1 p1 => hb s1 g1 _ _ fun u s2 g2 ⟨t, eu⟩ => ?_)
  subst eu
  obtain ⟨p, vs, rfl, r, y⟩ := p1.keeps g2.keep
  have hlen := vals_len r
  have hi' : i < ns.length := (List.getElem?_eq_some_iff.mp hi).1
  have hm : (ns.map V.int)[i]? = some (.int x) := by rw [List.getElem?_map, hi]; rfl
  obtain ⟨w', ew, rw'⟩ := r.get hm
  obtain ⟨t', rfl⟩ := rw'
  have fin : Q (.int x t') s2 := hq _ _ (g1.trans g2) ⟨t', rfl⟩
  rcases y with ⟨_, n, y⟩ | ⟨_, y⟩
  · exact item_listR (isL_list y) (Int.natCast_nonneg i) (by omega) (by simpa using ew) fin (hs _ _)
  · refine subscriptTail_builtinR (x := .int x t') y.typeIs slot_tuple_getitem.lookup
      (getItem_tuple (j := i) (Q := fun r s' => r = .int x t' ∧ Q r s') y (by omega) (by omega) ?_ (by simpa using ew) ⟨rfl, fin⟩) (hs _ _)
    rw [List.size_toArray, seqIndex_of (Int.natCast_nonneg i) (by omega)]
    simp
/-- (..) -/
theorem ge_tup {es : List Expr} {x1} {pos : Pos} {Ψ : List Value → Shared → Prop} {Φ : Value → Shared → Prop} (ha : GA G A es pos s Ψ)
    (hf : ∀ vs s1, Grow s s1 → Ψ vs s1 → vs.length ≤ 1000 ∧ ∀ s2, Grow s1 s2 → IsTup s2.heap s1.heap.objs.size vs.toArray → Φ (.ref s1.heap.objs.size) s2) : GE G A (.Tuple es x1 pos) s Φ := fun Q E hq => by
  refine wpAny_Tuple_spliced (ha _ _ fun vs s1 g1 p1 => ?_)
  obtain ⟨hz, hf⟩ := hf vs s1 g1 p1
  refine ⟨by rw [sizeLine_eq]; omega, hq _ _ (g1.trans (.push s1 _ _)) (hf _ (.push s1 _ _) (IsTup.new _ _))⟩
end
end G51

set_option Elab.async false
set_option linter.all false
set_option maxRecDepth 100000
set_option maxHeartbeats 1000000
/-! k51: if and for with yields inside, in a generator's run -/
namespace G51
open PySem PySem.Spec PyProof.Rows L2 GenW

section
variable {M : Model} {A : Around} {R : GenEnd} {Y : Protocol} {n : Nat} {s₀ : Shared} {c : Code} {fs : List Frame} {s : Shared} {env : Env}
  {K : Flow → Sem PySem.Fin} {J : Value → Sem PySem.Fin} {gd : Bool → Bool} {lv : List Value → List Value}
theorem seg_If {test : Expr} {body orelse : List Stmt} {pos : Pos}
    (h : wpAny M (A.over c fs) (isTrue test env (eval test env)) (fun b s' => if b = true then Seg M A R Y n s₀ c ((execs body env).wrap K J gd lv) fs s' else Seg M A R Y n s₀ c ((execs orelse env).wrap K J gd lv) fs s') (fun _ _ => False) s) :
    Seg M A R Y n s₀ c ((exec (.If test body orelse pos) env).wrap K J gd lv) fs s := by
  show Seg M A R Y n s₀ c (.at pos fun _ => (((isTrue test env (eval test env)) >>= fun b => if b = true then execs body env else execs orelse env)).wrap K J gd lv) fs s
  refine seg_at ?_
  refine seg_bind_wrap (wpAny_mono h (fun b s' hb => ?_) fun _ _ x => x.elim)
  cases b with
  | true => rw [if_pos rfl] at hb; exact hb
  | false => rw [if_neg Bool.false_ne_true] at hb; exact hb
theorem seg_For {target iter : Expr} {body : List Stmt} {pos : Pos} (hs : ∀ x, foldedSetIterable iter env x = pure x)
    (h : wpAny M (A.over c fs) (eval iter env) (fun x s1 => wpAny M (A.over c fs) (pyIter x) (fun it s2 => ∀ p, Seg M A R Y n s₀ (.forLoop target it body [] env) (M.den (.forLoop target it body [] env))
      (.ret (fun r => ((match r with | .ok f => (.pure f : Sem Flow) | .error e => .raise e).onRaise fun (x : Value) => do
        if (← field x 1) == Value.none then unsupported "frame.own-activation:exception-without-traceback"
        setFlight x env.frame).wrap K J gd lv) none (gd false) (lv []) c p [] :: fs) s2) (fun _ _ => False) s1) (fun _ _ => False) s) :
    Seg M A R Y n s₀ c ((exec (.For target iter body [] pos) env).wrap K J gd lv) fs s := by
  rw [exec_For]
  refine seg_at ?_
  show Seg M A R Y n s₀ c ((eval iter env >>= fun x => (foldedSetIterable iter env x >>= fun x => (standAt iter.pos >>= fun _ => (holding [x] (pyIter x) >>= fun it => runOwn (.forLoop target it body [] env) env)))).wrap K J gd lv) fs s
  refine seg_bind_wrap (wpAny_mono h (fun x s1 h1 => ?_) fun _ _ x => x.elim)
  refine seg_bind_wrap (wpAny_of_eq (hs x) ?_)
  refine seg_bind_wrap (wpAny_standAt ?_)
  refine seg_bind_wrap (wpAny_holding (wpAny_mono h1 (fun it s2 h2 => ?_) fun _ _ x => x.elim))
  exact seg_call h2
end

section
variable {prog : Program} {w : World} {A : Around} {R : GenEnd} {Y : Protocol} {n : Nat} {s₀ : Shared} {fs : List Frame} {s : Shared} {env : Env}
/-- what stands behind a loop's call -/
def backK (env : Env) (K : Flow → Sem PySem.Fin) (J : Value → Sem PySem.Fin) (gd : Bool → Bool) (lv : List Value → List Value) : Result → Sem PySem.Fin := fun r =>
  ((match r with | .ok f => (.pure f : Sem Flow) | .error e => .raise e).onRaise fun (x : Value) => do
        if (← field x 1) == Value.none then unsupported "frame.own-activation:exception-without-traceback"
        setFlight x env.frame).wrap K J gd lv
/-- one turn -/
theorem seg_forLoop {target : Expr} {it : Value} {body : List Stmt} {K : Flow → Sem PySem.Fin} {J : Value → Sem PySem.Fin} {gd : Bool → Bool} {lv : List Value → List Value} {l : List Value} {gg : Bool} {c : Code} {p : Pos}
    (h : wpAny (model prog w) (A.over (.forLoop target it body [] env) (.ret (backK env K J gd lv) none gg l c p [] :: fs)) (pyNext it) (fun o s1 => match o with
      | none => Seg (model prog w) A R Y n s₀ c (K .next) fs s1
      | some v => wpAny (model prog w) (A.over (.forLoop target it body [] env) (.ret (backK env K J gd lv) none gg l c p [] :: fs)) (letOwnedTupleGo target it v) (fun _ s2 =>
          wpAny (model prog w) (A.over (.forLoop target it body [] env) (.ret (backK env K J gd lv) none gg l c p [] :: fs)) (assign target env v) (fun _ s3 =>
            ∀ (J' : Value → Sem PySem.Fin), Seg (model prog w) A R Y n s₀ (.forLoop target it body [] env) ((execs body env).wrap (fun f => match f with
                | .next | .cont => .pure (.again (.forLoop target it body [] env))
                | .brk => .pure (.done .next)
                | .ret v => .pure (.done (.ret v))) J' id id) (.ret (backK env K J gd lv) none gg l c p [] :: fs) s3) (fun _ _ => False) s2) (fun _ _ => False) s1) (fun _ _ => False) s) :
    Seg (model prog w) A R Y n s₀ (.forLoop target it body [] env) ((model prog w).den (.forLoop target it body [] env)) (.ret (backK env K J gd lv) none gg l c p [] :: fs) s := by
  show Seg _ A R Y n s₀ _ ((forTurn target it body [] env).onRaise (fun x => do noteFrame x env; theTreesLotGoes x)) _ s
  unfold forTurn
  rw [Sem.onRaise_eq_wrap]
  refine seg_bind_wrap (wpAny_standAt ?_)
  refine seg_bind_wrap (wpAny_onRaise (wpAny_mono h (fun o s1 h1 => ?_) fun _ _ x => x.elim))
  cases o with
  | none =>
    show Seg _ A R Y n s₀ _ (.pure (.again (.block [] env))) _ s1
    refine seg_again rfl ?_
    show Seg _ A R Y n s₀ _ (.pure (.done .next)) _ s1
    exact seg_leaf (.ok .next) h1
  | some v =>
    refine seg_bind_wrap (wpAny_mono h1 (fun _ s2 h2 => ?_) fun _ _ x => x.elim)
    refine seg_bind_wrap (wpAny_mono h2 (fun _ s3 h3 => ?_) fun _ _ x => x.elim)
    have h4 := h3 (fun e => (do noteFrame e env; theTreesLotGoes e : Sem Unit).wrap (fun _ => .raise e) .raise id id)
    rw [Sem.bind_eq_wrap', Sem.wrap_wrap]
    rw [Sem.wrap_congr (execs body env) _ _ (K' := fun f => match f with
            | .next | .cont => .pure (.again (.forLoop target it body [] env))
            | .brk => .pure (.done .next)
            | .ret v => .pure (.done (.ret v))) (H' := (fun e => (do noteFrame e env; theTreesLotGoes e : Sem Unit).wrap (fun _ => .raise e) .raise id id))
        (fun f => by cases f <;> rfl)
        (fun e => by first | exact Sem.bind_eq_wrap _ _ | (show (do noteFrame e env; theTreesLotGoes e : Sem Unit).bind (fun _ => .raise e) = _; rw [Sem.bind_eq_wrap]))]
    exact h4
end
end G51

set_option Elab.async false
set_option linter.all false
set_option maxRecDepth 100000
set_option maxHeartbeats 1000000
/-! k51: what a generator of pairings promises -/
namespace G51
open PySem PySem.Spec PyProof.Rows L2 GenW M51

/-- a pair; a pairing -/
def IsPr (lo : Nat) (h : Heap) (p : Int × Int) (v : Value) : Prop := ∃ (a : Addr) (t u : Tok), v = .ref a ∧ lo ≤ a ∧ IsTup h a #[.int p.1 t, .int p.2 u]
def IsPg (lo : Nat) (h : Heap) (v : Value) (ps : Pg) : Prop := ∃ (a : Addr) (vs : List Value), v = .ref a ∧ lo ≤ a ∧ Paired (IsPr lo h) ps vs ∧ IsTup h a vs.toArray
/-- the generator's frame C, its object a, its number g: what a run of it may change -/
structure Chg (C a : Addr) (g : Nat) (s s1 : Shared) : Prop where
  os : s1.os = s.os
  bare : AllBare s.gens → AllBare s1.gens
  old : ∀ b o, (b < C ∨ b = a) → s.heap.get? b = some o → s1.heap.get? b = some o
  seq : ∀ b o, s.heap.get? b = some o → (∃ its n, o.data = .seq its n) → s1.heap.get? b = some o
  gens : ∀ i, i < g → s1.gens[i]? = s.gens[i]?
  gsz : s.gens.size ≤ s1.gens.size
theorem Chg.refl (C a : Addr) (g : Nat) (s : Shared) : Chg C a g s s := ⟨rfl, fun x => x, fun _ _ _ e => e, fun _ _ e _ => e, fun _ _ => rfl, Nat.le_refl _⟩
theorem Chg.trans {C a : Addr} {g : Nat} {s s1 s2 : Shared} (x : Chg C a g s s1) (y : Chg C a g s1 s2) : Chg C a g s s2 where
  os := y.os.trans x.os
  bare := fun b => y.bare (x.bare b)
  old := fun b o h e => y.old b o h (x.old b o h e)
  seq := fun b o e h => y.seq b o (x.seq b o e h) h
  gens := fun i h => (y.gens i h).trans (x.gens i h)
  gsz := Nat.le_trans x.gsz y.gsz
theorem Grow.chg {C a : Addr} {g : Nat} {s s1 : Shared} (x : Grow s s1) : Chg C a g s s1 :=
  ⟨x.os, fun b => by rw [x.gens]; exact b, fun b o _ e => x.keep b o e, fun b o e _ => x.keep b o e, fun _ _ => by rw [x.gens], by rw [x.gens]; exact Nat.le_refl _⟩
/-- a younger generator's change is one of ours -/
theorem Chg.up {C a C' a' : Addr} {g g' : Nat} {s s1 : Shared} (x : Chg C' a' g' s s1) (h1 : C ≤ C') (h2 : a < C') (h3 : g ≤ g') : Chg C a g s s1 :=
  ⟨x.os, x.bare, fun b o h e => x.old b o (.inl (by rcases h with h | h; exact Nat.lt_of_lt_of_le h h1; rw [h]; exact h2)) e, x.seq, fun i h => x.gens i (Nat.lt_of_lt_of_le h h3), x.gsz⟩
/-- what the consumer may not change -/
structure Own (C : Addr) (g : Nat) (s s1 : Shared) : Prop where
  new : ∀ b o, C ≤ b → s.heap.get? b = some o → s1.heap.get? b = some o
  gens : ∀ i, g < i → i < s.gens.size → s1.gens[i]? = s.gens[i]?
  gsz : s.gens.size ≤ s1.gens.size
theorem Own.refl (C : Addr) (g : Nat) (s : Shared) : Own C g s s := ⟨fun _ _ _ e => e, fun _ _ _ => rfl, Nat.le_refl _⟩
theorem Own.trans {C : Addr} {g : Nat} {s s1 s2 : Shared} (x : Own C g s s1) (y : Own C g s1 s2) : Own C g s s2 :=
  ⟨fun b o h e => y.new b o h (x.new b o h e), fun i h l => (y.gens i h (Nat.lt_of_lt_of_le l x.gsz)).trans (x.gens i h l), Nat.le_trans x.gsz y.gsz⟩
theorem Own.up {C C' : Addr} {g g' : Nat} {s s1 : Shared} (x : Own C g s s1) (h1 : C ≤ C') (h3 : g ≤ g') : Own C' g' s s1 :=
  ⟨fun b o h e => x.new b o (Nat.le_trans h1 h) e, fun i h l => x.gens i (Nat.lt_of_le_of_lt h3 h) l, x.gsz⟩
theorem Grow.own {C : Addr} {g : Nat} {s s1 : Shared} (x : Grow s s1) : Own C g s s1 :=
  ⟨fun b o _ e => x.keep b o e, fun _ _ _ => by rw [x.gens], by rw [x.gens]; exact Nat.le_refl _⟩
theorem setGen_ne {s : Shared} {g i : Nat} {x : GenState} (h : i ≠ g) : (s.setGen g x).gens[i]? = s.gens[i]? := by
  show (s.gens.setIfInBounds g x)[i]? = _
  rw [Array.getElem?_setIfInBounds_ne (Ne.symm h)]
theorem Own.setGen (C : Addr) (g : Nat) (s : Shared) (x : GenState) : Own C g s (s.setGen g x) :=
  ⟨fun _ _ _ e => e, fun i h _ => setGen_ne (Nat.ne_of_gt h), by rw [setGen_size]; exact Nat.le_refl _⟩
theorem Own.unset {C : Addr} {g : Nat} {s s1 : Shared} {x : GenState} (h : Own C g (s.setGen g x) s1) : Own C g s s1 :=
  ⟨h.new, fun i q l => (h.gens i q (by rw [setGen_size]; exact l)).trans (setGen_ne (Nat.ne_of_gt q)), by have := h.gsz; rw [setGen_size] at this; exact this⟩

section
variable (P : Program) (w : World) (base : Heap) (A : Around) (k : Bool) (pv : Value) (ns : List Int) (C a : Addr) (g : Nat) (L : List Pg)
/-- handing out the next of L -/
def YP : Protocol := fun n s₀ v s1 kap => ∃ i d, i + 1 + n = L.length ∧ L[i]? = some d ∧ IsPg C s1.heap v d ∧ Chg C a g s₀ s1 ∧
  ∀ s2, Own C g s1 s2 → Bk base s2 → IsSq k s2.heap pv ns → kap (.send .none) s2
def RP : GenEnd := fun n s₀ r s₁ => ((r = .ok (.ret .none) ∨ r = .ok .next) ∧ (n = 0 ∧ Chg C a g s₀ s₁)) ∨ ∃ e, r = .error e ∧ (fun (_ : Value) (_ : Shared) => False) e s₁
/-- a generator, j items of L are out -/
structure GenOk (j : Nat) (s : Shared) : Prop where
  gen : s.heap.IsGen a g
  size : C ≤ a
  go : ∃ gs, s.gens[g]? = some gs ∧ ∀ s2, Own C g s s2 → Bk base s2 → IsSq k s2.heap pv ns → gs.Goes (model P w) A.in1 (RP C a g) (YP base k pv ns C a g L) (L.length - j) (.send .none) s2
end
section
variable {P : Program} {w : World} {base : Heap} {A : Around} {k : Bool} {pv : Value} {ns : List Int} {C a : Addr} {g : Nat} {L : List Pg} {j : Nat} {s : Shared}
theorem GenOk.own {s1 : Shared} (x : GenOk P w base A k pv ns C a g L j s) (h : Own C g s s1) (hg : s1.gens[g]? = s.gens[g]?) : GenOk P w base A k pv ns C a g L j s1 := by
  obtain ⟨⟨o, nm, qn, ho, r⟩, hs, gs, h1, h2⟩ := x
  exact ⟨⟨o, nm, qn, h.new a o hs ho, r⟩, hs, gs, hg.trans h1, fun s2 q => h2 s2 (h.trans q)⟩
theorem IsSq.chg {s1 : Shared} (x : IsSq k s.heap pv ns) (c : Chg C a g s s1) : IsSq k s1.heap pv ns := by
  obtain ⟨b, vs, e, r, x⟩ := x
  refine ⟨b, vs, e, r, ?_⟩
  rcases x with ⟨e, n, x⟩ | ⟨e, o, ho, hc, n, hd⟩
  · exact .inl ⟨e, n, c.seq _ _ x ⟨_, _, rfl⟩⟩
  · exact .inr ⟨e, o, c.seq _ _ ho ⟨_, _, hd⟩, hc, n, hd⟩
theorem Bk.chg {s1 : Shared} (x : Bk base s) (hb : base.objs.size ≤ C) (c : Chg C a g s s1) : Bk base s1 := fun b o e => c.old b o (.inl (Nat.lt_of_lt_of_le (Heap.lt_size e) hb)) (x b o e)
theorem IsTup.chg {s1 : Shared} {b : Addr} {vs : Array Value} (x : IsTup s.heap b vs) (c : Chg C a g s s1) : IsTup s1.heap b vs := by
  obtain ⟨o, ho, hc, n, hd⟩ := x
  exact ⟨o, c.seq _ _ ho ⟨_, _, hd⟩, hc, n, hd⟩
/-- next(generator) -/
theorem GenOk.next (x : GenOk P w base A k pv ns C a g L j s) (hj : j ≤ L.length) (hb : base.objs.size ≤ C) (hh : A.handled = none) (hl : s.heap.NoLimit) (hroom : A.depth < recursionLimit) (bk : Bk base s) (sq : IsSq k s.heap pv ns)
    {Q : Option Value → Shared → Prop} {E : Value → Shared → Prop}
    (hi : ∀ v d s1, L[j]? = some d → IsPg C s1.heap v d → Chg C a g s s1 → GenOk P w base A k pv ns C a g L (j + 1) s1 → Q (some v) s1)
    (hd : ∀ s1, j = L.length → Chg C a g s s1 → Q none s1) : wpAny (model P w) A (pyNext (.ref a)) Q E s := by
  obtain ⟨hgen, hs, gs, hgs, hgo⟩ := id x
  have hgl : g < s.gens.size := (Array.getElem?_eq_some_iff.mp hgs).1
  have own0 : Own C g s (s.setGen g .running) := .setGen C g s _
  have chg0 : Chg C a g s (s.setGen g .running) := ⟨rfl, fun b => allBare_setGen b rfl, fun _ _ _ e => e, fun _ _ e _ => e, fun i h => setGen_ne (Nat.ne_of_lt h), by rw [setGen_size]; exact Nat.le_refl _⟩
  have chgE : ∀ (s1 : Shared) (y : GenState), y.bare = true → Chg C a g s1 (s1.setGen g y) := fun s1 y hy => ⟨rfl, fun b => allBare_setGen b hy, fun _ _ _ e => e, fun _ _ e _ => e, fun i h => setGen_ne (Nat.ne_of_lt h), by rw [setGen_size]; exact Nat.le_refl _⟩
  refine next_genG (F := fun n s₀ s₁ => n = 0 ∧ Chg C a g s₀ s₁) (Er := fun _ _ => False) hh hl hroom hgen hgs (hgo _ own0 bk sq) (fun v s₁ gs' hbare hv => ?_) (fun s₁ hp h' hk => ?_) fun e s₁ he => he.elim
  · obtain ⟨i, d, hi1, hi2, hpg, hc, hkap⟩ := hv
    have bk1 : Bk base s₁ := Bk.chg (s := s.setGen g .running) bk hb hc
    have sq1 : IsSq k s₁.heap pv ns := IsSq.chg (s := s.setGen g .running) sq hc
    rcases Nat.lt_or_ge j L.length with hlt | hge
    · obtain ⟨m, hm⟩ : ∃ m, L.length - j = m + 1 := ⟨L.length - j - 1, by omega⟩
      rw [hm] at hkap hi1
      have hij : i = j := by omega
      subst hij
      have gsz1 : g < s₁.gens.size := Nat.lt_of_lt_of_le (by rw [setGen_size]; exact hgl) hc.gsz
      refine hi v d _ hi2 hpg (chg0.trans (hc.trans (chgE _ _ hbare))) ⟨?_, hs, gs', setGen_at gsz1, fun s2 h2 b2 q2 => ?_⟩
      · obtain ⟨o, nm, qn, ho, r⟩ := hgen
        exact ⟨o, nm, qn, hc.old a o (.inr rfl) ho, r⟩
      · have e : L.length - (i + 1) = m := by omega
        rw [e]
        exact hkap s2 (Own.unset h2) b2 q2
    · have e0 : L.length - j = 0 := by omega
      rw [e0] at hkap
      exact (hkap s₁ (Own.refl _ _ _) bk1 sq1).elim
  · obtain ⟨hn, hc⟩ := hp
    refine hd _ (by omega) (chg0.trans (hc.trans ((chgE s₁ .finished rfl).trans ?_)))
    exact ⟨rfl, fun b => b, fun b o _ e => hk b o e, fun b o e _ => hk b o e, fun _ _ => rfl, Nat.le_refl _⟩
end
end G51

set_option Elab.async false
set_option linter.all false
set_option maxRecDepth 100000
set_option maxHeartbeats 1000000
/-! k51: the generator's body -/
namespace G51
open PySem PySem.Spec PyProof.Rows L2 GenW M51

def topS (i : Nat) : Stmt := PySem.Challenge.pw_rimcords_k51_pairings.main.body.getD i (.Pass ⟨0, 0, 0, 0⟩)
abbrev sPairs : Stmt := topS 1

/-- enough room for n more generators, one in another -/
structure Rm (n : Nat) (A : Around) : Prop where
  hd : A.handled = none
  dp : A.depth + 2 * n + 4 < recursionLimit
structure Rmd (n : Nat) (A : Around) : Prop where
  hd : A.handled = none
  dp : A.depth + 2 * n + 3 < recursionLimit
theorem Rm.in1 {n : Nat} {A : Around} (h : Rm n A) : Rm n A.in1 := ⟨h.hd, h.dp⟩
theorem Rm.deeper {n : Nat} {A : Around} (h : Rm (n + 1) A) (env : Env) : Rm n (A.deeper env) := ⟨h.hd, by have := h.dp; show A.depth + 1 + 2 * n + 4 < _; omega⟩
/-- for the own frame two more are kept -/
theorem Rm.deeper' {n : Nat} {A : Around} (h : Rm n A) (env : Env) : Rmd n (A.deeper env) := ⟨h.hd, by have := h.dp; show A.depth + 1 + 2 * n + 3 < _; omega⟩
theorem Rm.mono {n m : Nat} {A : Around} (h : Rm n A) (l : m ≤ n) : Rm m A := ⟨h.hd, by have := h.dp; omega⟩

theorem IsTup.grow {s s' : Shared} {a : Addr} {vs : Array Value} (x : IsTup s.heap a vs) (g : Grow s s') : IsTup s'.heap a vs := x.keeps g.keep
section
variable {h h' : Heap} {lo : Nat}
theorem IsPr.keeps {p : Int × Int} {v : Value} (x : IsPr lo h p v) (k : ∀ b o, h.get? b = some o → h'.get? b = some o) : IsPr lo h' p v := by
  obtain ⟨a, t, u, e, l, x⟩ := x
  exact ⟨a, t, u, e, l, x.keeps k⟩
theorem paired_mono {α β : Type} {R S : α → β → Prop} (q : ∀ a b, R a b → S a b) : ∀ {xs : List α} {ys : List β}, Paired R xs ys → Paired S xs ys
  | _, _, .nil => .nil
  | _, _, .cons r t => .cons (q _ _ r) (paired_mono q t)
theorem paired_len {α β : Type} {R : α → β → Prop} : ∀ {xs : List α} {ys : List β}, Paired R xs ys → xs.length = ys.length
  | _, _, .nil => rfl
  | _, _, .cons r t => by rw [List.length_cons, List.length_cons, paired_len t]
theorem IsPg.keeps {ps : Pg} {v : Value} (x : IsPg lo h v ps) (k : ∀ b o, h.get? b = some o → h'.get? b = some o) : IsPg lo h' v ps := by
  obtain ⟨a, vs, e, l, r, x⟩ := x
  exact ⟨a, vs, e, l, paired_mono (fun _ _ z => IsPr.keeps z k) r, x.keeps k⟩
theorem IsPg.low {lo' : Nat} {ps : Pg} {v : Value} (x : IsPg lo h v ps) (q : lo' ≤ lo) : IsPg lo' h v ps := by
  obtain ⟨a, vs, e, l, r, x⟩ := x
  exact ⟨a, vs, e, Nat.le_trans q l, paired_mono (fun _ _ ⟨a, t, u, e, l, x⟩ => ⟨a, t, u, e, Nat.le_trans q l, x⟩) r, x⟩
end
section
variable {G : Fx} {A : Around} {s : Shared} {m : Str → Option Value}
/-- ((pins[0], pins[place]),) + further -/
theorem ge_yexp {k : Bool} {pv fv : Value} {ns : List Int} {i : Nat} {t : Tok} {x y : Int} {ps : Pg} {lo : Nat} {p0 p1 p2 p3 p4 p5 p6 p7 p8 p9 : Pos} {j0 f1 f2 : Nat} (nm : s.heap.Ns G.env.locals m) (h1 : m "pins" = some pv) (h2 : m "place" = some (.int i t)) (h3 : m "further" = some fv)
    (k1 : G.env.kindOf "pins" = some .local) (k2 : G.env.kindOf "place" = some .local) (k3 : G.env.kindOf "further" = some .local) (hl : ns.length ≤ 1000) (hz : ps.length ≤ 900) (hsq : IsSq k s.heap pv ns) (hx : ns[0]? = some x) (hy : ns[i]? = some y) (hf : IsPg lo s.heap fv ps) (hlo : lo ≤ s.heap.objs.size) {e : Expr}
    (he : e = .BinOp (.Tuple [.Tuple [.Subscript (.Name "pins" p0) (.Constant (.int 0) j0 p1) p2, .Subscript (.Name "pins" p3) (.Name "place" p4) p5] f1 p6] f2 p7) .Add (.Name "further" p8) p9) :
    GE G A e s fun v s' => IsPg lo s'.heap v ((x, y) :: ps) := by
  subst he
  refine ge_bin (Φ := fun v s' => IsPg lo s'.heap v [(x, y)]) (ge_tup (Ψ := fun vs s' => ∃ v, vs = [v] ∧ IsPr lo s'.heap (x, y) v) (ga_cons (Φ := fun v s' => IsPr lo s'.heap (x, y) v) (ge_tup (Ψ := fun vs s' => ∃ t u, vs = [.int x t, .int y u])
    (ga_cons (Φ := fun v s' => ∃ t, v = .int x t) (ge_ix (k := k) (i := 0) hl hx ((ge_var nm k1 h1).mono fun v s' g ⟨e1, e2⟩ => by rw [e1, e2]; exact hsq) fun s1 g1 => ge_int.mono fun v s' g ⟨e1, e2⟩ => e1) fun v s1 g1 ⟨t1, e1⟩ =>
      ga_cons (Φ := fun v s' => ∃ t, v = .int y t) (ge_ix (k := k) (i := i) hl hy ((ge_var (nm.keeps g1.keep) k1 h1).mono fun v s' g ⟨e1, e2⟩ => by rw [e1, e2]; exact hsq.keeps g1.keep) fun s2 g2 => (ge_var (nm.keeps (g1.trans g2).keep) k2 h2).mono fun v s' g ⟨e1, e2⟩ => ⟨t, e1⟩)
        fun u s2 g2 ⟨t2, e2⟩ => fun Q E hq => ga_nil (G := G) (A := A) _ _ fun vs s3 g3 ⟨e3, e4⟩ => hq _ _ g3 ⟨t1, t2, by rw [e1, e2, e3]⟩)
    fun vs s1 g1 ⟨t1, t2, e1⟩ => ⟨by rw [e1]; show 2 ≤ 1000; decide, fun s2 g2 x2 => ⟨_, t1, t2, rfl, Nat.le_trans hlo g1.sz, by rw [e1] at x2; exact x2⟩⟩)
    fun v s1 g1 p1 => fun Q E hq => ga_nil (G := G) (A := A) _ _ fun vs s3 g3 ⟨e3, e4⟩ => hq _ _ g3 ⟨v, by rw [e3], by rw [e4]; exact p1⟩)
    fun vs s1 g1 ⟨v, e1, p1⟩ => ⟨by rw [e1]; show 1 ≤ 1000; decide, fun s2 g2 x2 => ⟨_, [v], rfl, Nat.le_trans hlo g1.sz, .cons (p1.keeps g2.keep) .nil, by rw [e1] at x2; exact x2⟩⟩) fun v s1 g1 p1 => ?_
  refine ⟨fun u s' => u = fv ∧ s' = s1, ge_var (nm.keeps g1.keep) k3 h3, fun u s2 g2 ⟨eu, es⟩ Q E hq => ?_⟩
  subst eu es
  obtain ⟨b, ws, rfl, lb, r2, x2⟩ := hf.keeps g1.keep
  obtain ⟨a, vs, rfl, la, r1, x1⟩ := p1
  have l1 := paired_len r1
  have l2 := paired_len r2
  have hv : vs ≠ [] := fun z => by rw [z] at l1; cases l1
  refine HT.cat_tup x1 x2 hv (fun z => hq _ _ (.refl _) ⟨a, vs, rfl, la, ?_, x1⟩) (fun z => ?_) (by rw [← l1, ← l2, sizeLine_eq, List.length_singleton]; omega)
  · rw [z] at r2
    cases r2
    exact r1
  · refine hq _ _ (.push _ _ _) ⟨_, vs ++ ws, rfl, Nat.le_trans hlo g1.sz, ?_, IsTup.new _ _⟩
    cases r1 with
    | cons r1 t1 =>
      cases t1
      exact .cons (r1.keeps fun _ _ q => Heap.get?_push_of_some _ q) (paired_mono (fun _ _ z => IsPr.keeps z fun _ _ q => Heap.get?_push_of_some _ q) r2)
/-- pins[1:place] + pins[place + 1:] -/
theorem cutI_front (ns : List Int) (i : Nat) (h1 : 1 ≤ i) (h2 : i < ns.length) : cutI ns (some 1) (some (i : Int)) = (ns.take i).drop 1 := by
  unfold cutI
  have e1 : HT.sIx ns.length 0 (some (1 : Int)) = 1 := by
    rw [show (1 : Int) = ((1 : Nat) : Int) from rfl, HT.sIx_nat]; omega
  have e2 : HT.sIx ns.length ns.length (some (i : Int)) = i := by rw [HT.sIx_nat]; omega
  rw [e1, e2, List.drop_take]
theorem cutI_back (ns : List Int) (i : Nat) (h2 : i < ns.length) : cutI ns (some ((i : Int) + 1)) none = ns.drop (i + 1) := by
  unfold cutI
  have e1 : HT.sIx ns.length 0 (some ((i : Int) + 1)) = i + 1 := by
    rw [show (i : Int) + 1 = ((i + 1 : Nat) : Int) by omega, HT.sIx_nat]; omega
  rw [e1, HT.sIx_none]
  refine List.take_of_length_le ?_
  rw [List.length_drop]; omega
theorem ge_others {k : Bool} {pv : Value} {ns : List Int} {i : Nat} {t : Tok} {p0 p1 p2 p3 p4 p5 p6 p7 p8 p9 p10 p11 : Pos} {j0 j1 : Nat} (nm : s.heap.Ns G.env.locals m) (h1 : m "pins" = some pv) (h2 : m "place" = some (.int i t))
    (k1 : G.env.kindOf "pins" = some .local) (k2 : G.env.kindOf "place" = some .local) (hl : ns.length ≤ 1000) (hsq : IsSq k s.heap pv ns) (hi1 : 1 ≤ i) (hi2 : i < ns.length) {e : Expr}
    (he : e = .BinOp (.Subscript (.Name "pins" p0) (.Slice (some (.Constant (.int 1) j0 p1)) (some (.Name "place" p2)) none p3) p4) .Add (.Subscript (.Name "pins" p5) (.Slice (some (.BinOp (.Name "place" p6) .Add (.Constant (.int 1) j1 p7) p8)) none none p9) p10) p11) :
    GE G A e s fun v s' => IsSq k s'.heap v (others ns i) ∧ Fr0 s.heap.objs.size v := by
  subst he
  have hlen := others_length ns i hi1 hi2
  have eo : others ns i = (ns.take i).drop 1 ++ ns.drop (i + 1) := rfl
  rw [eo, List.length_append] at hlen
  refine ge_bin (Φ := fun v s' => IsSq k s'.heap v ((ns.take i).drop 1) ∧ Fr0 s.heap.objs.size v) ((ge_slice (k := k) (l := some 1) (u := some (i : Int)) hl ((ge_var nm k1 h1).mono fun v s' g ⟨e1, e2⟩ => by rw [e1, e2]; exact hsq) (fun s1 g1 => go_some (ge_int.mono fun v s' g ⟨e1, e2⟩ => e1))
    fun s1 g1 => go_some ((ge_var (nm.keeps g1.keep) k2 h2).mono fun v s' g ⟨e1, e2⟩ => ⟨t, e1⟩)).mono fun v s' g p => by rw [cutI_front ns i hi1 hi2] at p; exact ⟨p.1, p.2 (fun z => by have z1 := z.1; rw [show (1 : Int) = ((1 : Nat) : Int) from rfl, HT.sIx_nat] at z1; omega)⟩) fun v s1 g1 ⟨p1, f1⟩ => ?_
  refine ⟨fun u s' => IsSq k s'.heap u (ns.drop (i + 1)) ∧ Fr0 s.heap.objs.size u, (ge_slice (k := k) (l := some ((i : Int) + 1)) (u := none) hl ((ge_var (nm.keeps g1.keep) k1 h1).mono fun v s' g ⟨e1, e2⟩ => by rw [e1, e2]; exact hsq.keeps g1.keep)
    (fun s2 g2 => go_some (ge_bin (Φ := fun v s' => v = .int i t) ((ge_var (nm.keeps (g1.trans g2).keep) k2 h2).mono fun v s' g ⟨e1, e2⟩ => e1) fun v s3 g3 e3 => ⟨fun u s' => ∃ t, u = .int 1 t, ge_int.mono fun v s' g ⟨e1, e2⟩ => e1, fun u s4 g4 ⟨t4, e4⟩ Q E hq => by
      rw [e3, e4]
      exact add_int (hq _ _ (.tok _ _) ⟨_, rfl⟩)⟩)) fun s2 g2 => go_none).mono fun v s' g p => by rw [cutI_back ns i hi2] at p; exact ⟨p.1, let ⟨b, e, l⟩ := p.2 (fun z => by have z1 := z.1; rw [show (i : Int) + 1 = ((i + 1 : Nat) : Int) by omega, HT.sIx_nat] at z1; omega); ⟨b, e, Nat.le_trans g1.sz l⟩⟩, fun u s2 g2 ⟨p2, f2⟩ Q E hq => ?_⟩
  rw [eo] at hq
  exact add_sq (G := G) (A := A) (by omega) (p1.keeps g2.keep) p2 Q E fun x s' g q z => hq x s' g ⟨q, by
    rcases z with z | z | ⟨b, e, l⟩
    · rw [z]; exact f1
    · rw [z]; exact f2
    · exact ⟨b, e, Nat.le_trans (g1.trans g2).sz l⟩⟩
end
end G51

set_option Elab.async false
set_option linter.all false
set_option maxRecDepth 100000
set_option maxHeartbeats 2000000
/-! k51: the generator's run -/
namespace G51
open PySem PySem.Spec PyProof.Rows L2 GenW M51

/-- the frame's environment -/
abbrev envP (C f : Addr) (cd : Value) : Env := envOfC "pairings" (defScope sPairs) C f cd
section
variable {P : Program} {w : World} {K : PySem.W.Frag} {mg : Str → Option Value} {base : Heap} (mod : Mod K mg base) {f : Addr} {cd : Value} {C a : Addr} {g : Nat} {k : Bool} {pv : Value} {ns : List Int} {L : List Pg}
/-- the frame's world -/
def fxP (P : Program) (w : World) (mod : Mod K mg base) (C f : Addr) (cd : Value) : Fx where
  P := P
  w := w
  K := K
  mg := mg
  base := base
  mod := mod
  env := envP C f cd
  kind := rfl
  glob := rfl
  blt := rfl
variable (base C a g k pv ns) in
/-- amid a run that was begun at s₀ -/
structure Lo (pn : List (Addr × Obj)) (s₀ s : Shared) (m : Str → Option Value) : Prop where
  chg : Chg C a g s₀ s
  nm : s.heap.Ns C m
  bk : Bk base s
  sq : IsSq k s.heap pv ns
  pins : m "pins" = some pv
  obj : C < a ∧ (∃ o, s.heap.get? a = some o) ∧ g < s.gens.size
  pn : ∀ p ∈ pn, C < p.1 ∧ s.heap.get? p.1 = some p.2
variable {pn : List (Addr × Obj)} {s₀ s s1 : Shared} {m : Str → Option Value}
theorem Lo.grow (x : Lo base C a g k pv ns pn s₀ s m) (h : Grow s s1) : Lo base C a g k pv ns pn s₀ s1 m :=
  ⟨x.chg.trans h.chg, x.nm.keeps h.keep, x.bk.grow h, x.sq.keeps h.keep, x.pins, ⟨x.obj.1, let ⟨o, e⟩ := x.obj.2.1; ⟨o, h.keep _ _ e⟩, by rw [h.gens]; exact x.obj.2.2⟩, fun p hp => ⟨(x.pn p hp).1, h.keep _ _ (x.pn p hp).2⟩⟩
theorem Lo.own (x : Lo base C a g k pv ns pn s₀ s m) (h : Own C g s s1) (b : Bk base s1) (q : IsSq k s1.heap pv ns) : Lo base C a g k pv ns pn s1 s1 m :=
  ⟨.refl _ _ _ _, x.nm.at' fun o e => h.new _ _ (Nat.le_refl _) e, b, q, x.pins, ⟨x.obj.1, let ⟨o, e⟩ := x.obj.2.1; ⟨o, h.new _ _ (Nat.le_of_lt x.obj.1) e⟩, Nat.lt_of_lt_of_le x.obj.2.2 h.gsz⟩,
    fun p hp => ⟨(x.pn p hp).1, h.new _ _ (Nat.le_of_lt (x.pn p hp).1) (x.pn p hp).2⟩⟩
theorem Lo.young {C' a' : Addr} {g' : Nat} (x : Lo base C a g k pv ns pn s₀ s m) (hb : base.objs.size ≤ C) (h : Chg C' a' g' s s1) (h1 : C < C') (h2 : a < C') (h3 : g < g') (hp : ∀ p ∈ pn, p.1 < C') : Lo base C a g k pv ns pn s₀ s1 m := by
  have hc : Chg C a g s s1 := h.up (Nat.le_of_lt h1) h2 (Nat.le_of_lt h3)
  exact ⟨x.chg.trans hc, x.nm.at' fun o e => h.old _ _ (.inl h1) e, x.bk.chg hb hc, x.sq.chg hc, x.pins, ⟨x.obj.1, let ⟨o, e⟩ := x.obj.2.1; ⟨o, h.old _ _ (.inl h2) e⟩, Nat.lt_of_lt_of_le x.obj.2.2 h.gsz⟩,
    fun p hq => ⟨(x.pn p hq).1, h.old _ _ (.inl (hp p hq)) (x.pn p hq).2⟩⟩
theorem Lo.lt (x : Lo base C a g k pv ns pn s₀ s m) : C < s.heap.objs.size := x.nm.lt
theorem Lo.alt (x : Lo base C a g k pv ns pn s₀ s m) : a < s.heap.objs.size := let ⟨o, e⟩ := x.obj.2.1; Heap.lt_size e
/-- a name is stored -/
theorem Lo.store {M : Model} {A : Around} {E : Value → Shared → Prop} {x : Str} {v : Value} {Q : Unit → Shared → Prop} (y : Lo base C a g k pv ns pn s₀ s m) (hb : base.objs.size ≤ C) (hx : (envP C f cd).kindOf x = some .local) (hn : x ≠ "pins")
    (h : ∀ s1, Lo base C a g k pv ns pn s₀ s1 (fun z => if z = x then some v else m z) → (∀ b o, b ≠ C → s.heap.get? b = some o → s1.heap.get? b = some o) → s1.gens = s.gens → Q () s1) : wpAny M A (storeName (envP C f cd) x v) Q E s := by
  refine wpAny_storeName_local hx y.nm (fun h' hn' hs => ?_) rfl
  have keep : ∀ b o, b ≠ C → s.heap.get? b = some o → h'.get? b = some o := fun b o hb e => (hs.2 b hb).trans e
  obtain ⟨oC, es, ep, hoC, hdC, _⟩ := id y.nm
  have hc : Chg C a g s { s with heap := h', toks := s.toks + 1 } := ⟨rfl, fun b => b, fun b o hb e => keep b o (by rcases hb with hb | hb; exact Nat.ne_of_lt hb; rw [hb]; exact Nat.ne_of_gt y.obj.1) e, ?_, fun _ _ => rfl, Nat.le_refl _⟩
  rotate_left
  · intro b o e ⟨its, n, hd⟩
    refine keep b o (fun z => ?_) e
    subst z
    rw [hoC] at e
    cases e
    rw [hdC] at hd
    cases hd
  · refine h _ ⟨y.chg.trans hc, hn', y.bk.chg hb hc, y.sq.chg hc, ?_, ⟨y.obj.1, let ⟨o, e⟩ := y.obj.2.1; ⟨o, keep _ _ (Nat.ne_of_gt y.obj.1) e⟩, y.obj.2.2⟩, fun p hp => ⟨(y.pn p hp).1, keep _ _ (Nat.ne_of_gt (y.pn p hp).1) (y.pn p hp).2⟩⟩ keep rfl
    show (if ("pins" : Str) = x then some v else m "pins") = some pv
    rw [if_neg (Ne.symm hn)]
    exact y.pins
/-- yield e -/
theorem seg_yield51 {A0 : Around} {e : Expr} {yp pos : Pos} {n i : Nat} {d : Pg} {c : Code} {fs : List Frame} {KK : Flow → Sem PySem.Fin} {J : Value → Sem PySem.Fin} {lv : List Value → List Value} (y : Lo base C a g k pv ns pn s₀ s m)
    (hfs : splitAtGen fs = none) (hfg : fs.any Frame.guarded = false) (hi : i + 1 + n = L.length) (hd : L[i]? = some d) (he : GE (fxP P w mod C f cd) (A0.over c fs) e s fun v s' => IsPg C s'.heap v d)
    (h : ∀ s2, Own C g s s2 → Lo base C a g k pv ns pn s2 s2 m → Seg (model P w) A0 (RP C a g) (YP base k pv ns C a g L) n s2 c (KK .next) fs s2) :
    Seg (model P w) A0 (RP C a g) (YP base k pv ns C a g L) (n + 1) s₀ c ((exec (.Expr (.Yield (some e) yp) pos) (envP C f cd)).wrap KK J id lv) fs s := by
  refine seg_Expr_Yield hfs rfl hfg (he _ _ fun v s1 g1 p1 => ?_) rfl rfl
  intro kap hk
  refine ⟨i, d, hi, hd, p1, y.chg.trans g1.chg, fun s2 o2 b2 q2 => hk .none s2 ?_⟩
  have o : Own C g s s2 := (g1.own (C := C) (g := g)).trans o2
  exact h s2 o (y.own o b2 q2)
end
end G51

set_option Elab.async false
set_option linter.all false
set_option maxRecDepth 100000
set_option maxHeartbeats 2000000
/-! k51: the generator's loops -/
namespace G51
open PySem PySem.Spec PyProof.Rows L2 GenW M51

section
variable {P : Program} {w : World} {K : PySem.W.Frag} {mg : Str → Option Value} {base : Heap} (mod : Mod K mg base) {f : Addr} {cd : Value} {C a : Addr} {g : Nat} {k : Bool} {pv : Value} {ns : List Int} {L : List Pg}
variable {pn : List (Addr × Obj)} {s₀ s s1 : Shared} {m : Str → Option Value}
include mod in
/-- the loop over the younger generator -/
theorem inner {A0 B : Around} {c : Code} {fs : List Frame} {KK : Flow → Sem PySem.Fin} {J : Value → Sem PySem.Fin} {lv : List Value → List Value} {l : List Value} {gg : Bool} {p pf p0 p1 p2 p3 p4 p5 p6 p7 p8 p9 yp ep : Pos} {j0 f1 f2 : Nat} {i cnt : Nat} {t : Tok} {x y : Int} {L' : List Pg} {C' a' : Addr} {g' : Nat} {pv' : Value} {ms : List Int} {e : Expr}
    (he : e = .BinOp (.Tuple [.Tuple [.Subscript (.Name "pins" p0) (.Constant (.int 0) j0 p1) p2, .Subscript (.Name "pins" p3) (.Name "place" p4) p5] f1 p6] f2 p7) .Add (.Name "further" p8) p9)
    (hb : base.objs.size ≤ C) (hB : A0.over c fs = B) (hfs : splitAtGen fs = none) (hfg : fs.any Frame.guarded = false) (hgg : gg = false) (hh : B.handled = none) (hdp : B.depth < recursionLimit)
    (hC : C < C') (ha : a < C') (hg : g < g') (hpn : ∀ p ∈ pn, p.1 < C') (hl : ns.length ≤ 1000) (hz : ∀ d ∈ L', d.length ≤ 900) (hx : ns[0]? = some x) (hy : ns[i]? = some y)
    (hL : ∀ q d, L'[q]? = some d → L[cnt + q]? = some ((x, y) :: d))
    (hK : ∀ s₀ s m, Lo base C a g k pv ns pn s₀ s m → m "place" = some (.int i t) → ∀ n, cnt + L'.length + n = L.length → Seg (model P w) A0 (RP C a g) (YP base k pv ns C a g L) n s₀ c (KK .next) fs s) :
    ∀ (r j n : Nat) (s₀ s : Shared) (m : Str → Option Value), r + j = L'.length → cnt + j + n = L.length → Lo base C a g k pv ns pn s₀ s m → m "place" = some (.int i t) → GenOk P w base B k pv' ms C' a' g' L' j s → IsSq k s.heap pv' ms → (∃ b, pv' = .ref b ∧ C ≤ b ∧ b < C') →
      Seg (model P w) A0 (RP C a g) (YP base k pv ns C a g L) n s₀ (.forLoop (.Name "further" pf) (.ref a') [.Expr (.Yield (some e) yp) ep] [] (envP C f cd)) ((model P w).den (.forLoop (.Name "further" pf) (.ref a') [.Expr (.Yield (some e) yp) ep] [] (envP C f cd)))
        (.ret (backK (envP C f cd) KK J id lv) none gg l c p [] :: fs) s := by
  have hB2 : A0.over (.forLoop (.Name "further" pf) (.ref a') [.Expr (.Yield (some e) yp) ep] [] (envP C f cd)) (.ret (backK (envP C f cd) KK J id lv) none gg l c p [] :: fs) = B := (over_loop rfl rfl).trans hB
  intro r
  induction r with
  | zero =>
    intro j n s₀ s m hj hn hlo hpl hgo hsq hb'
    refine seg_forLoop ?_
    rw [hB2]
    refine hgo.next (by omega) (Nat.le_trans hb (Nat.le_of_lt hC)) hh (mod.nolimit.keeps hlo.bk) hdp hlo.bk hsq (fun v d s1 hd hpg hc hgo' => ?_) (fun s1 hj' hc => ?_)
    · have hlt := (List.getElem?_eq_some_iff.mp hd).1
      omega
    · exact hK s₀ s1 m (hlo.young hb hc hC ha hg hpn) hpl n (by omega)
  | succ r ih =>
    intro j n s₀ s m hj hn hlo hpl hgo hsq hb'
    refine seg_forLoop ?_
    rw [hB2]
    refine hgo.next (by omega) (Nat.le_trans hb (Nat.le_of_lt hC)) hh (mod.nolimit.keeps hlo.bk) hdp hlo.bk hsq (fun v d s1 hd hpg hc hgo' => ?_) (fun s1 hj' hc => by omega)
    have hlo1 := hlo.young hb hc hC ha hg hpn
    have hsq1 : IsSq k s1.heap pv' ms := hsq.chg hc
    obtain ⟨og, nm, qn, hog, hcg, hdg, _⟩ := id hgo'.gen
    refine go_of hog hcg hdg (by decide) ?_
    refine wpAny_assign_Name (hlo1.store hb rfl (by decide) fun s2 hlo2 hk2 hgens2 => ?_)
    intro J'
    have hyL := hL j d hd
    have hjl : cnt + j < L.length := (List.getElem?_eq_some_iff.mp hyL).1
    obtain ⟨n, rfl⟩ : ∃ q, n = q + 1 := ⟨n - 1, by omega⟩
    refine seg_execs_cons ?_
    have hpg2 : IsPg C s2.heap v d := by
      have hpg := hpg.low (Nat.le_of_lt hC)
      obtain ⟨b, ws, e1, e1l, e2, e3⟩ := hpg
      have tk : ∀ {b : Addr} {xs : Array Value}, IsTup s1.heap b xs → IsTup s2.heap b xs := fun {b xs} ⟨o, ho, hc', nn, hd'⟩ => by
        refine ⟨o, hk2 b o (fun z => ?_) ho, hc', nn, hd'⟩
        obtain ⟨oC, es, ep', hoC, hdC, _⟩ := hlo1.nm
        rw [z, hoC] at ho
        cases ho
        rw [hdC] at hd'
        cases hd'
      exact ⟨b, ws, e1, e1l, paired_mono (fun _ _ ⟨b', t', u', q1, q1l, q2⟩ => ⟨b', t', u', q1, q1l, tk q2⟩) e2, tk e3⟩
    have hm3 : (fun z : Str => if z = "further" then some v else m z) "place" = some (.int i t) := by
      show (if ("place" : Str) = "further" then some v else m "place") = _
      rw [if_neg (by decide)]
      exact hpl
    refine seg_yield51 mod hlo2 ?_ ?_ (i := cnt + j) (d := (x, y) :: d) (by omega) hyL ?_ fun s3 ho3 hlo3 => ?_
    · show (splitAtGen fs).map _ = none
      rw [hfs]; rfl
    · show (gg || fs.any Frame.guarded) = false
      rw [hgg, hfg]; rfl
    · rw [hB2]
      exact ge_yexp (G := fxP P w mod C f cd) (A := B) hlo2.nm hlo2.pins hm3 (by show (if ("further" : Str) = "further" then some v else m "further") = some v; rw [if_pos rfl]) rfl rfl rfl hl (hz d (List.mem_of_getElem? hd)) hlo2.sq hx hy hpg2 (by obtain ⟨oC, _, _, hoC, _⟩ := hlo2.nm; exact Nat.le_of_lt (Heap.lt_size hoC)) he
    · refine seg_execs_nil ?_
      refine seg_again rfl ?_
      have o23 : Own C' g' s1 s3 := ⟨fun b o hb e => ho3.new b o (Nat.le_of_lt (Nat.lt_of_lt_of_le hC hb)) (hk2 b o (Nat.ne_of_gt (Nat.lt_of_lt_of_le hC hb)) e), fun q hq hl' => (ho3.gens q (Nat.lt_trans hg hq) (by rw [hgens2]; exact hl')).trans (by rw [hgens2]), by have := ho3.gsz; rw [hgens2] at this; exact this⟩
      have hgl : g' < s1.gens.size := by
        obtain ⟨gs, e, _⟩ := hgo'.go
        exact (Array.getElem?_eq_some_iff.mp e).1
      refine ih (j + 1) n s3 s3 _ (by omega) (by omega) hlo3 hm3 (hgo'.own o23 ((ho3.gens g' hg (by rw [hgens2]; exact hgl)).trans (by rw [hgens2]))) ?_ hb'
      obtain ⟨b, eb, hb1, hb2⟩ := hb'
      obtain ⟨b2, vs, e2, r2, q2⟩ := hsq1
      have ebb : b2 = b := by rw [eb] at e2; cases e2; rfl
      subst ebb
      have kp : ∀ o, s1.heap.get? b2 = some o → (∃ its nn, o.data = .seq its nn) → s3.heap.get? b2 = some o := fun o e ⟨its, nn, hd'⟩ => by
        refine ho3.new b2 o hb1 (hk2 b2 o (fun z => ?_) e)
        obtain ⟨oC, es, ep', hoC, hdC, _⟩ := hlo1.nm
        rw [z, hoC] at e
        cases e
        rw [hdC] at hd'
        cases hd'
      refine ⟨b2, vs, e2, r2, ?_⟩
      rcases q2 with ⟨e, nn, q2⟩ | ⟨e, o, ho, hc', nn, hd'⟩
      · exact .inl ⟨e, nn, kp _ q2 ⟨_, _, rfl⟩⟩
      · exact .inr ⟨e, o, kp _ ho ⟨_, _, hd'⟩, hc', nn, hd'⟩
end
end G51

set_option Elab.async false
set_option linter.all false
set_option maxRecDepth 100000
set_option maxHeartbeats 2000000
/-! k51: a call of pairings -/
namespace G51
open PySem PySem.Spec PyProof.Rows L2 GenW M51

section
variable {P : Program} {w : World} {K : PySem.W.Frag} {mg : Str → Option Value} {base : Heap} (mod : Mod K mg base) {f : Addr} {fd : FuncData} {cd : Value} {C a : Addr} {g : Nat} {k : Bool} {pv : Value} {ns : List Int} {L : List Pg}
variable {pn : List (Addr × Obj)} {s₀ s s1 : Shared} {m : Str → Option Value}
/-- a record of ours turns -/
theorem Lo.turn {z : Addr} {h' : Heap} {tk : Nat} (x : Lo base C a g k pv ns pn s₀ s m) (hb : base.objs.size ≤ C) (hs : ∀ b o, b ≠ z → s.heap.get? b = some o → h'.get? b = some o) (h1 : C < z) (h2 : z ≠ a) (h3 : ∀ o its n, s.heap.get? z = some o → o.data ≠ .seq its n) (h4 : ∀ p ∈ pn, p.1 ≠ z) :
    Lo base C a g k pv ns pn s₀ { s with heap := h', toks := tk } m := by
  have hc : Chg C a g s { s with heap := h', toks := tk } := ⟨rfl, fun b => b, fun b o hb e => hs b o (by rcases hb with hb | hb; exact Nat.ne_of_lt (Nat.lt_trans hb h1); rw [hb]; exact Ne.symm h2) e, fun b o e ⟨its, n, hd⟩ => hs b o (fun q => h3 o its n (by rw [← q]; exact e) hd) e, fun _ _ => rfl, Nat.le_refl _⟩
  exact ⟨x.chg.trans hc, x.nm.at' fun o e => hs _ _ (Nat.ne_of_lt h1) e, x.bk.chg hb hc, x.sq.chg hc, x.pins, ⟨x.obj.1, let ⟨o, e⟩ := x.obj.2.1; ⟨o, hs _ _ (Ne.symm h2) e⟩, x.obj.2.2⟩, fun p hp => ⟨(x.pn p hp).1, hs _ _ (h4 p hp) (x.pn p hp).2⟩⟩
theorem Lo.pin {z : Addr} {o : Obj} (x : Lo base C a g k pv ns [] s₀ s m) (h : C < z) (e : s.heap.get? z = some o) : Lo base C a g k pv ns [(z, o)] s₀ s m :=
  ⟨x.chg, x.nm, x.bk, x.sq, x.pins, x.obj, fun p hp => by rw [List.mem_singleton.mp hp]; exact ⟨h, e⟩⟩
theorem Lo.unpin (x : Lo base C a g k pv ns pn s₀ s m) : Lo base C a g k pv ns [] s₀ s m :=
  ⟨x.chg, x.nm, x.bk, x.sq, x.pins, x.obj, fun p hp => by cases hp⟩
/-- a generator is made -/
theorem Lo.made (x : Lo base C a g k pv ns pn s₀ s m) (hb : base.objs.size ≤ C) (hos : s1.os = s.os) (hbare : AllBare s.gens → AllBare s1.gens) (hkeep : ∀ b o, s.heap.get? b = some o → s1.heap.get? b = some o) (hold : ∀ i, i < s.gens.size → s1.gens[i]? = s.gens[i]?) (hsz : s.gens.size < s1.gens.size) :
    Lo base C a g k pv ns pn s₀ s1 m := by
  have hc : Chg C a g s s1 := ⟨hos, hbare, fun b o _ e => hkeep b o e, fun b o e _ => hkeep b o e, fun i hi => hold i (Nat.lt_trans hi x.obj.2.2), Nat.le_of_lt hsz⟩
  exact ⟨x.chg.trans hc, x.nm.keeps hkeep, x.bk.chg hb hc, x.sq.chg hc, x.pins, ⟨x.obj.1, let ⟨o, e⟩ := x.obj.2.1; ⟨o, hkeep _ _ e⟩, Nat.lt_trans x.obj.2.2 hsz⟩, fun p hp => ⟨(x.pn p hp).1, hkeep _ _ (x.pn p hp).2⟩⟩

variable (P w base f fd) in
/-- a call of pairings with at most 2 n pins -/
def CallOk (n : Nat) : Prop := ∀ (A : Around) (s : Shared) (k : Bool) (pv : Value) (ns : List Int) (args : Args), ns.length ≤ 2 * n → ns.length ≤ 1000 → Rm n A → Bk base s → base.objs.size ≤ s.heap.objs.size → IsSq k s.heap pv ns → BindsTo s fd args [("pins", pv)] →
  codeAny (model P w) A (.call (.ref f) args) (fun r s' => ∃ (C a : Addr), r = .ok (.ret (.ref a)) ∧ s.heap.objs.size ≤ C ∧ C < a ∧ s'.os = s.os ∧ (AllBare s.gens → AllBare s'.gens) ∧ (∀ b o, s.heap.get? b = some o → s'.heap.get? b = some o) ∧ (∀ i, i < s.gens.size → s'.gens[i]? = s.gens[i]?) ∧ s.gens.size < s'.gens.size ∧
    ∀ A' : Around, Rm n A' → GenOk P w base A' k pv ns C a s.gens.size (prs n ns) 0 s') s

/-- the pairings by place -/
def fam (n : Nat) (ns : List Int) (k : Nat) : List Pg := (prs n (others ns k)).map fun fr => (ns.getD 0 0, ns.getD k 0) :: fr
def cntP (n : Nat) (ns : List Int) (q : Nat) : Nat := (((places ns.length).take q).flatMap (fam n ns)).length
theorem prs_fam {n : Nat} {ns : List Int} (h0 : ¬ ns.length = 0) (h2 : ns.length % 2 = 0) : prs (n + 1) ns = (places ns.length).flatMap (fam n ns) := by
  rw [prs, if_neg h0, if_pos h2]
  rfl
theorem places_len (n : Nat) : (places n).length = n - 1 := by unfold places; rw [List.length_range']
theorem places_at {n q : Nat} (h : q < n - 1) : (places n)[q]? = some (1 + q) := by
  unfold places
  rw [List.getElem?_range' h]
  simp
theorem cnt_succ {n : Nat} {ns : List Int} {q : Nat} (h : q < ns.length - 1) : cntP n ns (q + 1) = cntP n ns q + (fam n ns (1 + q)).length := by
  unfold cntP
  rw [List.take_add_one, places_at h, List.flatMap_append, List.length_append]
  simp
theorem cnt_all {n : Nat} {ns : List Int} : cntP n ns (ns.length - 1) = ((places ns.length).flatMap (fam n ns)).length := by
  unfold cntP
  rw [List.take_of_length_le (by rw [places_len]; exact Nat.le_refl _)]
theorem at_fam {n : Nat} {ns : List Int} {q j : Nat} {d : Pg} (h : q < ns.length - 1) (hd : (fam n ns (1 + q))[j]? = some d) : ((places ns.length).flatMap (fam n ns))[cntP n ns q + j]? = some d := by
  have e : places ns.length = (places ns.length).take q ++ (1 + q) :: (places ns.length).drop (q + 1) := by
    have hq : q < (places ns.length).length := by rw [places_len]; exact h
    have e1 : (places ns.length)[q] = 1 + q := by
      have := places_at (n := ns.length) h
      rw [List.getElem?_eq_getElem hq] at this
      exact Option.some.inj this
    rw [← e1, ← List.drop_eq_getElem_cons hq, List.take_append_drop]
  rw [e, List.flatMap_append, List.flatMap_cons]
  have e2 : cntP n ns q = (((places ns.length).take q).flatMap (fam n ns)).length := rfl
  rw [e2, List.getElem?_append_right (Nat.le_add_right _ _), Nat.add_sub_cancel_left, List.getElem?_append_left (List.getElem?_eq_some_iff.mp hd).1]
  exact hd
include mod in
/-- the loop over the places -/
theorem outer {n0 : Nat} (ih : CallOk P w base f fd n0) (hkp : PySem.W.keepIn K (.ref f) = true) (hmg : mg "pairings" = some (.ref f)) (hbind : ∀ (s : Shared) (v : Value), BindsTo s fd ⟨[v], []⟩ [("pins", v)])
    {A0 B : Around} {c : Code} {fs : List Frame} {KK : Flow → Sem PySem.Fin} {J : Value → Sem PySem.Fin} {lv : List Value → List Value} {l : List Value} {gg : Bool} {p pp pa pf pg ph pi pj po p0 p1 p2 p3 p4 p5 p6 p7 p8 p9 yp ep : Pos} {j0 f1 f2 : Nat} {q0 q1 q2 q3 q4 q5 q6 q7 q8 q9 q10 q11 : Pos} {i0 i1 : Nat} {e eo : Expr}
    (he : e = .BinOp (.Tuple [.Tuple [.Subscript (.Name "pins" p0) (.Constant (.int 0) j0 p1) p2, .Subscript (.Name "pins" p3) (.Name "place" p4) p5] f1 p6] f2 p7) .Add (.Name "further" p8) p9)
    (heo : eo = .BinOp (.Subscript (.Name "pins" q0) (.Slice (some (.Constant (.int 1) i0 q1)) (some (.Name "place" q2)) none q3) q4) .Add (.Subscript (.Name "pins" q5) (.Slice (some (.BinOp (.Name "place" q6) .Add (.Constant (.int 1) i1 q7) q8)) none none q9) q10) q11)
    (hb : base.objs.size ≤ C) (hB : A0.over c fs = B) (hfs : splitAtGen fs = none) (hfg : fs.any Frame.guarded = false) (hgg : gg = false) (hrm : Rm n0 B)
    (h0 : ¬ ns.length = 0) (h2 : ns.length % 2 = 0) (hle : ns.length ≤ 2 * (n0 + 1)) (hl : ns.length ≤ 1000) (hL : L = prs (n0 + 1) ns) {it : Addr} (hit : C < it) (hia : a < it) {body : List Stmt}
    (hbody : body = [.Assign [.Name "others" pa] eo po, .For (.Name "further" pf) (.Call (.Name "pairings" pg) [.Name "others" ph] [] pi) [.Expr (.Yield (some e) yp) ep] [] pj])
    (hK : ∀ s₀ s m, Lo base C a g k pv ns [] s₀ s m → Seg (model P w) A0 (RP C a g) (YP base k pv ns C a g L) 0 s₀ c (KK .next) fs s) :
    ∀ (r q n : Nat) (s₀ s : Shared) (m : Str → Option Value), r + q = ns.length - 1 → cntP n0 ns q + n = L.length → Lo base C a g k pv ns [] s₀ s m → IsRangeIter s.heap it (1 + (q : Int)) ((ns.length : Int) - 1 - q) 1 →
      Seg (model P w) A0 (RP C a g) (YP base k pv ns C a g L) n s₀ (.forLoop (.Name "place" pp) (.ref it) body [] (envP C f cd)) ((model P w).den (.forLoop (.Name "place" pp) (.ref it) body [] (envP C f cd)))
        (.ret (backK (envP C f cd) KK J id lv) none gg l c p [] :: fs) s := by
  have hB2 : A0.over (.forLoop (.Name "place" pp) (.ref it) body [] (envP C f cd)) (.ret (backK (envP C f cd) KK J id lv) none gg l c p [] :: fs) = B := (over_loop rfl rfl).trans hB
  have hLf : L = (places ns.length).flatMap (fam n0 ns) := hL.trans (prs_fam h0 h2)
  have noseq : ∀ {s : Shared} {x y z : Int}, IsRangeIter s.heap it x y z → ∀ o its nn, s.heap.get? it = some o → o.data ≠ .seq its nn := fun {s x y z} hr o its nn e hd => by
    have hr' : s.heap.get? it = some { cls := .type "range_iterator", dict := none, data := .fields #[rawInt x, rawInt y, rawInt z], slots := #[] } := hr
    rw [hr'] at e
    cases e
    cases hd
  intro r
  induction r with
  | zero =>
    intro q n s₀ s m hr hn hlo hri
    refine seg_forLoop ?_
    rw [hB2]
    have hq : q = ns.length - 1 := by omega
    refine wpAny_pyNext_range_end hrm.hd hri (by omega) fun h' eb => ?_
    have hz : n = 0 := by
      have e1 := cnt_all (n := n0) (ns := ns)
      rw [← hLf, ← hq] at e1
      omega
    subst hz
    exact hK s₀ _ m (hlo.turn hb (fun b o hb e => eb b o hb e) hit (Nat.ne_of_gt hia) (noseq hri) (fun p hp => by cases hp))
  | succ r ih2 =>
    intro q n s₀ s m hr hn hlo hri
    refine seg_forLoop ?_
    rw [hB2]
    refine wpAny_pyNext_range_item hri (by omega) fun h' hri' sb => ?_
    have hlo1 : Lo base C a g k pv ns [] s₀ { s with heap := h', toks := s.toks + 1 } m := hlo.turn hb (fun b o hb e => (sb.2 b hb).trans e) hit (Nat.ne_of_gt hia) (noseq hri) (fun p hp => by cases hp)
    refine go_of (s := { s with heap := h', toks := s.toks + 1 }) hri' rfl rfl (by decide) ?_
    have hlo1p := hlo1.pin hit hri'
    refine wpAny_assign_Name (hlo1p.store hb rfl (by decide) fun s2 hlo2 hk2 hgens2 => ?_)
    intro J'
    have hq1 : q < ns.length - 1 := by omega
    have hi2 : 1 + q < ns.length := by omega
    have hpl : (fun z : Str => if z = "place" then some (Value.int (1 + (q : Int)) s.toks) else m z) "place" = some (.int ((1 + q : Nat) : Int) s.toks) := by
      show (if ("place" : Str) = "place" then some (Value.int (1 + (q : Int)) s.toks) else m "place") = _
      rw [if_pos rfl, show (1 + (q : Int)) = ((1 + q : Nat) : Int) by omega]
    subst hbody
    refine seg_execs_cons ?_
    refine seg_wrap ?_
    rw [hB2]
    refine wpAny_Assign_Name (ge_others (G := fxP P w mod C f cd) (A := B) (k := k) (ns := ns) (i := 1 + q) hlo2.nm hlo2.pins hpl rfl rfl hl hlo2.sq (by omega) hi2 heo _ _ fun ov s3 g3 ⟨hov, hfr⟩ => ?_) (by subst heo; rfl)
    have hlo3 := hlo2.grow g3
    refine hlo3.store hb rfl (by decide) fun s4 hlo4 hk4 hgens4 => ?_
    have hov4 : IsSq k s4.heap ov (others ns (1 + q)) := by
      obtain ⟨b2, vs, e2, r2, x2⟩ := hov
      obtain ⟨oC, es, ep', hoC, hdC, _⟩ := id hlo3.nm
      have kp : ∀ o, s3.heap.get? b2 = some o → (∃ its nn, o.data = .seq its nn) → s4.heap.get? b2 = some o := fun o e ⟨its, nn, hd'⟩ => by
        refine hk4 b2 o (fun z => ?_) e
        rw [z, hoC] at e
        cases e
        rw [hdC] at hd'
        cases hd'
      refine ⟨b2, vs, e2, r2, ?_⟩
      rcases x2 with ⟨e, nn, x2⟩ | ⟨e, o, ho, hc', nn, hd'⟩
      · exact .inl ⟨e, nn, kp _ x2 ⟨_, _, rfl⟩⟩
      · exact .inr ⟨e, o, kp _ ho ⟨_, _, hd'⟩, hc', nn, hd'⟩
    refine seg_execs_cons ?_
    refine seg_For (fun _ => rfl) ?_
    rw [hB2]
    refine wpAny_Call_Name_kw (Calls.Name_function_global (env := envP C f cd) rfl rfl (Calls.loadGlobal_global (mod.glob.keeps hlo4.bk) hmg ?_) (by decide))
    have hgo : GA (fxP P w mod C f cd) B [.Name "others" ph] pi s4 fun vs s' => vs = [ov] ∧ s' = s4 := ga_cons (Φ := fun v s' => v = ov ∧ s' = s4) (ge_var hlo4.nm rfl (by show (if ("others" : Str) = "others" then some ov else _) = some ov; rw [if_pos rfl])) fun v s1 g1 ⟨e1, e2⟩ => fun Q E hq => ga_nil (G := fxP P w mod C f cd) (A := B) _ _ fun vs s3 g3 ⟨e3, e4⟩ => hq _ _ g3 ⟨by rw [e1, e3], by rw [e4, e2]⟩
    have hlen := others_length ns (1 + q) (by omega) hi2
    refine PySem.W.callWith_K (h₀ := base) mod.kin hkp (hgo _ _ fun vs s5 g5 ⟨e1, e2⟩ => ⟨mod.kin.keeps (hlo4.bk.grow g5), ?_⟩) (by rfl) (by rfl)
    obtain rfl : s4 = s5 := e2.symm
    subst e1
    refine wpAny_call (codeAny_mono (ih B s4 k ov (others ns (1 + q)) ⟨[ov], []⟩ (by omega) (by omega) hrm hlo4.bk (Nat.le_trans hb (Nat.le_of_lt hlo4.lt)) hov4 (hbind _ _)) fun rr s6 hr6 => ?_)
    obtain ⟨C', a', rfl, hC', hCa', hos6, hbare6, hkeep6, hgold6, hgsz6, hgen6⟩ := hr6
    refine wpAny_pyIter_gen (hgen6 B hrm).gen ?_
    intro pz
    have hg6 : g < s4.gens.size := hlo4.obj.2.2
    have hlo6 := hlo4.made hb hos6 hbare6 hkeep6 hgold6 hgsz6
    have hy : ns[1 + q]? = some (ns.getD (1 + q) 0) := by
      rw [List.getD_eq_getElem?_getD, List.getElem?_eq_getElem hi2]; rfl
    have hx : ns[0]? = some (ns.getD 0 0) := by
      rw [List.getD_eq_getElem?_getD, List.getElem?_eq_getElem (show 0 < ns.length by omega)]; rfl
    have hpl2 : (if ("place" : Str) = "others" then some ov else if ("place" : Str) = "place" then some (Value.int (1 + (q : Int)) s.toks) else m "place") = some (.int ((1 + q : Nat) : Int) s.toks) := by
      rw [if_neg (by decide)]
      exact hpl
    refine inner mod (L' := prs n0 (others ns (1 + q))) (cnt := cntP n0 ns q) (i := 1 + q) (t := s.toks) (x := ns.getD 0 0) (y := ns.getD (1 + q) 0) (C' := C') (a' := a') (g' := s4.gens.size) (ms := others ns (1 + q)) (B := B) he hb hB2 ?_ ?_ rfl hrm.hd (by have := hrm.dp; omega)
      (Nat.lt_of_lt_of_le hlo4.lt hC') (Nat.lt_of_lt_of_le hlo4.alt hC') hg6 (fun p hp => Nat.lt_of_lt_of_le (Heap.lt_size (hlo4.pn p hp).2) hC') hl (fun d hd => ?_) hx hy (fun j d hd => ?_) (fun s₀' s' m' hlo' hpl' n' hn' => ?_)
      (prs n0 (others ns (1 + q))).length 0 n s₀ s6 _ (Nat.add_zero _) ?_ hlo6 hpl2 (hgen6 B hrm) (hov4.keeps hkeep6) ?_
    · show (splitAtGen fs).map _ = none
      rw [hfs]; rfl
    · show (gg || fs.any Frame.guarded) = false
      rw [hgg, hfg]; rfl
    · have := prs_length _ _ _ hd
      omega
    · rw [hLf]
      refine at_fam hq1 ?_
      unfold fam
      rw [List.getElem?_map, hd]; rfl
    · refine seg_execs_nil ?_
      refine seg_again rfl ?_
      refine ih2 (q + 1) n' s₀' s' m' (by omega) ?_ hlo'.unpin ?_
      · rw [cnt_succ hq1]
        unfold fam
        rw [List.length_map]
        omega
      · have h := (hlo'.pn _ (List.mem_singleton.mpr rfl)).2
        have e1 : (1 + (q : Int) + 1) = (1 + ((q + 1 : Nat) : Int)) := by omega
        have e2 : ((ns.length : Int) - 1 - q - 1) = ((ns.length : Int) - 1 - ((q + 1 : Nat) : Int)) := by omega
        rw [e1, e2] at h
        exact h
    · show cntP n0 ns q + 0 + n = L.length
      omega
    · obtain ⟨b, eb, lb⟩ := hfr
      refine ⟨b, eb, Nat.le_trans (Nat.le_of_lt hlo2.lt) lb, ?_⟩
      obtain ⟨b2, vs, eb2, _, xb⟩ := id hov4
      have ebb : b2 = b := by rw [eb] at eb2; cases eb2; rfl
      subst ebb
      rcases xb with ⟨_, nn, xb⟩ | ⟨_, o, xb, _⟩
      · exact Nat.lt_of_lt_of_le (Heap.lt_size xb) hC'
      · exact Nat.lt_of_lt_of_le (Heap.lt_size xb) hC'
end
end G51

set_option Elab.async false
set_option linter.all false
set_option maxRecDepth 100000
set_option maxHeartbeats 2000000
/-! k51: pairings, by induction -/
namespace G51
open PySem PySem.Spec PyProof.Rows L2 GenW M51

section
variable {P : Program} {w : World} {K : PySem.W.Frag} {mg : Str → Option Value} {base : Heap} (mod : Mod K mg base) {f : Addr} {fd : FuncData} {cd : Value} {C a : Addr} {g : Nat} {k : Bool} {pv : Value} {ns : List Int}
include mod in
/-- the whole run -/
theorem body51 {n : Nat} (ih : ∀ n0, n = n0 + 1 → CallOk P w base f fd n0) (hkp : PySem.W.keepIn K (.ref f) = true) (hmg : mg "pairings" = some (.ref f)) (hbind : ∀ (s : Shared) (v : Value), BindsTo s fd ⟨[v], []⟩ [("pins", v)]) (ml : mg "len" = none) (mr : mg "range" = none)
    {A0 : Around} {s : Shared} {m : Str → Option Value} (hrm : Rmd n (A0.deeper (envP C f cd))) (hb : base.objs.size ≤ C) (hle : ns.length ≤ 2 * n) (hl : ns.length ≤ 1000) (hlo : Lo base C a g k pv ns [] s s m) :
    Seg (model P w) A0 (RP C a g) (YP base k pv ns C a g (prs n ns)) (prs n ns).length s (.func (defBody sPairs) (envP C f cd)) ((model P w).den (.func (defBody sPairs) (envP C f cd))) [] s := by
  have hov : A0.over (.func (defBody sPairs) (envP C f cd)) [] = A0.deeper (envP C f cd) := over_func
  have done : ∀ (L : List Pg) (s₀ s : Shared) (m : Str → Option Value) (J : Value → Sem PySem.Fin), Lo base C a g k pv ns [] s₀ s m → Seg (model P w) A0 (RP C a g) (YP base k pv ns C a g L) 0 s₀ (.func (defBody sPairs) (envP C f cd)) (.pure (.done (.ret .none))) [] s := fun L s₀ s m J h =>
    seg_end (.ok (.ret .none)) (.inl ⟨.inl rfl, rfl, h.chg⟩)
  have pins : ∀ {s₀ s : Shared} {m : Str → Option Value} {p : Pos}, Lo base C a g k pv ns [] s₀ s m → GE (fxP P w mod C f cd) (A0.deeper (envP C f cd)) (.Name "pins" p) s fun v s' => IsSq k s'.heap v ns := fun {s₀ s m p} h =>
    (ge_var h.nm rfl h.pins).mono fun v s' g ⟨e1, e2⟩ => by rw [e1, e2]; exact h.sq
  refine seg_func ?_
  refine seg_execs_cons ?_
  refine seg_If ?_
  rw [hov]
  refine gt_eq (i := (ns.length : Int)) (j := 0) (G := fxP P w mod C f cd) (ge_len (G := fxP P w mod C f cd) hlo.bk rfl ml hl (pins hlo)) (fun s1 g1 => ge_int.mono fun v s' g ⟨e1, e2⟩ => e1) rfl _ _ fun b s1 g1 eb => ?_
  subst eb
  have hlo1 := hlo.grow g1
  by_cases h0 : ns.length = 0
  · rw [if_pos (decide_eq_true (by omega : (ns.length : Int) = 0))]
    have eL : prs n ns = [[]] := by cases n <;> simp only [prs, if_pos h0]
    rw [eL]
    refine seg_execs_cons ?_
    refine seg_yield51 mod hlo1 rfl rfl (i := 0) (d := []) rfl rfl ?_ fun s2 o2 hlo2 => ?_
    · rw [hov]
      refine ge_tup (Ψ := fun vs s' => vs = []) (fun Q E hq => ga_nil (G := fxP P w mod C f cd) _ _ fun vs s' g ⟨e1, e2⟩ => hq _ _ g e1) fun vs s3 g3 e3 => ⟨by rw [e3]; exact Nat.zero_le _, fun s4 g4 x4 => ⟨_, [], rfl, Nat.le_trans (by obtain ⟨oC, _, _, hoC, _⟩ := hlo1.nm; exact Nat.le_of_lt (Heap.lt_size hoC)) g3.sz, .nil, by rw [e3] at x4; exact x4⟩⟩
    · refine seg_execs_nil ?_
      refine seg_execs_nil ?_
      exact done _ s2 s2 m .raise hlo2
  · rw [if_neg (by rw [decide_eq_false (by omega : ¬ (ns.length : Int) = 0)]; exact Bool.false_ne_true)]
    obtain ⟨n0, rfl⟩ : ∃ q, n = q + 1 := ⟨n - 1, by omega⟩
    refine seg_execs_cons ?_
    refine seg_If ?_
    rw [hov]
    refine gt_eq (i := (ns.length : Int).fmod 2) (j := 0) (G := fxP P w mod C f cd) (ge_bin (Φ := fun v s' => ∃ t, v = .int ns.length t) (ge_len (G := fxP P w mod C f cd) hlo1.bk rfl ml hl (pins hlo1)) fun v s2 g2 ⟨t2, e2⟩ => ⟨fun u s' => ∃ t, u = .int 2 t, ge_int.mono fun v s' g ⟨e1, e2⟩ => e1, fun u s3 g3 ⟨t3, e3⟩ Q E hq => by
      rw [e2, e3]
      exact PyProof.Rows.mod_int (by decide) (hq _ _ (.tok _ _) ⟨_, rfl⟩)⟩) (fun s1 g1 => ge_int.mono fun v s' g ⟨e1, e2⟩ => e1) rfl _ _ fun b s2 g2 eb => ?_
    subst eb
    have hlo2 := hlo1.grow g2
    have em : (ns.length : Int).fmod 2 = ((ns.length % 2 : Nat) : Int) := by
      rw [Int.fmod_eq_emod_of_nonneg _ (by decide)]; omega
    rw [em]
    by_cases h2 : ns.length % 2 = 0
    · rw [if_pos (decide_eq_true (by omega : ((ns.length % 2 : Nat) : Int) = 0))]
      refine seg_execs_cons ?_
      refine seg_For (fun _ => rfl) ?_
      rw [hov]
      refine ge_callTy (G := fxP P w mod C f cd) (Ψ := fun vs s' => ∃ t u, vs = [.int 1 t, .int ns.length u]) (Φ := fun v s' => ∃ r t u q, v = .ref r ∧ IsRange s'.heap r 1 ns.length 1 t u q) hlo2.bk rfl mr boot_range
        (ga_cons (Φ := fun v s' => ∃ t, v = .int 1 t) (ge_int.mono fun v s' g ⟨e1, e2⟩ => e1) fun v s3 g3 ⟨t3, e3⟩ => ga_cons (Φ := fun v s' => ∃ t, v = .int ns.length t) (ge_len (G := fxP P w mod C f cd) (hlo2.grow g3).bk rfl ml hl (pins (hlo2.grow g3))) fun u s4 g4 ⟨t4, e4⟩ =>
          fun Q E hq => ga_nil (G := fxP P w mod C f cd) _ _ fun vs s5 g5 ⟨e5, e6⟩ => hq _ _ g5 ⟨t3, t4, by rw [e3, e4, e5]⟩)
        (fun vs s3 g3 ⟨t, u, e3⟩ Q E hq => by
          rw [e3]
          exact call_range_2 (hq _ _ (.push _ _ _) ⟨_, t, u, _, rfl, IsRange.new _ _ _ _ _ _ _⟩)) (by decide) (by decide) rfl rfl _ _ fun v s3 g3 ⟨r, t, u, q, e3, hr⟩ => ?_
      subst e3
      have hlo3 := hlo2.grow g3
      refine wpAny_pyIter_range hr (small_one (by decide) (by decide) (by omega) (by omega)) ?_
      intro p
      have hlo4 := hlo3.grow (Grow.push s3 { cls := .type "range_iterator", data := .fields #[rawInt 1, rawInt (Builtin.Range.rangeSize 1 ns.length 1), rawInt 1] } s3.toks)
      refine outer mod (ih n0 rfl) hkp hmg hbind (L := prs (n0 + 1) ns) (ns := ns) rfl rfl hb hov rfl rfl rfl ⟨hrm.hd, by have := hrm.dp; omega⟩ h0 h2 hle hl rfl hlo3.lt hlo3.alt rfl (fun s₀' s' m' hlo' => ?_) (ns.length - 1) 0 _ s _ m (Nat.add_zero _) ?_ hlo4 ?_
      · refine seg_execs_nil ?_
        refine seg_execs_nil ?_
        refine seg_execs_nil ?_
        exact done _ s₀' s' m' .raise hlo'
      · unfold cntP
        simp
      · have e1 : Builtin.Range.rangeSize 1 (ns.length : Int) 1 = (ns.length : Int) - 1 := by rw [rangeSize_one, if_pos (by omega)]
        show (s3.heap.push _).get? s3.heap.objs.size = some _
        rw [e1, show (1 : Int) + ((0 : Nat) : Int) = 1 by omega, show (ns.length : Int) - 1 - ((0 : Nat) : Int) = (ns.length : Int) - 1 by omega]
        exact Heap.get?_push_size _ rfl
    · rw [if_neg (by rw [decide_eq_false (by omega : ¬ ((ns.length % 2 : Nat) : Int) = 0)]; exact Bool.false_ne_true)]
      rw [prs_odd _ _ (by omega)]
      refine seg_execs_nil ?_
      refine seg_execs_nil ?_
      refine seg_execs_nil ?_
      exact done _ s s2 m .raise hlo2
include mod in
/-- a call of pairings, n by n -/
theorem call51 (F : Fun K "pairings" "pairings" sPairs f fd) (hmg : mg "pairings" = some (.ref f)) (hbind : ∀ (s : Shared) (v : Value), BindsTo s fd ⟨[v], []⟩ [("pins", v)]) (ml : mg "len" = none) (mr : mg "range" = none) : ∀ n : Nat, CallOk P w base f fd n := by
  have step : ∀ n : Nat, (∀ n0, n = n0 + 1 → CallOk P w base f fd n0) → CallOk P w base f fd n := by
    intro n ih A s k pv ns args hle hl hrm bk hbs hsq hb
    obtain ⟨oc, od, kV, doc, pm, an, cdv, ct, osl, rfl, lk, hcd⟩ := F.ex
    have KX : K.In s.heap := mod.kin.keeps bk
    have lim : s.heap.NoLimit := mod.nolimit.keeps bk
    refine codeAny_call_generator (by have := hrm.dp; omega) (KX _ _ lk) rfl rfl rfl rfl (PySem.W.codeRec_of KX hcd) (hb _ _ _ _ ?_)
    refine wpAny_newFunctionEnv_cells rfl (fun x hx => by rw [List.mem_singleton.mp hx]; exact .inl rfl) fun env he s1 x => ?_
    subst he
    refine ⟨lim.keeps x.toInCall.keep, ?_⟩
    obtain ⟨h1, tk, es1, hk1⟩ := x.done
    have os1 : s1.os = s.os := by rw [es1]
    have gen1 : s1.gens = s.gens := by rw [es1]
    have lt1 : s.heap.objs.size < s1.heap.objs.size := x.toInCall.ns.lt
    have kp1 : ∀ b o, s.heap.get? b = some o → s1.heap.get? b = some o := x.toInCall.keep
    refine ⟨s.heap.objs.size, s1.heap.objs.size, rfl, Nat.le_refl _, lt1, os1, fun b => AllBare.push (by rw [gen1]; exact b) rfl, fun b o e => Heap.get?_push_of_some _ (kp1 b o e), fun i hi => ?_, ?_, fun A' hrm' => ?_⟩
    · show (s1.gens.push _)[i]? = _
      rw [gen1, Array.getElem?_push_lt hi, Array.getElem?_eq_getElem hi]
    · show _ < (s1.gens.push _).size
      rw [Array.size_push, gen1]
      exact Nat.lt_succ_self _
    · have hgn : ({ s1 with gens := s1.gens.push (.fresh (.func (defBody sPairs) (envP s.heap.objs.size f cdv))), toks := s1.toks + 1 + 1, heap := s1.heap.push { cls := .type "generator", data := .fields #[.int s1.gens.size 0, .str "pairings" s1.toks, .str "pairings" (s1.toks + 1)] } } : Shared).heap.IsGen s1.heap.objs.size s.gens.size := by
        rw [← gen1]
        exact ⟨_, _, _, Heap.get?_push_size _ rfl, rfl, rfl, rfl⟩
      refine ⟨hgn, Nat.le_of_lt lt1, .fresh (.func (defBody sPairs) (envP s.heap.objs.size f cdv)), ?_, fun s2 o2 b2 q2 => ⟨rfl, ?_⟩⟩
      · show (s1.gens.push _)[s.gens.size]? = _
        rw [← gen1]
        exact Array.getElem?_push_size ..
      · have nm2 : s2.heap.Ns s.heap.objs.size (bindL (envP s.heap.objs.size f cdv).kindOf [("pins", pv)] fun _ => none) := x.toInCall.ns.at' fun o e => o2.new _ _ (Nat.le_refl _) (Heap.get?_push_of_some _ e)
        have hm2 : (bindL (envP s.heap.objs.size f cdv).kindOf [(("pins" : Str), pv)] fun _ => none) "pins" = some pv := by
          exact L2.bindL_get (P := ["pins"]) (vs := [pv]) (i := 0) (by decide) rfl rfl rfl
        obtain ⟨og, nm, qn, hog, _⟩ := hgn
        exact body51 mod ih F.kp hmg hbind ml mr (hrm'.in1.deeper' _) hbs hle hl ⟨.refl _ _ _ _, nm2, b2, q2, hm2, ⟨lt1, ⟨og, o2.new _ _ (Nat.le_of_lt lt1) hog⟩, Nat.lt_of_lt_of_le (by show _ < (s1.gens.push _).size; rw [Array.size_push, gen1]; exact Nat.lt_succ_self _) o2.gsz⟩, fun p hp => by cases hp⟩
  intro n
  induction n with
  | zero => exact step 0 fun n0 h => by omega
  | succ n ih =>
    refine step (n + 1) fun n0 h => ?_
    have e : n0 = n := by omega
    rw [e]
    exact ih
end
end G51

set_option Elab.async false
set_option linter.all false
set_option maxRecDepth 100000
set_option maxHeartbeats 4000000
/-! k51: the law's draws -/
namespace K51
open PySem PySem.Spec PyProof.Rows L2 G51
abbrev sCell : Stmt := topS 3
abbrev sDigits : Stmt := topS 4
abbrev sSame : Stmt := topS 5
abbrev sAll : Stmt := topS 6
abbrev sRow : Stmt := topS 7
abbrev sRight : Stmt := topS 8
abbrev sLaw : Stmt := topS 9
theorem scCell : FnScope ["_law_script", "_law_k", "_law_seed", "_law_cell_here"] ["_law_script", "_law_k"] (defScope sCell) := ⟨rfl, rfl, rfl, by decide +kernel, rfl, by decide +kernel, by decide +kernel⟩
theorem scDigits : FnScope ["_law_cell_here", "_law_sizes", "_law_row_here", "_law_rest", "_law_size", "_law_seed", "_law_k", "_law_twice"] ["_law_cell_here", "_law_sizes"] (defScope sDigits) := ⟨rfl, rfl, rfl, by decide +kernel, rfl, by decide +kernel, by decide +kernel⟩
theorem int_at {ns : List Int} {i : Nat} (h : i < ns.length) : (ns.map V.int)[i]? = some (.int ns[i]) := by rw [List.getElem?_map, List.getElem?_eq_getElem h] <;> rfl
theorem len_map (ns : List Int) : (ns.map V.int).length = ns.length := List.length_map _
/-- any number may be drawn -/
def spCell (K : PySem.W.Frag) : Sp := fun vs H Q _ => ∃ (a : Addr) (ns : List Int) (k : Int), vs = [.ref a, .int k] ∧ SqL K H a (ns.map V.int) ∧ ns.length ≤ 63 ∧ 0 ≤ k ∧ k ≤ 1000 ∧ ∀ n : Int, Q (.int n) H
def digitsOk (sizes row : List Int) : Prop := row.length = sizes.length ∧ ∀ i (h : i < row.length) (h2 : i < sizes.length), 0 ≤ row[i] ∧ row[i] < sizes[i]
def spDigits (K : PySem.W.Frag) : Sp := fun vs H Q _ => ∃ (n : Int) (a : Addr) (sizes : List Int), vs = [.int n, .ref a] ∧ SqL K H a (sizes.map V.int) ∧ sizes.length ≤ 1000 ∧ (∀ z ∈ sizes, 0 < z ∧ z < 1000000000) ∧
  ∀ (p : Addr) (row : List Int), H p = none → digitsOk sizes row → Q (.ref p) (upd H p (.lst (row.map V.int)))
section
variable {P : Program} {w : World} {K : PySem.W.Frag} {mg : Str → Option Value} {base : Heap} {f : Addr} {fd : FuncData}
theorem ok_cell (F : Fun K "_law_cell" "_law_cell" sCell f fd) (m_len : mg "len" = none) (m_int : mg "int" = none) : FnOk P w K mg base CX0 1 f fd ["_law_script", "_law_k"] (spCell K) := by
  refine F.ok scCell (fun vs H Q E h => ?_) (fun cdv A outer s H vs Q E hr h => ?_)
  · obtain ⟨a, ns, k, rfl, _⟩ := h
    rfl
  obtain ⟨a, ns, k, rfl, hS, h63, h0, h1, q⟩ := h
  refine ⟨_, (pss_cons (ps_if (pt_cmpR op_lt (pv 1) (pe_callB call_len_seq rfl m_len boot_len (pa_cons (pv 0) pa_nil)) (nomark _)) (pss_one (ps_ret (pe_ix ix_list (pv 0) (pv 1) (fun _ _ => rfl)))) pss_nil)
    (pss_cons (ps_set (i := 2) scCell.nd rfl (Or.inl rfl) pe_int)
    (pss_cons (ps_for PassesOwn.never rfl (pi_list (pv 0)) (pg_name (i := 3) scCell.nd rfl (Or.inl rfl)) (pss_one (ps_set (i := 2) scCell.nd rfl (Or.inl rfl) (pe_op op_mod (pe_callTy call_int1 rfl m_int boot_int (pa_cons (pe_op op_add (pe_op op_mul (pv 2) pe_int) (pe_op op_mod (pe_callTy call_int1 rfl m_int boot_int (pa_cons (pv 3) pa_nil)) pe_int)) pa_nil)) pe_int))))
    (pss_one (ps_ret (pe_op op_mod (pe_callTy call_int1 rfl m_int boot_int (pa_cons (pe_op op_mul (pe_op op_mul (pe_op op_add (pv 2) pe_int) (pe_op op_add (pv 1) pe_int)) pe_int) pa_nil)) pe_int)))))), ?_⟩
  refine ⟨_, rfl, _, rfl, a, _, rfl, .inl hS, _, _, rfl, rfl, _, rfl, ?_⟩
  refine ite2 (fun c => ?_) (fun c => ?_)
  · have c' : k < (((ns.map V.int).length : Nat) : Int) := of_decide_eq_true c
    rw [len_map] at c'
    have hk : k.toNat < ns.length := by omega
    refine ⟨_, rfl, _, rfl, a, _, k, .int ns[k.toNat], rfl, rfl, hS, at_of (j := k.toNat) (by omega) (int_at hk), q _⟩
  · refine ⟨_, rfl, a, rfl, ⟨_, hS⟩, for_list (xs := ns.map V.int) (fun i σ H' => H' = H ∧ ∃ z x, 0 ≤ z ∧ z < 1000003 ∧ σ = [some (.ref a), some (.int k), some (.int z), x]) ⟨rfl, 17, none, by decide, by decide, rfl⟩ (fun i σ H' _ h => by rw [h.1]; exact hS) (fun i x σ H' hx h => ?_) fun σ H' h => ?_⟩
    · obtain ⟨rfl, z, y, z0, z1, rfl⟩ := h
      rw [List.getElem?_map] at hx
      obtain ⟨n, _, rfl⟩ := Option.map_eq_some_iff.mp hx
      refine ⟨_, rfl, _, _, rfl, rfl, .inl ⟨by omega, by omega⟩, _, rfl, .inl ⟨_, rfl, _, _, rfl, rfl, (by show (0 : Int) < 1000003; decide), _, _, rfl, rfl, .inl ⟨_, rfl, _, _, rfl, rfl, (by show (0 : Int) < 1000003; decide), ?_⟩⟩⟩
      exact ⟨rfl, _, _, Int.emod_nonneg _ (by decide), Int.emod_lt_of_pos _ (by decide), rfl⟩
    · obtain ⟨rfl, z, y, z0, z1, rfl⟩ := h
      refine ⟨_, rfl, _, _, rfl, rfl, _, rfl, _, _, rfl, rfl, _, _, rfl, rfl, .inl ⟨by omega, by omega⟩, _, _, rfl, rfl, .inr ⟨by decide, by decide⟩, .inl ⟨_, rfl, _, _, rfl, rfl, (by show (0 : Int) < 2147483647; decide), q _⟩⟩
theorem digitsOk.snoc {sizes row : List Int} {i : Nat} {z x : Int} (h1 : row.length = i) (h : digitsOk (sizes.take i) row) (hz : sizes[i]? = some z) (x0 : 0 ≤ x) (x1 : x < z) : digitsOk (sizes.take (i + 1)) (row ++ [x]) := by
  obtain ⟨l, q⟩ := h
  have hi := (List.getElem?_eq_some_iff.mp hz).1
  have e : sizes.take (i + 1) = sizes.take i ++ [z] := by rw [List.take_add_one, hz]; rfl
  rw [e]
  refine ⟨by rw [List.length_append, List.length_append, l]; rfl, fun j h2 h3 => ?_⟩
  by_cases hj : j < row.length
  · rw [List.getElem_append_left hj, List.getElem_append_left (by omega)]
    exact q j hj (by omega)
  · have hj' : j = row.length := by rw [List.length_append, List.length_singleton] at h2; omega
    subst hj'
    rw [List.getElem_append_right (Nat.le_refl _), List.getElem_append_right (by omega)]
    simp only [Nat.sub_self, List.getElem_singleton]
    exact ⟨x0, x1⟩
theorem ok_digits (F : Fun K "_law_digits" "_law_digits" sDigits f fd) (m_len : mg "len" = none) (m_int : mg "int" = none) (m_range : mg "range" = none) : FnOk P w K mg base CX0 1 f fd ["_law_cell_here", "_law_sizes"] (spDigits K) := by
  refine F.ok scDigits (fun vs H Q E h => ?_) (fun cdv A outer s H vs Q E hr h => ?_)
  · obtain ⟨n, a, sizes, rfl, _⟩ := h
    rfl
  obtain ⟨n, a, sizes, rfl, hS, hl, hz, q⟩ := h
  refine ⟨_, (pss_cons (ps_set (i := 2) scDigits.nd rfl (Or.inl rfl) (pe_lst pa_nil))
    (pss_cons (ps_set (i := 3) scDigits.nd rfl (Or.inl rfl) (pe_callTy call_int1 rfl m_int boot_int (pa_cons (pv 0) pa_nil)))
    (pss_cons (ps_if (pt_cmpR op_ge (pv 3) (pe_op op_pow pe_int pe_int) (nomark _)) (pss_cons (ps_set (i := 3) scDigits.nd rfl (Or.inl rfl) (pe_op op_sub (pv 3) (pe_op op_pow pe_int pe_int)))
    (pss_cons (ps_for PassesOwn.never rfl (pi_list (pv 1)) (pg_name (i := 4) scDigits.nd rfl (Or.inl rfl)) (pss_cons (ps_expr (pe_bm PySem.F.plainAttrs_list PySem.F.slot_list_append PySem.F.type_list_append mt_append (pv 2) (pa_cons (pe_op op_mod (pe_callTy call_int1 rfl m_int boot_int (pa_cons (pv 3) pa_nil)) (pv 4)) pa_nil)))
    (pss_one (ps_set (i := 3) scDigits.nd rfl (Or.inl rfl) (pe_op op_fdiv (pe_callTy call_int1 rfl m_int boot_int (pa_cons (pv 3) pa_nil)) (pv 4))))))
    (pss_one (ps_ret (pv 2))))) pss_nil)
    (pss_cons (ps_set (i := 5) scDigits.nd rfl (Or.inl rfl) (pe_op op_mod (pe_callTy call_int1 rfl m_int boot_int (pa_cons (pv 3) pa_nil)) pe_int))
    (pss_cons (ps_for PassesOwn.never rfl (pi_range1 rfl m_range (pa_cons (pe_callB call_len_seq rfl m_len boot_len (pa_cons (pv 1) pa_nil)) pa_nil)) (pg_name (i := 6) scDigits.nd rfl (Or.inl rfl)) (pss_cons (ps_set (i := 5) scDigits.nd rfl (Or.inl rfl) (pe_op op_mod (pe_callTy call_int1 rfl m_int boot_int (pa_cons (pe_op op_add (pe_op op_add (pe_op op_mul (pv 5) pe_int) (pe_op op_mul pe_int (pv 6))) pe_int) pa_nil)) pe_int))
    (pss_cons (ps_set (i := 7) scDigits.nd rfl (Or.inl rfl) (pe_op op_mod (pe_callTy call_int1 rfl m_int boot_int (pa_cons (pe_op op_mul (pv 5) (pe_op op_add (pe_op op_fdiv (pv 5) pe_int) pe_int)) pa_nil)) pe_int))
    (pss_one (ps_expr (pe_bm PySem.F.plainAttrs_list PySem.F.slot_list_append PySem.F.type_list_append mt_append (pv 2) (pa_cons (pe_op op_mod (pe_op op_fdiv (pv 7) pe_int) (pe_ix ix_list (pv 1) (pv 6) (fun _ _ => rfl))) pa_nil)))))))
    (pss_one (ps_ret (pv 2)))))))), ?_⟩
  refine ⟨(by show 0 ≤ sizeLine; decide), fun p hp => ?_⟩
  have hS' : ∀ row : List Int, SqL K (upd H p (.lst (row.map V.int))) a (sizes.map V.int) := fun row => Same.seq (fun b o e => by rw [upd_ne (ne_of_none e hp)]; exact e) hS
  refine ⟨_, rfl, .inl ⟨_, rfl, _, rfl, _, _, rfl, rfl, ⟨by decide, by decide, by decide⟩, _, _, rfl, rfl, _, rfl, ?_⟩⟩
  refine ite2 (fun c => ?_) (fun c => ?_)
  · refine ⟨_, rfl, _, _, rfl, rfl, ⟨by decide, by decide, by decide⟩, _, _, rfl, rfl, ?_⟩
    refine ⟨_, rfl, a, rfl, ⟨_, hS' []⟩, for_list (xs := sizes.map V.int) (fun i σ H' => ∃ (row : List Int) (z : Int) (x y1 y2 y3 : Option V), row.length = i ∧ digitsOk (sizes.take i) row ∧ H' = upd H p (.lst (row.map V.int)) ∧ σ = [some (.int n), some (.ref a), some (.ref p), some (.int z), x, y1, y2, y3])
      ⟨[], _, none, none, none, none, rfl, ⟨rfl, fun i h => absurd h (Nat.not_lt_zero _)⟩, rfl, rfl⟩ (fun i σ H' _ ⟨row, _, _, _, _, _, _, _, e, _⟩ => by rw [e]; exact hS' row) (fun i x σ H' hx h => ?_) fun σ H' h => ?_⟩
    · obtain ⟨row, z, x1, y1, y2, y3, hri, hrow, rfl, rfl⟩ := h
      rw [List.getElem?_map] at hx
      obtain ⟨sz, hsz, rfl⟩ := Option.map_eq_some_iff.mp hx
      obtain ⟨h0, h9⟩ := hz sz (List.mem_of_getElem? hsz)
      have hil := (List.getElem?_eq_some_iff.mp hsz).1
      refine ⟨_, rfl, .inl ⟨rfl, _, SqL.of upd_same⟩, _, rfl, .inl ⟨_, rfl, _, rfl, _, _, rfl, rfl, h0, ?_⟩⟩
      refine ⟨p, _, _, rfl, rfl, upd_same, by rw [len_map]; exact small1000 (by omega), ?_⟩
      refine ⟨_, rfl, .inl ⟨_, rfl, _, rfl, _, _, rfl, rfl, ⟨h0, by omega⟩, ?_⟩⟩
      refine ⟨row ++ [z % sz], _, _, _, _, _, ?_, hrow.snoc hri hsz (Int.emod_nonneg _ (by omega)) (Int.emod_lt_of_pos _ h0), ?_, rfl⟩
      · rw [List.length_append, hri]; rfl
      · rw [upd_upd, List.map_append]; rfl
    · obtain ⟨row, z, x1, y1, y2, y3, hri, hrow, rfl, rfl⟩ := h
      rw [len_map, List.take_length] at hrow
      exact ⟨_, rfl, q p row hp hrow⟩
  · refine ⟨_, rfl, .inl ⟨_, rfl, _, _, rfl, rfl, (by show (0 : Int) < 2147483629; decide), ?_⟩⟩
    refine ⟨_, rfl, a, _, rfl, .inl (hS' []), _, rfl, by omega, by rw [len_map]; omega, ?_⟩
    rw [len_map, Int.toNat_natCast]
    refine for_range (lo := 0) (n := sizes.length) (fun i σ H' => ∃ (row : List Int) (z z2 : Int) (x y1 y3 : Option V), row.length = i ∧ digitsOk (sizes.take i) row ∧ 0 ≤ z2 ∧ z2 < 2147483647 ∧ H' = upd H p (.lst (row.map V.int)) ∧ σ = [some (.int n), some (.ref a), some (.ref p), some (.int z), x, some (.int z2), y1, y3])
      ⟨[], _, _, none, none, none, rfl, ⟨rfl, fun i h => absurd h (Nat.not_lt_zero _)⟩, Int.emod_nonneg _ (by decide), Int.lt_trans (Int.emod_lt_of_pos _ (by decide)) (by decide : (2147483629 : Int) < 2147483647), rfl, rfl⟩ (fun i σ H' hi h => ?_) fun σ H' h => ?_
    · obtain ⟨row, z, z2, x1, y1, y3, hri, hrow, h0, h1, rfl, rfl⟩ := h
      have hsz : sizes[i]? = some sizes[i] := List.getElem?_eq_getElem hi
      obtain ⟨hs0, hs9⟩ := hz sizes[i] (List.getElem_mem hi)
      refine ⟨_, rfl, _, _, rfl, rfl, .inl ⟨by omega, by omega⟩, _, rfl, _, _, rfl, rfl, .inl ⟨by decide, by decide⟩, _, _, rfl, rfl, _, _, rfl, rfl, .inl ⟨_, rfl, _, _, rfl, rfl, (by show (0 : Int) < 2147483647; decide), ?_⟩⟩
      have g0 : 0 ≤ (z2 * 48271 + 974711 * (0 + (i : Int)) + 12345) % 2147483647 := Int.emod_nonneg _ (by decide)
      have g1 : (z2 * 48271 + 974711 * (0 + (i : Int)) + 12345) % 2147483647 < 2147483647 := Int.emod_lt_of_pos _ (by decide)
      refine ⟨_, rfl, _, rfl, _, _, rfl, rfl, ⟨by decide, by decide⟩, _, _, rfl, rfl, _, _, rfl, rfl, .inl ⟨by omega, by omega⟩, .inl ⟨_, rfl, _, _, rfl, rfl, (by show (0 : Int) < 2147483629; decide), ?_⟩⟩
      refine ⟨_, rfl, .inl ⟨rfl, _, SqL.of upd_same⟩, _, rfl, _, _, rfl, rfl, ⟨by decide, by decide⟩, _, rfl, _, rfl, a, _, _, .int sizes[i], rfl, rfl, hS' row, at_of (j := i) (by omega) (int_at hi), _, _, rfl, rfl, hs0, ?_⟩
      refine ⟨p, _, _, rfl, rfl, upd_same, by rw [len_map]; exact small1000 (by omega), ?_⟩
      refine ⟨row ++ [(((z2 * 48271 + 974711 * (0 + (i : Int)) + 12345) % 2147483647) * (((z2 * 48271 + 974711 * (0 + (i : Int)) + 12345) % 2147483647) / 65537 + 3)) % 2147483629 / 19 % sizes[i]], _, _, _, _, _, ?_, hrow.snoc hri hsz (Int.emod_nonneg _ (by omega)) (Int.emod_lt_of_pos _ hs0), g0, g1, ?_, rfl⟩
      · rw [List.length_append, hri]; rfl
      · rw [upd_upd, List.map_append]; rfl
    · obtain ⟨row, z, z2, x1, y1, y3, hri, hrow, h0, h1, rfl, rfl⟩ := h
      rw [List.take_length] at hrow
      exact ⟨_, rfl, q p row hp hrow⟩
end
end K51

set_option Elab.async false
set_option linter.all false
set_option maxRecDepth 100000
set_option maxHeartbeats 4000000
/-! k51: the law's rows of pins -/
namespace K51
open PySem PySem.Spec PyProof.Rows L2 G51
theorem scRow : FnScope ["_law_row_here", "_law_count", "_law_numbers", "_law_at", "_law_k"] ["_law_row_here"] (defScope sRow) := ⟨rfl, rfl, rfl, by decide +kernel, rfl, by decide +kernel, by decide +kernel⟩
theorem same_new {H : Hp} {p : Addr} (h : H p = none) (o : HO) : Same H (upd H p o) := fun b u q => by rw [upd_ne (ne_of_none q h)]; exact q
theorem same_mut {H H' : Hp} {p : Addr} {o : HO} (e : Same H H') (h : H p = none) : Same H (upd H' p o) := fun b u q => by rw [upd_ne (ne_of_none q h)]; exact e b u q
/-- what is laid on what is new -/
theorem same_old {H H' : Hp} {p : Addr} (e : Same H H') (h : H' p = none) : H p = none := e.free h
def szRow : List Int := [16, 4, 8, 8, 8, 8, 8, 8, 8, 8, 8]
def cntRow : List Int := [4, 6, 2, 8, 0, 5, 4, 1, 6, 7, 3, 8, 2, 6, 9, 10]
def stpRow : List Int := [1, 1, 2, 1, 3, 1, 4, 2]
def spRow (K : PySem.W.Frag) : Sp := fun vs H Q _ => ∃ (a : Addr) (row : List Int), vs = [.ref a] ∧ SqL K H a (row.map V.int) ∧ digitsOk szRow row ∧
  ∀ (p : Addr) (ns : List Int) (H' : Hp), Same H H' → H p = none → H' p = some (.lst (ns.map V.int)) → ns.Pairwise (· < ·) → ns.length ≤ 10 → Q (.ref p) H'
theorem pick {cs : List Int} {d : Int} {n : Nat} (hl : cs.length = n) (h0 : 0 ≤ d) (h1 : d < n) : ∃ c, c ∈ cs ∧ atI (cs.map V.int) d = some (.int c) := by
  have h : d.toNat < cs.length := by omega
  exact ⟨cs[d.toNat], List.getElem_mem h, at_of (j := d.toNat) (by omega) (int_at h)⟩
section
variable {P : Program} {w : World} {K : PySem.W.Frag} {mg : Str → Option Value} {base : Heap} {f : Addr} {fd : FuncData}
theorem ok_row (F : Fun K "_law_row" "_law_row" sRow f fd) (m_len : mg "len" = none) (m_int : mg "int" = none) (m_range : mg "range" = none) : FnOk P w K mg base CX0 1 f fd ["_law_row_here"] (spRow K) := by
  refine F.ok scRow (fun vs H Q E h => ?_) (fun cdv A outer s H vs Q E hr h => ?_)
  · obtain ⟨a, row, rfl, _⟩ := h
    rfl
  obtain ⟨a, row, rfl, hS, ⟨hl, hd⟩, q⟩ := h
  have hl11 : row.length = 11 := hl
  have dg : ∀ (i : Nat) (h : i < row.length), ∃ z, atI (row.map V.int) (i : Int) = some (.int z) ∧ 0 ≤ z ∧ z < szRow[i]'(by rw [← hl]; exact h) := fun i h =>
    ⟨row[i], at_of rfl (int_at h), hd i h (by rw [← hl]; exact h)⟩
  obtain ⟨d0, hd0, hd00, hd01⟩ := dg 0 (by omega)
  obtain ⟨d1, hd1, hd10, hd11⟩ := dg 1 (by omega)
  refine ⟨_, (pss_cons (ps_set (i := 1) scRow.nd rfl (Or.inl rfl) (pe_ix ix_list (pe_lst (pa_cons pe_int (pa_cons pe_int (pa_cons pe_int (pa_cons pe_int (pa_cons pe_int (pa_cons pe_int (pa_cons pe_int (pa_cons pe_int (pa_cons pe_int (pa_cons pe_int (pa_cons pe_int (pa_cons pe_int (pa_cons pe_int (pa_cons pe_int (pa_cons pe_int (pa_cons pe_int pa_nil))))))))))))))))) (pe_ix ix_list (pv 0) pe_int (fun _ _ => rfl)) (fun _ _ => rfl)))
    (pss_cons (ps_set (i := 2) scRow.nd rfl (Or.inl rfl) (pe_lst pa_nil))
    (pss_cons (ps_set (i := 3) scRow.nd rfl (Or.inl rfl) (pe_ix ix_list (pv 0) pe_int (fun _ _ => rfl)))
    (pss_cons (ps_for PassesOwn.never rfl (pi_range1 rfl m_range (pa_cons (pv 1) pa_nil)) (pg_name (i := 4) scRow.nd rfl (Or.inl rfl)) (pss_cons (ps_expr (pe_bm PySem.F.plainAttrs_list PySem.F.slot_list_append PySem.F.type_list_append mt_append (pv 2) (pa_cons (pv 3) pa_nil)))
    (pss_one (ps_set (i := 3) scRow.nd rfl (Or.inl rfl) (pe_op op_add (pv 3) (pe_ix ix_list (pe_lst (pa_cons pe_int (pa_cons pe_int (pa_cons pe_int (pa_cons pe_int (pa_cons pe_int (pa_cons pe_int (pa_cons pe_int (pa_cons pe_int pa_nil))))))))) (pe_ix ix_list (pv 0) (pe_op op_add pe_int (pe_op op_mod (pe_callTy call_int1 rfl m_int boot_int (pa_cons (pv 4) pa_nil)) pe_int)) (fun _ _ => rfl)) (fun _ _ => rfl)))))))
    (pss_one (ps_ret (pv 2))))))), ?_⟩
  refine ⟨(by show 16 ≤ sizeLine; decide), fun t ht => ?_⟩
  have s1 := same_new ht (.lst (cntRow.map V.int))
  obtain ⟨c, hc, hcAt⟩ := pick (cs := cntRow) (d := d0) rfl hd00 hd01
  have hc2 : 0 ≤ c ∧ c ≤ 10 := by
    have : ∀ c ∈ cntRow, 0 ≤ c ∧ c ≤ 10 := by decide
    exact this c hc
  refine ⟨_, rfl, a, _, 0, _, rfl, rfl, s1.seq hS, hd0, t, _, d0, _, rfl, rfl, SqL.of upd_same, hcAt, ?_⟩
  refine ⟨(by show 0 ≤ sizeLine; decide), fun p hp => ?_⟩
  have s2 := s1.trans (same_new hp (.lst []))
  have hp0 : H p = none := s1.free hp
  refine ⟨_, rfl, a, _, 1, _, rfl, rfl, s2.seq hS, hd1, ?_⟩
  refine ⟨_, rfl, c, rfl, by omega, by omega, ?_⟩
  refine for_range (lo := 0) (n := c.toNat) (fun i σ H' => ∃ (ns : List Int) (z : Int) (x : Option V), ns.length = i ∧ ns.Pairwise (· < ·) ∧ (∀ y ∈ ns, y < z) ∧ Same H H' ∧ H' p = some (.lst (ns.map V.int)) ∧ σ = [some (.ref a), some (.int c), some (.ref p), some (.int z), x])
    ⟨[], _, none, rfl, List.Pairwise.nil, List.forall_mem_nil _, s2, upd_same, rfl⟩ (fun i σ H' hi h => ?_) fun σ H' h => ?_
  · obtain ⟨ns, z, x, hni, hpw, hlt, sH, hH, rfl⟩ := h
    refine ⟨_, rfl, .inl ⟨rfl, _, SqL.of hH⟩, _, rfl, p, _, _, rfl, rfl, hH, by rw [len_map]; exact small1000 (by omega), ?_⟩
    have s3 : Same H (upd H' p (.lst (ns.map V.int ++ [.int z]))) := same_mut sH hp0
    refine ⟨_, rfl, (by show 8 ≤ sizeLine; decide), fun u hu => ?_⟩
    have s4 := s3.trans (same_new hu (.lst (stpRow.map V.int)))
    have im : 0 ≤ ((0 : Int) + (i : Int)) % 9 ∧ ((0 : Int) + (i : Int)) % 9 < 9 := ⟨Int.emod_nonneg _ (by decide), Int.emod_lt_of_pos _ (by decide)⟩
    have hj : (2 + ((0 : Int) + (i : Int)) % 9).toNat < row.length := by omega
    obtain ⟨dj, hdj, hdj0, hdj1⟩ := dg _ hj
    have hsz : szRow[(2 + ((0 : Int) + (i : Int)) % 9).toNat]'(by rw [← hl]; exact hj) = 8 := by
      have all : ∀ n : Nat, 2 ≤ n → ∀ h : n < szRow.length, szRow[n] = 8 := by
        intro n h1 h
        have h' : n < 11 := h
        have : n = 2 ∨ n = 3 ∨ n = 4 ∨ n = 5 ∨ n = 6 ∨ n = 7 ∨ n = 8 ∨ n = 9 ∨ n = 10 := by omega
        rcases this with rfl | rfl | rfl | rfl | rfl | rfl | rfl | rfl | rfl <;> rfl
      exact all _ (by omega) _
    rw [hsz] at hdj1
    obtain ⟨e, he, heAt⟩ := pick (cs := stpRow) (d := dj) rfl hdj0 hdj1
    have he2 : 1 ≤ e := by
      have : ∀ c ∈ stpRow, 1 ≤ c := by decide
      exact this e he
    refine ⟨_, rfl, _, rfl, .inl ⟨_, rfl, _, _, rfl, rfl, (by show (0 : Int) < 9; decide), _, _, rfl, rfl, ?_⟩⟩
    refine ⟨a, _, _, _, rfl, rfl, s4.seq hS, (by rw [show (2 : Int) + ((0 : Int) + (i : Int)) % 9 = (((2 + ((0 : Int) + (i : Int)) % 9).toNat : Nat) : Int) by omega]; exact hdj), u, _, dj, _, rfl, rfl, SqL.of upd_same, heAt, _, _, rfl, rfl, ?_⟩
    refine ⟨ns ++ [z], z + e, _, by rw [List.length_append, hni]; rfl, ?_, ?_, s4, ?_, rfl⟩
    · rw [List.pairwise_append]
      exact ⟨hpw, List.pairwise_singleton _ _, fun y hy t ht => by rw [List.mem_singleton.mp ht]; exact hlt y hy⟩
    · intro y hy
      rcases List.mem_append.mp hy with hy | hy
      · have := hlt y hy; omega
      · rw [List.mem_singleton.mp hy]; omega
    · rw [upd_ne (fun z => by rw [← z, upd_same] at hu; cases hu), upd_same, List.map_append]; rfl
  · obtain ⟨ns, z, x, hni, hpw, hlt, sH, hH, rfl⟩ := h
    exact ⟨_, rfl, q p ns H' sH hp0 hH hpw (by omega)⟩
end
end K51

set_option Elab.async false
set_option linter.all false
set_option maxRecDepth 100000
set_option maxHeartbeats 4000000
/-! k51: sorted over pairings that are in order -/
namespace K51
open PySem PySem.Spec PyProof.Rows L2 G51 M51
/-- a pair, a pairing over the abstract heap -/
def PrH (H : Hp) (p : Int × Int) (v : V) : Prop := ∃ b : Addr, v = .ref b ∧ H b = some (.tup [.int p.1, .int p.2])
def PgH (H : Hp) (ps : Pg) (v : V) : Prop := ∃ (b : Addr) (vs : List V), v = .ref b ∧ H b = some (.tup vs) ∧ Paired (PrH H) ps vs
theorem PrH.same {H H' : Hp} (e : Same H H') {p : Int × Int} {v : V} (h : PrH H p v) : PrH H' p v := let ⟨b, e1, e2⟩ := h; ⟨b, e1, e _ _ e2⟩
theorem PgH.same {H H' : Hp} (e : Same H H') {p : Pg} {v : V} (h : PgH H p v) : PgH H' p v := let ⟨b, vs, e1, e2, e3⟩ := h; ⟨b, vs, e1, e _ _ e2, paired_mono (fun _ _ z => z.same e) e3⟩
def encQ (p : Int × Int) : PyData := .tuple [.int p.1, .int p.2]
def encPg (ps : Pg) : PyData := .tuple (ps.map encQ)
theorem dp_pg {K : PySem.W.Frag} {H : Hp} {ps : Pg} {v : V} (h : PgH H ps v) : Dp K H v (encPg ps) := by
  obtain ⟨b, vs, rfl, e2, e3⟩ := h
  refine .tup (SqT.of e2) ?_
  clear e2
  induction e3 with
  | nil => exact .nil
  | cons h t ih =>
    obtain ⟨b', rfl, e⟩ := h
    exact .cons (.tup (SqT.of e) (.cons (.int _) (.cons (.int _) .nil))) ih
theorem depth_pg (ps : Pg) : (encPg ps).depth ≤ 2 := by
  have h : PyData.depthAll (ps.map encQ) ≤ 1 := by
    induction ps with
    | nil => simp [PyData.depthAll]
    | cons p ps ih =>
      rw [List.map_cons, PyData.depthAll]
      have : (encQ p).depth ≤ 1 := by simp [encQ, PyData.depth, PyData.depthAll]
      omega
  unfold encPg
  simp only [PyData.depth]
  omega
theorem alike_pg : ∀ ps qs : Pg, PySem.W.alike (encPg ps) (encPg qs) = true := by
  have q : ∀ p p' : Int × Int, PySem.W.alike (encQ p) (encQ p') = true := fun p p' => by simp [encQ, PySem.W.alike, PySem.W.alikeAll]
  have h : ∀ ps qs : Pg, PySem.W.alikeAll (ps.map encQ) (qs.map encQ) = true := by
    intro ps
    induction ps with
    | nil => intro qs; simp [PySem.W.alikeAll]
    | cons p ps ih =>
      intro qs
      cases qs with
      | nil => simp [PySem.W.alikeAll]
      | cons r qs =>
        rw [List.map_cons, List.map_cons, PySem.W.alikeAll, q, ih]
        rfl
  intro ps qs
  unfold encPg
  simp only [PySem.W.alike]
  exact h ps qs
theorem lt_pg : ∀ ps qs : Pg, PySem.W.dataLt (encPg ps) (encPg qs) = ltP ps qs := by
  have q : ∀ p p' : Int × Int, PySem.W.alike (encQ p) (encQ p') = true := fun p p' => by simp [encQ, PySem.W.alike, PySem.W.alikeAll]
  intro ps qs
  unfold encPg
  rw [PySem.W.dataLt_tuple]
  induction ps generalizing qs with
  | nil =>
    cases qs with
    | nil => rfl
    | cons r qs => rfl
  | cons p ps ih =>
    cases qs with
    | nil => rfl
    | cons r qs =>
      rw [List.map_cons, List.map_cons, PySem.W.dataLt_cons (q p r), ih]
      have e : PyData.eqv (encQ p) (encQ r) = decide (p = r) := by
        obtain ⟨a, b⟩ := p
        obtain ⟨c, d⟩ := r
        by_cases h1 : a = c <;> by_cases h2 : b = d <;> simp [encQ, PyData.eqv, PyData.eqvAll, h1, h2]
      rw [e]
      show _ = if p = r then ltP ps qs else ltQ p r
      by_cases h : p = r
      · rw [if_pos h, if_pos (decide_eq_true h)]
      · rw [if_neg h, if_neg (by rw [decide_eq_false h]; exact Bool.false_ne_true)]
        unfold encQ ltQ
        exact PySem.W.dataLt_ii _ _ _ _
theorem one_of {α : Type} : ∀ {xs : List α}, xs.length = 1 → ∃ x, xs = [x]
  | [x], _ => ⟨x, rfl⟩
/-- one empty tuple -/
theorem sortsAt_unit {prog : Program} {w : World} {A : Around} {s : Shared} {v : Value} {as : List Addr} (r : Reads s.heap v (.tuple []) as) : PySem.W.SortsAt prog w A s (PySem.W.dataKind s.heap [.tuple []]) [v] := by
  have hal : PySem.W.AllAlike [PyData.tuple []] := fun d hd d' hd' => by
    rw [List.mem_singleton.mp hd, List.mem_singleton.mp hd']
    simp [PySem.W.alike, PySem.W.alikeAll]
  refine ⟨fun u hu => ?_, PyProof.Rows.tuples' false, ?_, fun h2 => absurd h2 (by simp)⟩
  · rw [List.mem_singleton.mp hu]
    exact ⟨_, PySem.W.dataKind_some hal (List.mem_singleton.mpr rfl) r⟩
  · intro E x y a b Q ha hb hq
    obtain ⟨d, as, hd, ra, rfl⟩ := PySem.W.dataKind_inv ha
    obtain ⟨d', as', hd', rb, rfl⟩ := PySem.W.dataKind_inv hb
    rw [List.mem_singleton.mp hd] at ra hq
    rw [List.mem_singleton.mp hd'] at rb hq
    cases ra with
    | @tuple l o xs n _ _ h1 h2 h3 h4 =>
      cases rb with
      | @tuple l' o' xs' n' _ _ k1 k2 k3 k4 =>
        have n1 : xs.size = 0 := by simpa using SeqAt.ReadsAll.length _ _ _ h4
        have n2 : xs'.size = 0 := by simpa using SeqAt.ReadsAll.length _ _ _ k4
        refine PySem.W.kat_lt h1 h3 k1 k3 ?_
        have e1 : xs.toList = [] := by rw [Array.size_eq_zero_iff.mp n1]
        rw [e1]
        show Q (decide (xs.size < xs'.size)) s
        rw [n1, n2]
        exact hq
theorem each_vals : ∀ {xs : List V} {its : List Value} {Ls : List Pg}, Vals xs its → Ls.length = xs.length → PySem.W.EachIs (fun (v : Value) (b : V × Pg) => RelV b.1 v) its (xs.zip Ls)
  | _, _, _, .nil, _ => .nil
  | _, _, [], .cons _ _, h => by simp at h
  | _, _, _ :: _, .cons r t, h => .cons r (each_vals t (by simpa using h))
theorem each_reads {X : Cx} {pins : List (Addr × Obj)} {σ : L2.St} {H : Hp} {s : Shared} (I : Inv X pins σ H s) : ∀ {xs : List V} {its : List Value} {Ls : List Pg}, Vals xs its → Paired (PgH H) Ls xs → PySem.W.EachIs (fun (v : Value) (b : V × Pg) => ∃ as, Reads s.heap v (encPg b.2) as) its (xs.zip Ls)
  | _, _, _, .nil, .nil => .nil
  | _, _, _, .cons r t, .cons h q => .cons (Dp.reads I _ _ _ (dp_pg h) r) (each_reads I t q)
theorem vals_each : ∀ {out : List Value} {zs : List (V × Pg)}, PySem.W.EachIs (fun (v : Value) (b : V × Pg) => RelV b.1 v) out zs → Vals (zs.map (·.1)) out
  | _, _, .nil => .nil
  | _, _, .cons h t => .cons h (vals_each t)
/-- sorted of pairings in order is the same list anew -/
def rSortedPg (K : PySem.W.Frag) : List V → Hp → VK → Prop := fun vs H Q => ∃ (a : Addr) (us : List V) (Ls : List Pg), vs = [.ref a] ∧ SqL K H a us ∧ Paired (PgH H) Ls us ∧ Ls.length ≤ 100000 ∧ (Ls = [[]] ∨ ∀ p ∈ Ls, p ≠ []) ∧ Ls.Pairwise (fun a b => ltP b a = false) ∧
  ∀ p, H p = none → Q (.ref p) (upd H p (.lst us))
theorem cr_sortedPg {X : Cx} (hu : X.A.units + 100 < cLine) : CallR X (.builtin "sorted") (rSortedPg X.K) := by
  intro pins s σ H vs us Q I r h
  obtain ⟨a, xs, Ls, rfl, hs, hp, hl, hk, hsr, q⟩ := h
  obtain ⟨its, rv, pl, hz⟩ := I.list hs
  rw [Vals.ref1 r]
  have hlen := rv.length
  have hlen2 := paired_len hp
  have e : PySem.W.EachIs (fun (v : Value) (b : V × Pg) => RelV b.1 v) its (xs.zip Ls) := each_vals rv hlen2
  have er : PySem.W.EachIs (fun (v : Value) (b : V × Pg) => ∃ as, Reads s.heap v (encPg b.2) as) its (xs.zip Ls) := each_reads I rv hp
  have fin : ∀ out : List Value, PySem.W.EachIs (fun (v : Value) (b : V × Pg) => RelV b.1 v) out ((xs.zip Ls).mergeSort (PySem.W.dataLe false fun b => encPg b.2)) → EP X pins σ Q (.ref (s.heap.objs.size + 1)) { s with heap := sortedAll s.heap its out.toArray } := fun out ho => by
    have hpw : (xs.zip Ls).Pairwise fun a b => PySem.W.dataLe false (fun b : V × Pg => encPg b.2) a b = true := by
      have h2 : ((xs.zip Ls).map (·.2)).Pairwise fun a b => ltP b a = false := by
        rw [show (xs.zip Ls).map (·.2) = Ls from List.map_snd_zip (by omega)]
        exact hsr
      rw [List.pairwise_map] at h2
      refine h2.imp fun {a b} z => ?_
      show (!PySem.W.dataLt (encPg b.2) (encPg a.2)) = true
      rw [lt_pg, z]; rfl
    rw [List.mergeSort_of_pairwise hpw] at ho
    have hv : Vals xs out := by
      have := vals_each ho
      rw [show (xs.zip Ls).map (·.1) = xs from List.map_fst_zip (by omega)] at this
      exact this
    obtain ⟨ep, he'⟩ := PyProof.Rows.sortedAll_at s.heap its out.toArray
    exact ⟨.ref _, upd H (s.heap.objs.size + 1) (.lst xs), I.laid (t' := s.toks) (fun _ _ => PyProof.Rows.sortedAll_old) (Nat.le_succ _) ⟨hz, out, ep, hv, he'⟩, rfl, q _ (I.hok.fresh (Nat.le_succ _))⟩
  rcases hk with hk | hk
  · -- one empty pairing
    subst hk
    have hx1 : xs.length = 1 := by rw [← hlen2]; rfl
    obtain ⟨x, rfl⟩ := one_of hx1
    obtain ⟨u, rfl⟩ := one_of (hlen.symm.trans hx1)
    have r1 : ∃ as, Reads s.heap u (.tuple []) as := by
      cases er with
      | cons h _ => exact h
    obtain ⟨as, r1⟩ := r1
    have r2 : Reads (PySem.W.sortingHeap (PySem.W.copyHeap s.heap [u]) (s.heap.objs.size + 1) [u]) u (.tuple []) as := PyProof.Rows.Reads.keeps (fun _ _ e => PySem.W.sorting_copy_old e) r1
    refine PySem.W.sorted_vals (κ := PySem.W.dataKind (PySem.W.sortingHeap (PySem.W.copyHeap s.heap [u]) (s.heap.objs.size + 1) [u]) [.tuple []]) pl.isList (sortsAt_unit r2) (by rw [sizeLine_eq]; exact Nat.le_of_lt (by show 1 < 16777216; decide)) ?_
    have ez : ([x] : List V).zip ([[]] : List Pg) = [(x, [])] := rfl
    rw [ez] at e fin
    have z := PySem.W.sortVals_data (h' := PySem.W.sortingHeap (PySem.W.copyHeap s.heap [u]) (s.heap.objs.size + 1) [u]) (β := V × Pg) (enc := fun b => encPg b.2) (bs := [(x, [])]) false e (.cons ⟨as, r2⟩ .nil) (PySem.W.AllAlike.of fun b b' => alike_pg _ _)
    exact fin _ z
  · refine PySem.W.sorted_data (β := V × Pg) (enc := fun b => encPg b.2) (R := fun v b => RelV b.1 v) pl.isList e er (PySem.W.AllAlike.of fun b b' => alike_pg _ _) ?_ (by rw [List.length_zip, sizeLine_eq]; exact Nat.le_trans (Nat.min_le_right _ _) (Nat.le_trans hl (by decide))) (fun b _ => ?_) fun out h1 h2 => fin out h2
    · refine .inl fun d hd => ?_
      obtain ⟨b, hb, rfl⟩ := List.mem_map.mp hd
      have hb2 : b.2 ∈ Ls := (List.of_mem_zip hb).2
      have hne := hk b.2 hb2
      unfold encPg
      cases hb3 : b.2 with
      | nil => exact absurd hb3 hne
      | cons x r => exact ⟨encQ x, r.map encQ, rfl⟩
    · have h2 := depth_pg b.2
      show X.A.units + 2 + (encPg b.2).depth < cLine
      omega
end K51

set_option Elab.async false
set_option linter.all false
set_option maxRecDepth 100000
set_option maxHeartbeats 4000000
/-! k51: the law's own pairings -/
namespace K51
open PySem PySem.Spec PyProof.Rows L2 G51 M51
theorem scAll : FnScope ["_law_numbers", "_law_begun", "_law_step", "_law_longer", "_law_entry", "_law_left", "_law_k"] ["_law_numbers"] (defScope sAll) := ⟨rfl, rfl, rfl, by decide +kernel, rfl, by decide +kernel, by decide +kernel⟩
/-- within a comprehension: the written part by its name -/
theorem ix_listB {X : Cx} {K : PySem.W.Frag} (h : X.K = K) : IxR X (rIxL K) := by subst h; exact ix_list
/-! the stages -/
def st : Nat → List Ent → List Ent
  | 0, l => l
  | n + 1, l => stage (st n l)
theorem stages_st : ∀ (n : Nat) (l : List Ent), stages n l = st n l
  | 0, _ => rfl
  | n + 1, l => by
    have h : ∀ (n : Nat) (l : List Ent), st n (stage l) = stage (st n l) := by
      intro n
      induction n with
      | zero => intro l; rfl
      | succ n ih => intro l; show stage (st n (stage l)) = stage (st (n + 1) l); rw [ih]; rfl
    show stages n (stage l) = stage (st n l)
    rw [stages_st n, h]
theorem ext_mem {e e' : Ent} (h : e' ∈ ext e) : e'.1.length = e.1.length + 1 ∧ e'.2.length + 2 = e.2.length := by
  obtain ⟨k, hk, rfl⟩ := List.mem_map.mp h
  obtain ⟨a, b⟩ := mem_places.mp hk
  have := others_length e.2 k a b
  exact ⟨by simp, by show (others e.2 k).length + 2 = _; omega⟩
theorem st_mem {ns : List Int} : ∀ (i : Nat) (e : Ent), e ∈ st i [([], ns)] → e.1.length = i ∧ e.2.length + 2 * i = ns.length
  | 0, e, h => by rw [List.mem_singleton.mp h]; exact ⟨rfl, rfl⟩
  | i + 1, e, h => by
    obtain ⟨e', he', h'⟩ := List.mem_flatMap.mp h
    have q := ext_mem h'
    have r := st_mem i e' he'
    omega
theorem flat_ext : ∀ l : List Ent, (∀ e ∈ l, e.2.length ≤ 10) → (l.flatMap ext).length ≤ 10 * l.length := by
  intro l
  induction l with
  | nil => intro _; simp
  | cons e l ih =>
    intro h
    have h1 := h e List.mem_cons_self
    have h2 := ih fun e' he' => h e' (List.mem_cons_of_mem _ he')
    rw [List.flatMap_cons, List.length_append, List.length_cons]
    have h3 : (ext e).length ≤ 10 := by unfold ext places; rw [List.length_map, List.length_range']; omega
    omega
theorem st_count {ns : List Int} (hl : ns.length ≤ 10) : ∀ i : Nat, (st i [([], ns)]).length ≤ 10 ^ i
  | 0 => Nat.le_refl _
  | i + 1 => by
    have ih := st_count hl i
    show ((st i [([], ns)]).flatMap ext).length ≤ _
    have q := flat_ext
    have h := q (st i [([], ns)]) fun e he => by have := st_mem i e he; omega
    rw [Nat.pow_succ]
    omega
theorem turn_small {ns : List Int} (hl : ns.length ≤ 10) {i : Nat} (hi : i ≤ 4) (j : Nat) {e : Ent} (he : (st i [([], ns)])[j]? = some e) (q : Nat) : (((st i [([], ns)]).take j).flatMap ext ++ (ext e).take q).length ≤ 100010 := by
  have h3 := flat_ext ((st i [([], ns)]).take j) fun e' he' => by have := st_mem i e' (List.mem_of_mem_take he'); omega
  have h4 : ((st i [([], ns)]).take j).length ≤ 10 ^ i := by rw [List.length_take]; have := st_count hl i; omega
  have h5 : (ext e).length ≤ 10 := by unfold ext places; rw [List.length_map, List.length_range']; have := st_mem i e (List.mem_of_getElem? he); omega
  have h6 : 10 ^ i ≤ 10000 := Nat.le_trans (Nat.pow_le_pow_right (by decide) hi) (by decide)
  rw [List.length_append, List.length_take]
  omega
theorem none_of_same {H H' : Hp} {p : Addr} (e : Same H H') (h : H' p = none) : H p = none := by
  cases h2 : H p with
  | none => rfl
  | some o => have := e _ _ h2; rw [h] at this; cases this
theorem ift {c : Prop} [Decidable c] {p q : Prop} (h : c) (x : p) : if c then p else q := by rw [if_pos h]; exact x
theorem iff' {c : Prop} [Decidable c] {p q : Prop} (h : ¬ c) (x : q) : if c then p else q := by rw [if_neg h]; exact x
/-! heaps -/
def dropG (H : Hp) (g : Addr) : Hp := fun b => if b = g then none else H b
theorem dropG_ne {H : Hp} {g b : Addr} (h : b ≠ g) : dropG H g b = H b := if_neg h
theorem dropG_le (H : Hp) (g : Addr) : Same (dropG H g) H := fun b o h => by
  by_cases e : b = g
  · rw [e] at h; unfold dropG at h; rw [if_pos rfl] at h; cases h
  · rwa [dropG_ne e] at h
theorem dropG_of {H H' : Hp} {g : Addr} {b : Addr} {o : HO} (e : Same H H') (n : H g = none) (h : H b = some o) : dropG H' g b = some o := by
  rw [dropG_ne (ne_of_none h n)]; exact e _ _ h
theorem same_dropG {H H' : Hp} {g : Addr} (e : Same H H') (n : H g = none) : Same H (dropG H' g) := fun _ _ h => dropG_of e n h
theorem dropG_new {H : Hp} {g p : Addr} {o : HO} {og : HO} (hg : H g = some og) (hp : H p = none) : Same (dropG H g) (dropG (upd H p o) g) := fun b u h => by
  have hb : b ≠ g := fun z => by rw [z] at h; unfold dropG at h; rw [if_pos rfl] at h; cases h
  rw [dropG_ne hb] at h ⊢
  rw [upd_ne (ne_of_none h hp)]; exact h
theorem dropG_at {H : Hp} {g p : Addr} {o og : HO} (hg : H g = some og) (hp : H p = none) : dropG (upd H p o) g p = some o := (dropG_ne (ne_of_none hg hp).symm).trans upd_same
theorem dropG_mut {H : Hp} {g : Addr} {o : HO} : dropG (upd H g o) g = dropG H g := by
  funext b
  by_cases e : b = g
  · rw [e]; unfold dropG; rw [if_pos rfl, if_pos rfl]
  · rw [dropG_ne e, dropG_ne e, upd_ne e]
def EntH (H : Hp) (e : Ent) (v : V) : Prop := ∃ (b l : Addr) (tv : V), v = .ref b ∧ H b = some (.lst [tv, .ref l]) ∧ PgH H e.1 tv ∧ H l = some (.lst (e.2.map V.int))
theorem EntH.same {H H' : Hp} (e : Same H H') {x : Ent} {v : V} (h : EntH H x v) : EntH H' x v := let ⟨b, l, tv, e1, e2, e3, e4⟩ := h; ⟨b, l, tv, e1, e _ _ e2, e3.same e, e _ _ e4⟩
theorem paired_get {α β : Type} {R : α → β → Prop} : ∀ {xs : List α} {ys : List β} {i : Nat} {y : β}, Paired R xs ys → ys[i]? = some y → ∃ x, xs[i]? = some x ∧ R x y
  | _, _, _, _, .nil, h => by simp at h
  | _, _, 0, _, .cons r _, h => by simp at h; subst h; exact ⟨_, rfl, r⟩
  | _, _, i + 1, _, .cons _ t, h => by
    obtain ⟨x, h1, h2⟩ := paired_get (i := i) t (by simpa using h)
    exact ⟨x, by simpa using h1, h2⟩
theorem paired_app {α β : Type} {R : α → β → Prop} : ∀ {xs xs' : List α} {ys ys' : List β}, Paired R xs ys → Paired R xs' ys' → Paired R (xs ++ xs') (ys ++ ys')
  | _, _, _, _, .nil, s => s
  | _, _, _, _, .cons r t, s => .cons r (paired_app t s)
theorem cutV_map (ns : List Int) (lo hi : Option Int) : cutV (ns.map V.int) lo hi = (cutI ns lo hi).map V.int := by
  unfold cutV cutI
  rw [List.length_map, List.map_take, List.map_drop]
/-- all pairings -/
def allPg (ns : List Int) : List Pg := prs 5 ns
def spAll (K : PySem.W.Frag) : Sp := fun vs H Q _ => ∃ (a : Addr) (ns : List Int), vs = [.ref a] ∧ SqL K H a (ns.map V.int) ∧ ns.length ≤ 10 ∧ ns.Pairwise (· < ·) ∧
  ∀ (p : Addr) (us : List V) (H' : Hp), Same H H' → H p = none → H' p = some (.lst us) → Paired (PgH H') (allPg ns) us → Q (.ref p) H'
/-- a new entry: what one append makes -/
theorem ent_new {H : Hp} {e : Ent} {k : Nat} {t1 t2 p3 l3 pE : Addr} {tv : V} (ht1 : H t1 = some (.tup [.int (e.2.getD 0 0), .int (e.2.getD k 0)])) (htv : PgH H e.1 tv)
    (hp : (e.1 = [] ∧ p3 = t2 ∧ H t2 = some (.tup [.ref t1])) ∨ ∃ b vs, tv = .ref b ∧ H b = some (.tup vs) ∧ H p3 = some (.tup (vs ++ [.ref t1]))) (hl : H l3 = some (.lst ((others e.2 k).map V.int))) (hE : H pE = some (.lst [.ref p3, .ref l3])) :
    EntH H (e.1 ++ [(e.2.getD 0 0, e.2.getD k 0)], others e.2 k) (.ref pE) := by
  refine ⟨pE, l3, .ref p3, rfl, hE, ?_, hl⟩
  obtain ⟨b, vs, rfl, hb, hv⟩ := htv
  rcases hp with ⟨h1, rfl, h2⟩ | ⟨b2, vs2, e2, h2, h3⟩
  · rw [h1]
    exact ⟨_, _, rfl, h2, .cons ⟨t1, rfl, ht1⟩ .nil⟩
  · cases e2
    rw [hb] at h2
    cases h2
    exact ⟨p3, _, rfl, h3, paired_app hv (.cons ⟨t1, rfl, ht1⟩ .nil)⟩
theorem rcatA_of {K : PySem.W.Frag} {H : Hp} {a b : Addr} {xs ys : List V} {Q : VK} (ha : SqT K H a xs) (hb : SqT K H b ys) (hz : xs.length + ys.length ≤ sizeLine) (hy : ys ≠ [])
    (h : ∀ (p : Addr) (H5 : Hp), Same H H5 → (∀ g og, H g = some og → Same (dropG H g) (dropG H5 g)) → ((xs = [] ∧ p = b ∧ H5 = H) ∨ H5 p = some (.tup (xs ++ ys))) → Q (.ref p) H5) : rCatA K (.ref a) (.ref b) H Q := by
  refine ⟨a, b, xs, ys, rfl, rfl, ha, hb, hz, fun hx => h b H (.refl H) (fun g og _ => .refl _) (.inl ⟨hx, rfl, rfl⟩), fun _ e => absurd e hy, fun _ _ p hp => h p _ (same_new hp _) (fun g og hg => dropG_new hg hp) (.inr upd_same)⟩
section
variable {P : Program} {w : World} {K : PySem.W.Frag} {mg : Str → Option Value} {base : Heap} {f : Addr} {fd : FuncData}
theorem ok_all (F : Fun K "_law_all_pairings" "_law_all_pairings" sAll f fd) (m_len : mg "len" = none) (m_int : mg "int" = none) (m_range : mg "range" = none) (m_list : mg "list" = none) (m_sorted : mg "sorted" = none) : FnOk P w K mg base CX0 1 f fd ["_law_numbers"] (spAll K) := by
  refine F.ok scAll (fun vs H Q E h => ?_) (fun cdv A outer s H vs Q E hr h => ?_)
  · obtain ⟨a, ns, rfl, _⟩ := h
    rfl
  obtain ⟨a, ns, rfl, hS, hl, hasc, q⟩ := h
  have hu : (A.deeper (envOfC "_law_all_pairings" (defScope sAll) s.heap.objs.size f cdv)).units + 100 < cLine := by have := hr.un; omega
  refine ⟨_, (pss_cons (ps_set (i := 1) scAll.nd rfl (Or.inl rfl) (pe_lst (pa_cons (pe_lst (pa_cons (pe_tup pa_nil) (pa_cons (pe_callTy call_list_of rfl m_list boot_list (pa_cons (pv 0) pa_nil)) pa_nil))) pa_nil)))
    (pss_cons (ps_for PassesOwn.never rfl (pi_range1 rfl m_range (pa_cons (pe_op op_fdiv (pe_callB call_len_seq rfl m_len boot_len (pa_cons (pv 0) pa_nil)) pe_int) pa_nil)) (pg_name (i := 2) scAll.nd rfl (Or.inl rfl)) (pss_cons (ps_set (i := 3) scAll.nd rfl (Or.inl rfl) (pe_lst pa_nil))
    (pss_cons (ps_for PassesOwn.never rfl (pi_list (pv 1)) (pg_name (i := 4) scAll.nd rfl (Or.inl rfl)) (pss_cons (ps_set (i := 5) scAll.nd rfl (Or.inl rfl) (pe_ix ix_list (pv 4) pe_int (fun _ _ => rfl)))
    (pss_one (ps_for PassesOwn.never rfl (pi_range2 rfl m_range (pa_cons pe_int (pa_cons (pe_callB call_len_seq rfl m_len boot_len (pa_cons (pv 5) pa_nil)) pa_nil))) (pg_name (i := 6) scAll.nd rfl (Or.inl rfl)) (pss_one (ps_expr (pe_bm PySem.F.plainAttrs_list PySem.F.slot_list_append PySem.F.type_list_append mt_append (pv 3) (pa_cons (pe_lst (pa_cons (pe_op op_catA (pe_ix ix_list (pv 4) pe_int (fun _ _ => rfl)) (pe_tup (pa_cons (pe_tup (pa_cons (pe_ix ix_list (pv 5) pe_int (fun _ _ => rfl)) (pa_cons (pe_ix ix_list (pv 5) (pv 6) (fun _ _ => rfl)) pa_nil))) pa_nil))) (pa_cons (pe_op op_cat (pe_slice sl_list (pv 5) (po_some pe_int) (po_some (pv 6))) (pe_slice sl_list (pv 5) (po_some (pe_op op_add (pv 6) pe_int)) po_none)) pa_nil))) pa_nil))))))))
    (pss_one (ps_set (i := 1) scAll.nd rfl (Or.inl rfl) (pe_callTy call_list_of rfl m_list boot_list (pa_cons (pv 3) pa_nil)))))))
    (pss_cons (ps_if (pt_cmpR op_eq (pe_op op_mod (pe_callTy call_int1 rfl m_int boot_int (pa_cons (pe_callB call_len_seq rfl m_len boot_len (pa_cons (pv 0) pa_nil)) pa_nil)) pe_int) pe_int (nomark _)) (pss_one (ps_ret (pe_lst pa_nil))) pss_nil)
    (pss_one (ps_ret (pe_callB (cr_sortedPg hu) rfl m_sorted boot_sorted (pa_cons (pe_lc (own := [("_law_entry", 4)]) (g := gName 4) (tt := tYes) rfl scAll.nd (pi_list (pv 1)) (blkOk_by (own := [("_law_entry", 4)]) (N := ["_law_numbers", "_law_begun", "_law_step", "_law_longer", "_law_entry", "_law_left", "_law_k"]) (sc := defScope sAll) (by decide +kernel)) (fun _ _ _ _ _ => pg_name (i := 4) scAll.nd rfl (Or.inl rfl)) (fun _ _ _ _ _ => pts_nil) (fun _ _ _ _ _ => (pe_ix (ix_listB (K := K) rfl) (pv 4) pe_int (fun _ _ => rfl)))) pa_nil))))))), ?_⟩
  refine ⟨(by show 0 ≤ sizeLine; decide), fun t0 ht0 => ?_⟩
  have s0 := same_new ht0 (.tup [])
  refine ⟨_, rfl, a, _, rfl, .inl (s0.seq hS), fun t1 ht1 => ?_⟩
  have s1 := s0.trans (same_new ht1 (.lst (ns.map V.int)))
  refine ⟨(by show 2 ≤ sizeLine; decide), fun t2 ht2 => ?_⟩
  have s2 := s1.trans (same_new ht2 (.lst [.ref t0, .ref t1]))
  refine ⟨(by show 1 ≤ sizeLine; decide), fun t3 ht3 => ?_⟩
  have s3 := s2.trans (same_new ht3 (.lst [.ref t2]))
  refine ⟨_, rfl, a, _, rfl, .inl (s3.seq hS), _, _, rfl, rfl, ⟨by decide, by decide⟩, _, rfl, ?_⟩
  rw [len_map]
  refine ⟨by omega, by omega, ?_⟩
  have en : ((ns.length : Int) / 2).toNat = ns.length / 2 := by omega
  rw [en]
  refine for_range (lo := 0) (n := ns.length / 2) (fun i σ H' => ∃ (bg : Addr) (es : List V) (x2 x3 x4 x5 x6 : Option V), Same H H' ∧ H' bg = some (.lst es) ∧ Paired (EntH H') (st i [([], ns)]) es ∧ σ = [some (.ref a), some (.ref bg), x2, x3, x4, x5, x6])
    ⟨t3, [.ref t2], none, none, none, none, none, s3, upd_same, .cons ⟨t2, t1, .ref t0, rfl, ?_, ⟨t0, [], rfl, ?_, .nil⟩, ?_⟩ .nil, rfl⟩ (fun i σ H' hi h => ?_) fun σ H' h => ?_
  · exact same_new ht3 _ _ _ upd_same
  · exact same_new ht3 _ _ _ (same_new ht2 _ _ _ (same_new ht1 _ _ _ upd_same))
  · exact same_new ht3 _ _ _ (same_new ht2 _ _ _ upd_same)
  · -- one stage
    obtain ⟨bg, es, x2, x3, x4, x5, x6, sH, hbg, hes, rfl⟩ := h
    refine ⟨(by show 0 ≤ sizeLine; decide), fun g hg => ?_⟩
    have hbl := paired_len hes
    have hcnt := st_count hl i
    have h10 : (10 : Nat) ^ i ≤ 100000 := Nat.le_trans (Nat.pow_le_pow_right (by decide) (by omega : i ≤ 5)) (by decide)
    refine ⟨_, rfl, bg, rfl, ⟨_, SqL.of (same_new hg _ _ _ hbg)⟩, for_list (xs := es) (fun j σ H2 => ∃ (us : List V) (y4 y5 y6 : Option V), Same H' (dropG H2 g) ∧ H2 g = some (.lst us) ∧ Paired (EntH (dropG H2 g)) (((st i [([], ns)]).take j).flatMap ext) us ∧ σ = [some (.ref a), some (.ref bg), some (.int (0 + (i : Int))), some (.ref g), y4, y5, y6])
      ⟨[], x4, x5, x6, same_dropG (same_new hg _) hg, upd_same, .nil, rfl⟩ (fun j σ H2 _ ⟨us, _, _, _, z, _⟩ => SqL.of (dropG_le _ _ _ _ (z _ _ hbg))) (fun j x σ H2 hx h => ?_) fun σ H2 h => ?_⟩
    · obtain ⟨us, y4, y5, y6, z, hg2, hus, rfl⟩ := h
      obtain ⟨e, he, b, l, tv, rfl, hb, htv, hle⟩ := paired_get hes hx
      have hb2 := dropG_le _ _ _ _ (z _ _ hb)
      have hle2 := dropG_le _ _ _ _ (z _ _ hle)
      refine ⟨_, rfl, b, _, 1, .ref l, rfl, rfl, SqL.of hb2, rfl, ?_⟩
      have hem := st_mem i e (List.mem_of_getElem? he)
      refine ⟨_, rfl, l, _, rfl, .inl (SqL.of hle2), 1, _, rfl, ⟨by decide, by decide, by rw [len_map]; omega, by rw [len_map]; omega⟩, ?_⟩
      rw [len_map]
      have en2 : ((e.2.length : Int) - 1).toNat = e.2.length - 1 := by omega
      rw [en2]
      refine for_range (lo := 1) (n := e.2.length - 1) (fun q σ H3 => ∃ (vs : List V) (y6 : Option V), Same H' (dropG H3 g) ∧ H3 g = some (.lst (us ++ vs)) ∧ Paired (EntH (dropG H3 g)) ((((st i [([], ns)]).take j).flatMap ext) ++ (ext e).take q) (us ++ vs) ∧ vs.length = q ∧ σ = [some (.ref a), some (.ref bg), some (.int (0 + (i : Int))), some (.ref g), some (.ref b), some (.ref l), y6])
        ⟨[], y6, z, by rw [List.append_nil]; exact hg2, by rw [List.append_nil, List.take_zero, List.append_nil]; exact hus, rfl, rfl⟩ (fun q σ H3 hq h => ?_) fun σ H3 h => ?_
      · obtain ⟨vs, y6, z3, hg3, hus3, hvl, rfl⟩ := h
        have hb3 := dropG_le _ _ _ _ (z3 _ _ hb)
        have hle3 := dropG_le _ _ _ _ (z3 _ _ hle)
        have hk1 : 1 + q < e.2.length := by omega
        have h0e : 0 < e.2.length := by omega
        have hx0 : (e.2.map V.int)[0]? = some (.int (e.2.getD 0 0)) := by rw [int_at h0e, List.getD_eq_getElem?_getD, List.getElem?_eq_getElem h0e]; rfl
        have hxk : (e.2.map V.int)[1 + q]? = some (.int (e.2.getD (1 + q) 0)) := by rw [int_at hk1, List.getD_eq_getElem?_getD, List.getElem?_eq_getElem hk1]; rfl
        obtain ⟨tb, tvs, rfl, htb, htvs⟩ := htv
        have htb3 := dropG_le _ _ _ _ (z3 _ _ htb)
        have hsmall : (us ++ vs).length < sizeLine := by
          have e1 := paired_len hus3
          have e2 := turn_small hl (by omega : i ≤ 4) j he q
          rw [sizeLine_eq]
          omega
        refine ⟨_, rfl, .inl ⟨rfl, _, SqL.of hg3⟩, ?_⟩
        -- entry[0]
        refine ⟨_, rfl, b, _, 0, .ref tb, rfl, rfl, SqL.of hb3, rfl, ?_⟩
        -- ((left[0], left[k]),)
        refine ⟨_, rfl, l, _, 0, _, rfl, rfl, SqL.of hle3, at_of (j := 0) rfl hx0, _, rfl, _, rfl, l, _, _, _, rfl, rfl, SqL.of hle3, at_of (j := 1 + q) (by omega) hxk, (by show 2 ≤ sizeLine; decide), fun u1 hu1 => ?_⟩
        refine ⟨(by show 1 ≤ sizeLine; decide), fun u2 hu2 => ?_⟩
        have w1 := dropG_new (o := .tup [.int (e.2.getD 0 0), .int (e.2.getD (1 + q) 0)]) hg3 hu1
        have hg4 : upd H3 u1 (.tup [.int (e.2.getD 0 0), .int (e.2.getD (1 + q) 0)]) g = some (.lst (us ++ vs)) := same_new hu1 _ _ _ hg3
        have w2 := w1.trans (dropG_new (o := .tup [.ref u1]) hg4 hu2)
        have hg5 := same_new hu2 (.tup [.ref u1]) _ _ hg4
        have hlt := dropG_le _ _ _ _ (w2 _ _ (z3 _ _ hle))
        have htv2 : Paired (PrH (dropG H3 g)) e.1 tvs := paired_mono (fun _ _ y => y.same z3) htvs
        have htl : tvs.length = i := by rw [← paired_len htvs, hem.1]
        refine rcatA_of (SqT.of (same_new hu2 _ _ _ (same_new hu1 _ _ _ htb3))) (SqT.of upd_same) (by rw [htl, sizeLine_eq]; show i + 1 ≤ _; omega) (fun z => by cases z) (fun p3 H5 s5 d5 hp => ?_)
        have w5 := w2.trans (d5 g _ hg5)
        have hg6 := s5 _ _ hg5
        have hl5 := dropG_le _ _ _ _ (w5 _ _ (z3 _ _ hle))
        refine ⟨_, rfl, 1, rfl, _, rfl, _, rfl, l, _, rfl, SqL.of hl5, fun l1 hl1 => ?_⟩
        have c1 : cutI e.2 (some 1) (some (1 + (q : Int))) = (e.2.take (1 + q)).drop 1 := by rw [show (1 + (q : Int)) = ((1 + q : Nat) : Int) by omega, cutI_front e.2 (1 + q) (by omega) hk1]
        have c2 : cutI e.2 (some (1 + (q : Int) + 1)) none = e.2.drop (1 + q + 1) := by rw [show (1 + (q : Int) + 1) = ((1 + q : Nat) : Int) + 1 by omega, cutI_back e.2 (1 + q) hk1]
        rw [cutV_map, c1]
        have w6 := w5.trans (dropG_new (o := .lst (((e.2.take (1 + q)).drop 1).map V.int)) hg6 hl1)
        have hg7 := same_new hl1 (.lst (((e.2.take (1 + q)).drop 1).map V.int)) _ _ hg6
        refine ⟨_, rfl, _, rfl, _, _, rfl, rfl, _, rfl, l, _, rfl, SqL.of (same_new hl1 _ _ _ hl5), fun l2 hl2 => ?_⟩
        rw [cutV_map, c2]
        have w7 := w6.trans (dropG_new (o := .lst ((e.2.drop (1 + q + 1)).map V.int)) hg7 hl2)
        have hg8 := same_new hl2 (.lst ((e.2.drop (1 + q + 1)).map V.int)) _ _ hg7
        refine ⟨l1, l2, _, _, rfl, rfl, same_new hl2 _ _ _ upd_same, upd_same, by rw [len_map, len_map, List.length_drop, List.length_take, List.length_drop, sizeLine_eq]; omega, fun l3 hl3 => ?_⟩
        rw [← List.map_append]
        have w8 := w7.trans (dropG_new (o := .lst ((others e.2 (1 + q)).map V.int)) hg8 hl3)
        have hg9 := same_new hl3 (.lst ((others e.2 (1 + q)).map V.int)) _ _ hg8
        refine ⟨(by show 2 ≤ sizeLine; decide), fun pE hpE => ?_⟩
        have w9 := w8.trans (dropG_new (o := .lst [.ref p3, .ref l3]) hg9 hpE)
        have hgA := same_new hpE (.lst [.ref p3, .ref l3]) _ _ hg9
        have D9 := dropG_new (o := .lst [.ref p3, .ref l3]) hg9 hpE
        have D8 := (dropG_new (o := .lst ((others e.2 (1 + q)).map V.int)) hg8 hl3).trans D9
        have D7 := (dropG_new (o := .lst ((e.2.drop (1 + q + 1)).map V.int)) hg7 hl2).trans D8
        have D6 := (dropG_new (o := .lst (((e.2.take (1 + q)).drop 1).map V.int)) hg6 hl1).trans D7
        have D5 := (d5 g _ hg5).trans D6
        have D2 := (dropG_new (o := .tup [.ref u1]) hg4 hu2).trans D5
        have f1 := D2 _ _ (dropG_at (o := .tup [.int (e.2.getD 0 0), .int (e.2.getD (1 + q) 0)]) hg3 hu1)
        have f2 := D5 _ _ (dropG_at (o := .tup [.ref u1]) hg4 hu2)
        have f8 := D9 _ _ (dropG_at (o := .lst ((others e.2 (1 + q)).map V.int)) hg8 hl3)
        have f9 := dropG_at (o := .lst [.ref p3, .ref l3]) hg9 hpE
        have ftb := w9 _ _ (z3 _ _ htb)
        have ftv := paired_mono (fun _ _ y => PrH.same w9 y) htv2
        have hx1 : (ext e).take (q + 1) = (ext e).take q ++ [(e.1 ++ [(e.2.getD 0 0, e.2.getD (1 + q) 0)], others e.2 (1 + q))] := by
          have hpl : (places e.2.length)[q]? = some (1 + q) := by
            unfold places; rw [List.getElem?_range' (by omega)]; simp
          have : (ext e)[q]? = some (e.1 ++ [(e.2.getD 0 0, e.2.getD (1 + q) 0)], others e.2 (1 + q)) := by
            unfold ext; rw [List.getElem?_map, hpl]; rfl
          rw [List.take_add_one, this]; rfl
        refine ⟨g, us ++ vs, .ref pE, rfl, rfl, hgA, hsmall, vs ++ [.ref pE], _, ?_, ?_, ?_, ?_, rfl⟩
        · rw [dropG_mut]; exact z3.trans w9
        · rw [← List.append_assoc]; exact upd_same
        · rw [dropG_mut, hx1, ← List.append_assoc, ← List.append_assoc]
          refine paired_app (paired_mono (fun _ _ y => y.same w9) hus3) (.cons (ent_new (t2 := u2) f1 ⟨tb, tvs, rfl, ftb, ftv⟩ ?_ f8 f9) .nil)
          rcases hp with ⟨hp1, hp2, hp3⟩ | hp
          · refine .inl ⟨?_, hp2, f2⟩
            exact List.eq_nil_of_length_eq_zero (by rw [hem.1, ← htl, hp1]; rfl)
          · refine .inr ⟨tb, tvs, rfl, ftb, D6 _ _ ((dropG_ne ?_).trans hp)⟩
            intro z
            rw [z, hg6] at hp
            cases hp
        · rw [List.length_append, hvl]; rfl
      · obtain ⟨vs, y6, z3, hg3, hus3, hvl, rfl⟩ := h
        refine ⟨us ++ vs, _, _, _, z3, hg3, ?_, rfl⟩
        rw [List.take_add_one, he, List.flatMap_append]
        have hxe : (ext e).length ≤ e.2.length - 1 := by unfold ext places; rw [List.length_map, List.length_range']; exact Nat.le_refl _
        rw [List.take_of_length_le (l := ext e) hxe] at hus3
        simpa using hus3
    · obtain ⟨us, y4, y5, y6, z, hg2, hus, rfl⟩ := h
      refine ⟨_, rfl, g, _, rfl, .inl (SqL.of hg2), fun c hc => ?_⟩
      have sz : Same H' H2 := fun b o h => dropG_le _ _ _ _ (z b o h)
      refine ⟨c, us, _, _, _, _, _, sH.trans (sz.trans (same_new hc _)), upd_same, ?_, rfl⟩
      rw [← hbl, List.take_length] at hus
      exact paired_mono (fun _ _ y => y.same ((dropG_le _ _).trans (same_new hc _))) hus
  · obtain ⟨bg, es, x2, x3, x4, x5, x6, sH, hbg, hes, rfl⟩ := h
    refine ⟨_, rfl, a, _, rfl, .inl (sH.seq hS), .inl ⟨_, rfl, _, _, rfl, rfl, (by show (0 : Int) < 2; decide), ⟨rfl, _, rfl, ?_⟩⟩⟩
    by_cases ho : ns.length % 2 = 1
    · refine ift (by rw [len_map]; exact decide_eq_true (congrArg V.int (by omega))) ?_
      refine ⟨(by show 0 ≤ sizeLine; decide), fun p hp => ?_⟩
      refine q p [] _ (sH.trans (same_new hp _)) (none_of_same sH hp) upd_same ?_
      rw [show allPg ns = [] from prs_odd 5 ns ho]
      exact .nil
    · refine iff' (by rw [len_map]; exact fun z => by have z1 := V.int.inj (of_decide_eq_true z); omega) ?_
      have hpr : (st (ns.length / 2) [([], ns)]).map (·.1) = allPg ns := by
        rw [← stages_st, stages_prs _ _ _ (by omega : ns.length = 2 * (ns.length / 2))]
        simp only [List.nil_append, List.map_id']
        exact prs_fuel _ _ _ (by omega) (by omega)
      have hbl := paired_len hes
      have hcnt := st_count hl (ns.length / 2)
      have h10 : (10 : Nat) ^ (ns.length / 2) ≤ 100000 := Nat.le_trans (Nat.pow_le_pow_right (by decide) (by omega : ns.length / 2 ≤ 5)) (by decide)
      have hne : allPg ns = [[]] ∨ ∀ p ∈ allPg ns, p ≠ [] := by
        by_cases h0 : ns.length = 0
        · left
          have := List.eq_nil_of_length_eq_zero h0
          subst this
          rfl
        · right
          intro p hp z
          have := prs_length 5 ns p hp
          rw [z] at this
          exact h0 (by simpa using this.symm)
      have hall : (allPg ns).length = es.length := by rw [← hbl, ← hpr, List.length_map]
      refine ⟨_, rfl, bg, rfl, ⟨_, SqL.of hbg⟩, fun D hD => ?_⟩
      refine lc_list (xs := es) (fun i H2 => ∃ acc, H2 = upd H' D (.lst acc) ∧ acc.length ≤ i ∧ Paired (PgH H') (((st (ns.length / 2) [([], ns)]).take i).map (·.1)) acc) ⟨[], rfl, Nat.zero_le _, .nil⟩ (fun i H2 _ ⟨acc, e, _⟩ => by rw [e]; exact SqL.of (same_new hD _ _ _ hbg)) (fun i x H2 hx h => ?_) fun H2 h => ?_
      · obtain ⟨acc, rfl, hal, hacc⟩ := h
        obtain ⟨e, he, b, l, tv, rfl, hb, htv, hle⟩ := paired_get hes hx
        have hD' := same_new hD (.lst acc) _ _ hb
        have hil : i < es.length := (List.getElem?_eq_some_iff.mp hx).1
        refine ⟨rfl, ?_⟩
        refine ⟨_, rfl, b, _, 0, tv, rfl, rfl, SqL.of hD', rfl, acc, upd_same, ?_, acc ++ [tv], upd_upd, ?_, ?_⟩
        · rw [sizeLine_eq]; omega
        · rw [List.length_append]; show acc.length + 1 ≤ _; omega
        · rw [List.take_add_one, he, List.map_append]
          exact paired_app hacc (.cons htv .nil)
      · obtain ⟨acc, rfl, hal, hacc⟩ := h
        rw [← hbl, List.take_length, hpr] at hacc
        refine ⟨D, acc, allPg ns, rfl, SqL.of upd_same, paired_mono (fun _ _ y => y.same (same_new hD _)) hacc, by rw [hall, ← hbl]; omega, hne, prs_sorted 5 ns hasc, fun p hp => ?_⟩
        exact q p acc _ (sH.trans ((same_new hD _).trans (same_new hp _))) (none_of_same (sH.trans (same_new hD _)) hp) upd_same (paired_mono (fun _ _ y => y.same ((same_new hD _).trans (same_new hp _))) hacc)
end
end K51

set_option Elab.async false
set_option linter.all false
set_option maxRecDepth 100000
set_option maxHeartbeats 4000000
/-! k51: the law's own equality -/
namespace K51
open PySem PySem.Spec PyProof.Rows L2 G51 M51
theorem scSame : FnScope ["_law_told", "_law_due", "_law_k"] ["_law_told", "_law_due"] (defScope sSame) := ⟨rfl, rfl, rfl, by decide +kernel, rfl, by decide +kernel, by decide +kernel⟩
theorem ix_tupB {X : Cx} {K : PySem.W.Frag} (h : X.K = K) : IxR X (rIxT K) := by subst h; exact ix_tup
/-- the same data, n levels deep -/
def DtH (H : Hp) : Nat → V → V → Prop
  | 0, x, y => ∃ i : Int, x = .int i ∧ y = .int i
  | n + 1, x, y => ∃ (a b : Addr) (xs ys : List V), x = .ref a ∧ y = .ref b ∧ Paired (DtH H n) xs ys ∧ xs.length ≤ 100000 ∧ ((H a = some (.lst xs) ∧ H b = some (.lst ys)) ∨ (H a = some (.tup xs) ∧ H b = some (.tup ys)))
theorem DtH.same {H H' : Hp} (e : Same H H') : ∀ {n : Nat} {x y : V}, DtH H n x y → DtH H' n x y
  | 0, _, _, h => h
  | n + 1, _, _, ⟨a, b, xs, ys, e1, e2, p, l, q⟩ => ⟨a, b, xs, ys, e1, e2, paired_mono (fun _ _ z => DtH.same e z) p, l, q.elim (fun q => .inl ⟨e _ _ q.1, e _ _ q.2⟩) fun q => .inr ⟨e _ _ q.1, e _ _ q.2⟩⟩
def spSame (n : Nat) : Sp := fun vs H Q _ => ∃ x y : V, vs = [x, y] ∧ DtH H n x y ∧ ∀ H', Same H H' → Q (.bl true) H'
def spNo : Sp := fun _ _ _ _ => False
theorem dropG_mono {H H' : Hp} (e : Same H H') (g : Addr) : Same (dropG H g) (dropG H' g) := fun b o h => by
  have hb : b ≠ g := fun z => by rw [z] at h; unfold dropG at h; rw [if_pos rfl] at h; cases h
  rw [dropG_ne hb] at h ⊢
  exact e _ _ h
theorem ka_list {K : PySem.W.Frag} : PySem.W.kitAny K (.type "list") [.type "list", .type "tuple"] = some true := kitAny_cons (b := true) (kit_ty (by decide +kernel)) (fun h => nomatch h) (fun _ => rfl)
theorem ka_tuple {K : PySem.W.Frag} : PySem.W.kitAny K (.type "tuple") [.type "list", .type "tuple"] = some true := kitAny_cons (b := false) (kit_ty (by decide +kernel)) (fun _ => kitAny_cons (b := true) (kit_ty (by decide +kernel)) (fun h => nomatch h) (fun _ => rfl)) (fun h => nomatch h)
theorem ka_int {K : PySem.W.Frag} : PySem.W.kitAny K (.type "int") [.type "list", .type "tuple"] = some false := kitAny_cons (b := false) (kit_ty (by decide +kernel)) (fun _ => kitAny_cons (b := false) (kit_ty (by decide +kernel)) (fun _ => kitAny_nil) (fun h => nomatch h)) (fun h => nomatch h)
section
variable {P : Program} {w : World} {K : PySem.W.Frag} {mg : Str → Option Value} {base : Heap} {f : Addr} {fd : FuncData}
theorem no_same : FnOk P w K mg base CX0 0 f fd ["_law_told", "_law_due"] spNo := ⟨fun _ _ _ _ h => h.elim, fun _ _ _ _ _ _ _ _ _ _ _ _ _ h => h.elim⟩
theorem same_step (F : Fun K "_law_same" "_law_same" sSame f fd) (m_isinstance : mg "isinstance" = none) (m_list : mg "list" = none) (m_tuple : mg "tuple" = none) (m_len : mg "len" = none) (m_all : mg "all" = none) (m_range : mg "range" = none) (m_bool : mg "bool" = none) (m_str : mg "str" = none) (m_int : mg "int" = none)
    (m_same : mg "_law_same" = some (.ref f)) (k_same : PySem.W.keepIn K (.ref f) = true) (b_same : Binds K fd ["_law_told", "_law_due"] []) {n : Nat} {sp : Sp} (G_same : FnOk P w K mg base CX0 n f fd ["_law_told", "_law_due"] sp) (sp' : Sp)
    (hl : ∀ vs H Q E, sp' vs H Q E → vs.length = 2)
    (hs : ∀ vs H Q E, sp' vs H Q E → (∃ i : Int, vs = [.int i, .int i] ∧ ∀ H', Same H H' → Q (.bl true) H') ∨ ∃ (a b : Addr) (xs ys : List V), vs = [.ref a, .ref b] ∧ xs.length = ys.length ∧ xs.length ≤ 100000 ∧ ((H a = some (.lst xs) ∧ H b = some (.lst ys)) ∨ (H a = some (.tup xs) ∧ H b = some (.tup ys))) ∧
      (∀ (j : Nat) (x y : V) (H1 : Hp) (Q1 : VK) (E1 : XK), xs[j]? = some x → ys[j]? = some y → Same H H1 → (∀ H', Same H1 H' → Q1 (.bl true) H') → sp [x, y] H1 Q1 E1) ∧ ∀ H', Same H H' → Q (.bl true) H') :
    FnOk P w K mg base CX0 (n + 1) f fd ["_law_told", "_law_due"] sp' := by
  refine F.ok scSame (fun vs H Q E h => hl vs H Q E h) (fun cdv A outer s H vs Q E hr h => ?_)
  refine ⟨_, (pss_cons (ps_if (pt_val (pe_callB call_isiT rfl m_isinstance boot_isinstance (pa_cons (pv 1) (pa_cons (pe_tup (pa_cons (pe_bltn (v := .ty "list") rfl m_list boot_list rfl) (pa_cons (pe_bltn (v := .ty "tuple") rfl m_tuple boot_tuple rfl) pa_nil))) pa_nil)))) (pss_cons (ps_if (PW.pt (pw_or (pt_cmpR op_ne (pe_callB call_isi rfl m_isinstance boot_isinstance (pa_cons (pv 0) (pa_cons (pe_bltn (v := .ty "list") rfl m_list boot_list rfl) pa_nil))) (pe_callB call_isi rfl m_isinstance boot_isinstance (pa_cons (pv 1) (pa_cons (pe_bltn (v := .ty "list") rfl m_list boot_list rfl) pa_nil))) (nomark _)) (pw_or1 (pt_cmpR op_ne (pe_callB call_isi rfl m_isinstance boot_isinstance (pa_cons (pv 0) (pa_cons (pe_bltn (v := .ty "tuple") rfl m_tuple boot_tuple rfl) pa_nil))) (pe_callB call_isi rfl m_isinstance boot_isinstance (pa_cons (pv 1) (pa_cons (pe_bltn (v := .ty "tuple") rfl m_tuple boot_tuple rfl) pa_nil))) (nomark _))))) (pss_one (ps_ret pe_bl)) pss_nil)
    (pss_one (ps_ret (pe_and (pe_cmpR op_eq (pe_callB call_len_seq rfl m_len boot_len (pa_cons (pv 0) pa_nil)) (pe_callB call_len_seq rfl m_len boot_len (pa_cons (pv 1) pa_nil)) (nomark _)) (pe_one (pe_callB (cr_all rfl) rfl m_all boot_all (pa_cons (pe_lc (own := [("_law_k", 2)]) (g := gName 2) (tt := tYes) rfl scSame.nd (pi_range1 rfl m_range (pa_cons (pe_callB call_len_seq rfl m_len boot_len (pa_cons (pv 1) pa_nil)) pa_nil)) (blkOk_by (own := [("_law_k", 2)]) (N := ["_law_told", "_law_due", "_law_k"]) (sc := defScope sSame) (by decide +kernel)) (fun _ _ _ _ _ => pg_name (i := 2) scSame.nd rfl (Or.inl rfl)) (fun _ _ _ _ _ => pts_nil) (fun _ _ _ _ _ => (pe_call G_same hr rfl m_same k_same b_same .nil pass0 (pa_cons (pe_ix (IxR.or (ix_listB (K := K) rfl) (ix_tupB (K := K) rfl)) (pv 0) (pv 2) (fun _ _ => rfl)) (pa_cons (pe_ix (IxR.or (ix_listB (K := K) rfl) (ix_tupB (K := K) rfl)) (pv 1) (pv 2) (fun _ _ => rfl)) pa_nil))))) pa_nil))))))) pss_nil)
    (pss_cons (ps_if (pt_cmpR op_isN (pv 1) pe_non (nomark _)) (pss_one (ps_ret (pe_cmpR op_isN (pv 0) pe_non (nomark _)))) pss_nil)
    (pss_cons (ps_if (PW.pt (pw_or (pt_cmpR op_ne (pe_callB call_isi rfl m_isinstance boot_isinstance (pa_cons (pv 0) (pa_cons (pe_bltn (v := .ty "bool") rfl m_bool boot_bool rfl) pa_nil))) (pe_callB call_isi rfl m_isinstance boot_isinstance (pa_cons (pv 1) (pa_cons (pe_bltn (v := .ty "bool") rfl m_bool boot_bool rfl) pa_nil))) (nomark _)) (pw_or1 (pt_cmpR op_ne (pe_callB call_isi rfl m_isinstance boot_isinstance (pa_cons (pv 0) (pa_cons (pe_bltn (v := .ty "str") rfl m_str boot_str rfl) pa_nil))) (pe_callB call_isi rfl m_isinstance boot_isinstance (pa_cons (pv 1) (pa_cons (pe_bltn (v := .ty "str") rfl m_str boot_str rfl) pa_nil))) (nomark _))))) (pss_one (ps_ret pe_bl)) pss_nil)
    (pss_one (ps_ret (pe_and (pe_cmpR op_eq (pe_callB call_isi rfl m_isinstance boot_isinstance (pa_cons (pv 0) (pa_cons (pe_bltn (v := .ty "int") rfl m_int boot_int rfl) pa_nil))) (pe_callB call_isi rfl m_isinstance boot_isinstance (pa_cons (pv 1) (pa_cons (pe_bltn (v := .ty "int") rfl m_int boot_int rfl) pa_nil))) (nomark _)) (pe_one (pe_cmpR op_eq (pv 0) (pv 1) (nomark _))))))))), ?_⟩
  rcases hs vs H Q E h with ⟨i, rfl, q⟩ | ⟨a, b, xs, ys, rfl, hlen, hbig, hab, hit, q⟩
  · refine ⟨_, rfl, (by show 2 ≤ sizeLine; decide), fun t1 ht1 => ?_⟩
    refine ⟨_, _, _, _, _, false, rfl, upd_same, .cons (.ty _) (.cons (.ty _) .nil), .base (.int i), ka_int, false, rfl, ?_⟩
    refine ⟨_, rfl, rfl, _, rfl, iff' (fun z => by cases of_decide_eq_true z) ?_⟩
    refine ⟨_, rfl, _, _, _, _, _, rfl, .ty _, .base (.int i), kit_ty (r := false) (by decide +kernel), ?_⟩
    refine ⟨_, rfl, _, _, _, _, _, rfl, .ty _, .base (.int i), kit_ty (r := false) (by decide +kernel), ?_⟩
    refine ⟨rfl, _, rfl, iff' (by simp) ?_⟩
    refine ⟨_, rfl, _, _, _, _, _, rfl, .ty _, .base (.int i), kit_ty (r := false) (by decide +kernel), ?_⟩
    refine ⟨_, rfl, _, _, _, _, _, rfl, .ty _, .base (.int i), kit_ty (r := false) (by decide +kernel), ?_⟩
    refine ⟨rfl, _, rfl, iff' (by simp) ?_⟩
    refine ⟨_, rfl, _, _, _, _, _, rfl, .ty _, .base (.int i), kit_ty (r := true) (by decide +kernel), ?_⟩
    refine ⟨_, rfl, _, _, _, _, _, rfl, .ty _, .base (.int i), kit_ty (r := true) (by decide +kernel), ?_⟩
    refine ⟨rfl, _, rfl, ift (by simp) ?_⟩
    refine ⟨_, rfl, _, rfl, rfl, ?_⟩
    rw [decide_eq_true rfl]
    exact q _ (same_new ht1 _)
  · have hl2 : (ys.length : Int) = xs.length := by omega
    obtain ⟨T, r1, r2, k1, k2, k3, tya, tyb, sqa, sqb⟩ : ∃ (T : String) (r1 r2 : Bool), PySem.W.kitAny K (.type T) [.type "list", .type "tuple"] = some true ∧ kitB T "list" = some r1 ∧ kitB T "tuple" = some r2 ∧ (∀ H', Same H H' → TyX K H' (.ref a) (.type T)) ∧ (∀ H', Same H H' → TyX K H' (.ref b) (.type T)) ∧
        (∀ H', Same H H' → SqL K H' a xs ∨ SqT K H' a xs) ∧ (∀ H', Same H H' → SqL K H' b ys ∨ SqT K H' b ys) := by
      rcases hab with ⟨ha, hb⟩ | ⟨ha, hb⟩
      · exact ⟨"list", true, false, ka_list, by decide +kernel, by decide +kernel, fun H' e => .base (.lst (e _ _ ha)), fun H' e => .base (.lst (e _ _ hb)), fun H' e => .inl (SqL.of (e _ _ ha)), fun H' e => .inl (SqL.of (e _ _ hb))⟩
      · exact ⟨"tuple", false, true, ka_tuple, by decide +kernel, by decide +kernel, fun H' e => .base (.tup (e _ _ ha)), fun H' e => .base (.tup (e _ _ hb)), fun H' e => .inr (SqT.of (e _ _ ha)), fun H' e => .inr (SqT.of (e _ _ hb))⟩
    have kX : ∀ {c : Addr} {H : Hp} {n : String} {r : Bool} {Q : VK}, TyX K H (.ref c) (.type T) → kitB T n = some r → Q (.bl r) H → rIsi K [.ref c, .ty n] H Q := fun ty e q => ⟨_, _, _, _, _, rfl, .ty _, ty, kit_ty e, q⟩
    have iX : ∀ {c : Addr} {zs : List V} {H : Hp} {j : Nat} {v : V} {Q : VK}, (SqL K H c zs ∨ SqT K H c zs) → zs[j]? = some v → Q v H → (rIxL K (.ref c) (.int (0 + (j : Int))) H Q ∨ rIxT K (.ref c) (.int (0 + (j : Int))) H Q) := fun h e q => h.elim (fun h => .inl ⟨_, _, _, _, rfl, rfl, h, at_of (by omega) e, q⟩) fun h => .inr ⟨_, _, _, _, rfl, rfl, h, at_of (by omega) e, q⟩
    refine ⟨_, rfl, (by show 2 ≤ sizeLine; decide), fun t1 ht1 => ?_⟩
    have e1 := same_new ht1 (.tup [.ty "list", .ty "tuple"])
    refine ⟨_, _, _, _, _, true, rfl, upd_same, .cons (.ty _) (.cons (.ty _) .nil), tyb _ e1, k1, true, rfl, ?_⟩
    refine ⟨_, rfl, _, _, _, _, _, rfl, .ty _, tya _ e1, kit_ty k2, ?_⟩
    refine ⟨_, rfl, _, _, _, _, _, rfl, .ty _, tyb _ e1, kit_ty k2, ?_⟩
    refine ⟨rfl, _, rfl, iff' (by simp) ?_⟩
    refine ⟨_, rfl, _, _, _, _, _, rfl, .ty _, tya _ e1, kit_ty k3, ?_⟩
    refine ⟨_, rfl, _, _, _, _, _, rfl, .ty _, tyb _ e1, kit_ty k3, ?_⟩
    refine ⟨rfl, _, rfl, iff' (by simp) ?_⟩
    refine ⟨_, rfl, a, xs, rfl, sqa _ e1, ?_⟩
    refine ⟨_, rfl, b, ys, rfl, sqb _ e1, ?_⟩
    refine ⟨rfl, _, rfl, ift (decide_eq_true (by rw [hl2])) ?_⟩
    refine ⟨_, rfl, b, ys, rfl, sqb _ e1, _, rfl, by omega, by omega, fun D hD => ?_⟩
    rw [show ((ys.length : Int)).toNat = xs.length by omega]
    refine lc_range (lo := 0) (n := xs.length) (fun j H2 => Same (upd H t1 (.tup [.ty "list", .ty "tuple"])) (dropG H2 D) ∧ H2 D = some (.lst (List.replicate j (.bl true)))) ⟨same_dropG (same_new hD _) hD, upd_same⟩ (fun j H2 hj h => ?_) fun H2 h => ?_
    · obtain ⟨z, hD2⟩ := h
      have z2 := e1.trans (z.trans (dropG_le _ _))
      have hx : xs[j]? = some xs[j] := List.getElem?_eq_getElem hj
      have hy : ys[j]? = some (ys[j]'(by omega)) := List.getElem?_eq_getElem (by omega)
      refine ⟨rfl, ?_⟩
      refine ⟨_, rfl, _, rfl, iX (sqa _ z2) hx ?_⟩
      refine ⟨_, rfl, _, rfl, iX (sqb _ z2) hy ?_⟩
      refine hit j _ _ H2 _ _ hx hy z2 fun H' e => ?_
      refine ⟨_, e _ _ hD2, by rw [List.length_replicate, sizeLine_eq]; omega, ?_, ?_⟩
      · rw [dropG_mut]; exact z.trans (dropG_mono e D)
      · rw [upd_same, List.replicate_succ']
    · obtain ⟨z, hD2⟩ := h
      refine ⟨D, List.replicate xs.length true, rfl, SqL.of (by rw [List.map_replicate]; exact hD2), ?_⟩
      rw [show (List.replicate xs.length true).all id = true by rw [List.all_eq_true]; intro x hx; rw [(List.mem_replicate.mp hx).2]; rfl]
      exact q _ (e1.trans (z.trans (dropG_le _ _)))
theorem ok_same (F : Fun K "_law_same" "_law_same" sSame f fd) (m_isinstance : mg "isinstance" = none) (m_list : mg "list" = none) (m_tuple : mg "tuple" = none) (m_len : mg "len" = none) (m_all : mg "all" = none) (m_range : mg "range" = none) (m_bool : mg "bool" = none) (m_str : mg "str" = none) (m_int : mg "int" = none)
    (m_same : mg "_law_same" = some (.ref f)) (k_same : PySem.W.keepIn K (.ref f) = true) (b_same : Binds K fd ["_law_told", "_law_due"] []) : ∀ n, FnOk P w K mg base CX0 (n + 1) f fd ["_law_told", "_law_due"] (spSame n)
  | 0 => same_step F m_isinstance m_list m_tuple m_len m_all m_range m_bool m_str m_int m_same k_same b_same no_same _ (fun vs H Q E ⟨x, y, e, _⟩ => by rw [e]; rfl) fun vs H Q E ⟨x, y, e, ⟨i, e1, e2⟩, q⟩ => .inl ⟨i, by rw [e, e1, e2], q⟩
  | n + 1 => same_step F m_isinstance m_list m_tuple m_len m_all m_range m_bool m_str m_int m_same k_same b_same (ok_same F m_isinstance m_list m_tuple m_len m_all m_range m_bool m_str m_int m_same k_same b_same n) _ (fun vs H Q E ⟨x, y, e, _⟩ => by rw [e]; rfl)
    fun vs H Q E ⟨x, y, e, ⟨a, b, xs, ys, e1, e2, p, l, hq⟩, q⟩ => .inr ⟨a, b, xs, ys, by rw [e, e1, e2], paired_len p, l, hq, fun j x y H1 Q1 E1 hx hy hs q1 => by
      obtain ⟨x', hx', r⟩ := paired_get p hy
      rw [hx] at hx'
      cases hx'
      exact ⟨x, y, rfl, r.same hs, q1⟩, q⟩
end
end K51

set_option Elab.async false
set_option linter.all false
set_option maxRecDepth 100000
set_option maxHeartbeats 4000000
/-! k51: a generator drawn by the law's loops -/
namespace K51
open PySem PySem.Spec PyProof.Rows L2 G51 M51
theorem relV_inj {x y : V} {u : Value} (a : L2.RelV x u) (b : L2.RelV y u) : x = y := by
  cases x <;> cases y <;> simp_all [L2.RelV]
  all_goals (first | (obtain ⟨t, a⟩ := a; rw [a] at b; simp_all) | (obtain ⟨t, b⟩ := b; rw [b] at a; simp_all) | skip)
theorem vals_inj : ∀ {xs ys : List V} {us : List Value}, Vals xs us → Vals ys us → xs = ys
  | _, _, _, .nil, .nil => rfl
  | _, _, _, .cons r t, .cons q s => by rw [relV_inj r q, vals_inj t s]
theorem r51a {b C n : Nat} (h : ¬ b ∈ List.range' C (n - C)) (h2 : b < n) : b < C := by rw [List.mem_range'_1] at h; omega
theorem r51b {b C n : Nat} (h : b ∈ List.range' C (n - C)) : C ≤ b := by rw [List.mem_range'_1] at h; omega
/-- tracked from C on: tuples alone -/
def Can (C : Addr) (H : Hp) : Prop := ∀ b o, C ≤ b → H b = some o → ∃ xs, o = .tup xs
section
variable {X : Cx} {pins : List (Addr × Obj)} {σ : L2.St} {H : Hp} {s s1 : Shared} {C a : Addr} {g : Nat}
/-- what the function knows lies below C -/
structure Yg (X : Cx) (pins : List (Addr × Obj)) (C : Addr) : Prop where
  s0 : X.s_0.heap.objs.size ≤ C
  loc : X.env.locals < C
  cell : ∀ x c, X.env.cells.lookup x = some c → c < C
  pin : ∀ p ∈ X.pn ++ pins, p.1 < C
theorem Yg.out {b : Addr} (y : Yg X pins C) (hb : C ≤ b) : (b ∈ X.ex ∨ X.s_0.heap.objs.size ≤ b) ∧ b ≠ X.env.locals ∧ (∀ x c, X.env.cells.lookup x = some c → c ≠ b) ∧ ∀ p ∈ X.pn ++ pins, p.1 ≠ b :=
  ⟨.inr (Nat.le_trans y.s0 hb), Nat.ne_of_gt (Nat.lt_of_lt_of_le y.loc hb), fun x c e => Nat.ne_of_lt (Nat.lt_of_lt_of_le (y.cell x c e) hb), fun p hp => Nat.ne_of_lt (Nat.lt_of_lt_of_le (y.pin p hp) hb)⟩
theorem inv_yg (I : L2.Inv X pins σ H s) (h : s.heap.objs.size ≤ C) : Yg X pins C := by
  obtain ⟨m, ⟨o, es, ep, ho, r⟩, _⟩ := id I.loc
  have hL := Nat.lt_of_lt_of_le (Heap.lt_size ho) h
  refine ⟨Nat.le_trans I.ok.above (Nat.le_of_lt hL), hL, fun x c e => ?_, fun p hp => ?_⟩
  · obtain ⟨v, o, ho, _⟩ := I.cell x c e
    exact Nat.lt_of_lt_of_le (Heap.lt_size ho) h
  · exact Nat.lt_of_lt_of_le (Heap.lt_size (I.pin p hp).1) h
theorem inv_can0 (I : L2.Inv X pins σ H s) (h : s.heap.objs.size ≤ C) : Can C H := fun b o hb e => by
  rw [I.hok.fresh (Nat.le_trans h hb)] at e; cases e
/-- more of the same heap: nothing is lost -/
theorem inv_kept51 (I : L2.Inv X pins σ H s) (k : ∀ b o, s.heap.get? b = some o → s1.heap.get? b = some o) (ho : s1.os = s.os) (hg : AllBare s1.gens) : Inv X pins σ H s1 :=
  I.call' (ch := []) ho (Un.kept k) (I.hok.kept k) hg fun _ z => nomatch z
theorem inv_grow (I : L2.Inv X pins σ H s) (g : Grow s s1) : Inv X pins σ H s1 := inv_kept51 I g.keep g.os (by rw [g.gens]; exact I.bare)
theorem tup_data {b : Addr} {vs : Array Value} (x : IsTup s.heap b vs) {o : Obj} (e : s.heap.get? b = some o) : ∃ its n, o.data = .seq its n := by
  obtain ⟨o', e', _, n, hd⟩ := x
  rw [e] at e'; cases e'
  exact ⟨_, _, hd⟩
/-- behind a draw -/
theorem inv_chg (I : L2.Inv X pins σ H s) (y : Yg X pins C) (can : Can C H) (c : Chg C a g s s1) : Inv X pins σ H s1 := by
  have low : ∀ b o, b ∉ List.range' C (s.heap.objs.size - C) → s.heap.get? b = some o → s1.heap.get? b = some o := fun b o hb e => by
    exact c.old b o (.inl (r51a hb (Heap.lt_size e))) e
  refine I.call' (ch := List.range' C (s.heap.objs.size - C)) c.os ⟨fun b o e _ _ hx => low b o hx e, fun b o e _ _ hx => ⟨o.slots, low b o hx e⟩, fun _ _ _ n _ => n, fun b o e hx => ⟨o, low b o hx e⟩, fun _ _ q => q, fun _ _ _ q => q, fun _ ps q => ⟨#[], by rw [q]; simp⟩⟩ (fun b o e => ?_) (c.bare I.bare) fun b hb => ?_
  · refine (I.hok b o e).stay (fun z u hz q => ?_) (fun _ q => q) fun _ _ q => q
    by_cases hC : z < C
    · exact c.old z u (.inl hC) q
    · rcases hz with rfl | hz
      · obtain ⟨xs, rfl⟩ := can z o (Nat.le_of_not_lt hC) e
        obtain ⟨_, its, _, it⟩ := I.hok z _ e
        exact c.seq z u q (tup_data it q)
      · obtain ⟨xs, z⟩ := can z _ (Nat.le_of_not_lt hC) hz
        cases z
  · exact y.out (r51b hb)
/-- a tuple that lies there is tracked from now on -/
theorem inv_track1 (I : L2.Inv X pins σ H s) (y : Yg X pins C) (can : Can C H) {b : Addr} {vs : List Value} {xs : List V} (hb : C ≤ b) (it : IsTup s.heap b vs.toArray) (hv : Vals xs vs) (hz : xs.length ≤ sizeLine) :
    ∃ H', Inv X pins σ H' s ∧ Same H H' ∧ Can C H' ∧ H' b = some (.tup xs) := by
  cases e : H b with
  | some o =>
    obtain ⟨ys, rfl⟩ := can b o hb e
    obtain ⟨_, its, r, it2⟩ := I.hok b _ e
    obtain ⟨o1, h1, _, n1, d1⟩ := it
    obtain ⟨o2, h2, _, n2, d2⟩ := it2
    rw [h1] at h2; cases h2
    rw [d1] at d2
    have e2 : vs.toArray = its.toArray := by cases d2; rfl
    have e3 : vs = its := by simpa using e2
    subst e3
    refine ⟨H, I, .refl H, can, ?_⟩
    rw [e, vals_inj r hv]
  | none =>
    have sm : Same H (upd H b (.tup xs)) := fun c o h => by rw [upd_ne (ne_of_none h e)]; exact h
    refine ⟨upd H b (.tup xs), ?_, sm, fun c o hc h => ?_, upd_same⟩
    · refine I.call' (ch := [b]) rfl ⟨fun _ _ e _ _ _ => e, fun c o e _ _ _ => ⟨o.slots, e⟩, fun c o e n hx => ?_, fun c o e _ => ⟨o, e⟩, fun _ _ q => sm _ _ q, fun _ _ _ q => sm _ _ q, fun c ps q => ⟨#[], by rw [sm _ _ q]; simp⟩⟩ (fun c o h => ?_) I.bare fun c hc => ?_
      · rw [upd_ne (fun z => hx (by rw [z]; exact List.mem_singleton_self _))]; exact n
      · by_cases hcb : c = b
        · subst hcb
          rw [upd_same] at h
          cases h
          exact ⟨hz, vs, hv, it⟩
        · rw [upd_ne hcb] at h
          exact (I.hok c o h).stay (fun _ _ _ q => q) (fun _ q => sm _ _ q) fun _ _ q => sm _ _ q
      · rw [List.mem_singleton.mp hc]
        exact y.out hb
    · by_cases hcb : c = b
      · subst hcb
        rw [upd_same] at h
        cases h
        exact ⟨_, rfl⟩
      · rw [upd_ne hcb] at h
        exact can c o hc h
theorem track_prs (y : Yg X pins C) : ∀ {d : Pg} {vs : List Value} {H : Hp}, Inv X pins σ H s → Can C H → Paired (IsPr C s.heap) d vs → ∃ H' xs, Inv X pins σ H' s ∧ Same H H' ∧ Can C H' ∧ Vals xs vs ∧ Paired (PrH H') d xs
  | _, _, H, I, can, .nil => ⟨H, [], I, .refl H, can, .nil, .nil⟩
  | _, _, H, I, can, .cons ⟨b, t, u, e, lb, it⟩ r => by
    obtain ⟨H1, I1, s1, c1, h1⟩ := inv_track1 I y can (xs := [.int _, .int _]) lb it (.cons ⟨t, rfl⟩ (.cons ⟨u, rfl⟩ .nil)) (by show 2 ≤ sizeLine; decide)
    obtain ⟨H2, xs, I2, s2, c2, v2, p2⟩ := track_prs y I1 c1 r
    exact ⟨H2, .ref b :: xs, I2, s1.trans s2, c2, .cons e v2, .cons ⟨b, rfl, s2 _ _ h1⟩ p2⟩
/-- a yielded pairing is tracked from now on -/
theorem track_pg (I : L2.Inv X pins σ H s) (y : Yg X pins C) (can : Can C H) {d : Pg} {v : Value} (h : IsPg C s.heap v d) (hd : d.length ≤ 1000) : ∃ H' x, Inv X pins σ H' s ∧ Same H H' ∧ Can C H' ∧ L2.RelV x v ∧ PgH H' d x := by
  obtain ⟨b, vs, rfl, lb, r, it⟩ := h
  obtain ⟨H1, xs, I1, s1, c1, v1, p1⟩ := track_prs y I can r
  obtain ⟨H2, I2, s2, c2, h2⟩ := inv_track1 I1 y c1 lb it v1 (by rw [← paired_len p1, sizeLine_eq]; omega)
  exact ⟨H2, .ref b, I2, s1.trans s2, c2, rfl, b, xs, rfl, h2, paired_mono (fun _ _ z => z.same s2) p1⟩
end
end K51

set_option Elab.async false
set_option linter.all false
set_option maxRecDepth 100000
set_option maxHeartbeats 4000000
/-! k51: the steps of a loop over a generator -/
namespace K51
open PySem PySem.Spec PyProof.Rows L2 G51 M51
section
variable {X : Cx} {pins : List (Addr × Obj)} {σ : L2.St} {H : Hp} {s s1 : Shared} {C a np : Addr} {g : Nat} {k : Bool} {ns : List Int}
def fxX (ok : X.Ok) : Fx := ⟨X.prog, X.w, X.K, X.mg, X.base, ok.mod, X.env, ok.kind, ok.glob, ok.blt⟩
/-- a local name's value -/
theorem inv_var (I : L2.Inv X pins σ H s) {i : Nat} {x : Str} {v : V} (hN : X.N[i]? = some x) (hσ : σ[i]? = some (some v)) (hk : X.env.scope.names.lookup x = some .local) : ∃ m u, s.heap.Ns X.env.locals m ∧ m x = some u ∧ L2.RelV v u := by
  obtain ⟨m, hn, hl⟩ := I.loc
  obtain ⟨u, r, z⟩ := hl i x v hN hσ (.inl hk)
  rcases z with ⟨_, e⟩ | ⟨z, _⟩
  · exact ⟨m, u, hn, e, r⟩
  · rcases z with z | z
    · cases (show some NameKind.local = some .cell from hk.symm.trans z)
    · cases (show some NameKind.local = some .free from hk.symm.trans z)
/-- the names behind a store -/
theorem inv_store (I : L2.Inv X pins σ H s) {i : Nat} {x : Str} {v : V} {u : Value} {h' : Heap} {tk : Nat} {m : Str → Option Value} (hN : X.N.Nodup) (hi : X.N[i]? = some x) (hk : X.env.kindOf x = some .local) (r : L2.RelV v u)
    (hl : ∀ (j : Nat) (y : Str) (w : V), X.N[j]? = some y → σ[j]? = some (some w) → Vis X.env.scope y → ∃ u, L2.RelV w u ∧ Look X.env s.heap m y u) (hn : s.heap.Ns X.env.locals m)
    (hn' : h'.Ns X.env.locals (fun z => if z = x then some u else m z)) (hs : Heap.SameBut X.env.locals s.heap h') : L2.Inv X pins (σ.set i (some v)) H { s with heap := h', toks := tk } := by
  have hiσ : i < σ.length := by rw [I.len]; exact (List.getElem?_eq_some_iff.mp hi).1
  obtain ⟨oL, _, _, hoL, _⟩ := id hn
  refine ⟨I.ok, I.os, I.bare, ⟨fun b o e n hb hx => ?_, fun b o e n hb hx => ?_, I.base.free, fun b o e hx => ?_, I.base.tups, I.base.frzs, I.base.tbls⟩, ⟨_, hn', fun j y v' e1 e2 e3 => ?_⟩, fun y c e => ?_, I.free, I.freeC, fun p hp => ?_, fun b ob e => ?_, by simpa using I.len⟩
  · exact (hs.2 b (Nat.ne_of_lt (Nat.lt_of_lt_of_le (Heap.lt_size e) I.ok.above))).trans (I.base.keep b o e n hb hx)
  · obtain ⟨sl, e1⟩ := I.base.slot b o e n hb hx
    exact ⟨sl, (hs.2 b (Nat.ne_of_lt (Nat.lt_of_lt_of_le (Heap.lt_size e) I.ok.above))).trans e1⟩
  · obtain ⟨o', e1⟩ := I.base.there b o e hx
    exact ⟨o', (hs.2 b (Nat.ne_of_lt (Nat.lt_of_lt_of_le (Heap.lt_size e) I.ok.above))).trans e1⟩
  · by_cases hj : j = i
    · subst hj
      rw [hi] at e1; cases e1
      rw [List.getElem?_set_self hiσ] at e2
      cases e2
      exact ⟨u, r, .inl ⟨hk, by simp⟩⟩
    · rw [List.getElem?_set_ne (Ne.symm hj)] at e2
      obtain ⟨u', r', q⟩ := hl j y v' e1 e2 e3
      refine ⟨u', r', ?_⟩
      rcases q with ⟨k, e⟩ | ⟨k, c, e, z⟩
      · refine .inl ⟨k, ?_⟩
        have : y ≠ x := fun e => hj (nodup_ix hN e1 (e ▸ hi))
        simp [this, e]
      · exact .inr ⟨k, c, e, z.sameBut hs (I.cne y c e)⟩
  · obtain ⟨w', z⟩ := I.cell y c e
    exact ⟨w', z.sameBut hs (I.cne y c e)⟩
  · obtain ⟨e, n, ne, nf, d⟩ := I.pin p hp
    exact ⟨(hs.2 p.1 ne).trans e, n, ne, nf, d⟩
  · refine (I.hok b ob e).stay (fun c w' hc q => (hs.2 c ?_).trans q) (fun _ q => q) fun _ _ q => q
    rintro rfl
    rcases hc with rfl | hc
    · rw [I.free] at e; cases e
    · rw [I.free] at hc; cases hc
/-- the pins, tracked -/
def SqH (H : Hp) (np : Addr) (k : Bool) (ns : List Int) : Prop := (k = true ∧ H np = some (.lst (ns.map V.int))) ∨ (k = false ∧ H np = some (.tup (ns.map V.int)))
theorem SqH.sq (h : SqH H np k ns) (I : L2.Inv X pins σ H s) : IsSq k s.heap (.ref np) ns := by
  rcases h with ⟨e, h⟩ | ⟨e, h⟩
  · obtain ⟨_, its, n, r, z⟩ := I.hok _ _ h
    exact ⟨np, its, rfl, r, .inl ⟨e, n, z⟩⟩
  · obtain ⟨_, its, r, z⟩ := I.hok _ _ h
    exact ⟨np, its, rfl, r, .inr ⟨e, z⟩⟩
/-- between two steps of the loop -/
structure GS (X : Cx) (pins : List (Addr × Obj)) (np : Addr) (k : Bool) (ns : List Int) (C a : Addr) (g : Nat) (σ : L2.St) (H : Hp) (j : Nat) (s : Shared) : Prop where
  inv : L2.Inv X pins σ H s
  yg : Yg X pins C
  can : Can C H
  sq : SqH H np k ns
  bsz : X.base.objs.size ≤ C
  lo : ns.length ≤ 10
  go : GenOk X.prog X.w X.base X.A k (.ref np) ns C a g (prs 5 ns) j s
variable {j : Nat}
theorem gs_start (I : L2.Inv X pins σ H s) (hr : Room 4 X.A) {f : Addr} {fd : FuncData} (CO : CallOk X.prog X.w X.base f fd 5) (sq : SqH H np k ns) (hlo : ns.length ≤ 10) {args : Args} (hb : BindsTo s fd args [("pins", .ref np)]) {E : Value → Shared → Prop} :
    codeAny (model X.prog X.w) X.A (.call (.ref f) args) (fun r s' => ∃ C a g, r = .ok (.ret (.ref a)) ∧ GS X pins np k ns C a g σ H 0 s') s := by
  have rm : Rm 5 X.A := ⟨hr.hd, by have := hr.dp; omega⟩
  refine codeAny_mono (CO X.A s k (.ref np) ns args (by omega) (by omega) rm I.bk (Nat.le_trans I.ok.bsz I.sz) (sq.sq I) hb) fun r s' h => ?_
  obtain ⟨C, a, rfl, hC, hCa, ho, hbare, hk, hg, hgo⟩ := h
  exact ⟨C, a, _, rfl, inv_kept51 I hk ho (hbare I.bare), inv_yg I hC, inv_can0 I hC, sq, Nat.le_trans (Nat.le_trans I.ok.bsz I.sz) hC, hlo, hgo.2 _ rm⟩
theorem GS.own (G : GS X pins np k ns C a g σ H j s) {σ' : L2.St} {H' : Hp} (I : L2.Inv X pins σ' H' s1) (can : Can C H') (sq : SqH H' np k ns) (o : Own C g s s1) (hg : s1.gens[g]? = s.gens[g]?) : GS X pins np k ns C a g σ' H' j s1 :=
  ⟨I, G.yg, can, sq, G.bsz, G.lo, G.go.own o hg⟩
theorem GS.grow (G : GS X pins np k ns C a g σ H j s) (gr : Grow s s1) : GS X pins np k ns C a g σ H j s1 := G.own (inv_grow G.inv gr) G.can G.sq gr.own (by rw [gr.gens])
theorem GS.iter (G : GS X pins np k ns C a g σ H j s) {Q : Value → Shared → Prop} {E : Value → Shared → Prop} (h : Q (.ref a) s) : wpAny (model X.prog X.w) X.A (pyIter (.ref a)) Q E s := wpAny_pyIter_gen G.go.gen h
theorem GS.next (G : GS X pins np k ns C a g σ H j s) (hr : Room 4 X.A) (hj : j ≤ (prs 5 ns).length) {Q : Option Value → Shared → Prop} {E : Value → Shared → Prop}
    (hi : ∀ v d x H' s1, (prs 5 ns)[j]? = some d → Same H H' → L2.RelV x v → PgH H' d x → GS X pins np k ns C a g σ H' (j + 1) s1 → Q (some v) s1) (hd : ∀ s1, j = (prs 5 ns).length → L2.Inv X pins σ H s1 → Q none s1) :
    wpAny (model X.prog X.w) X.A (pyNext (.ref a)) Q E s := by
  refine G.go.next hj G.bsz hr.hd (G.inv.mod.nolimit.keeps G.inv.bk) (by have := hr.dp; omega) G.inv.bk (G.sq.sq G.inv) (fun v d s1 hd' hpg c go' => ?_) fun s1 hj' c => hd s1 hj' (inv_chg G.inv G.yg G.can c)
  have I1 := inv_chg G.inv G.yg G.can c
  have hlen := prs_length 5 ns d (List.mem_of_getElem? hd')
  obtain ⟨H', x, I2, sm, can2, rx, px⟩ := track_pg I1 G.yg G.can hpg (by have := G.lo; omega)
  refine hi v d x H' s1 hd' sm rx px ⟨I2, G.yg, can2, ?_, G.bsz, G.lo, go'⟩
  rcases G.sq with ⟨e, z⟩ | ⟨e, z⟩
  · exact .inl ⟨e, sm _ _ z⟩
  · exact .inr ⟨e, sm _ _ z⟩
theorem GS.owned (G : GS X pins np k ns C a g σ H j s) {tg : Expr} {u : Value} {Q : Unit → Shared → Prop} {E : Value → Shared → Prop} (h : Q () s) : wpAny (model X.prog X.w) X.A (letOwnedTupleGo tg (.ref a) u) Q E s := by
  obtain ⟨og, nm, qn, hog, hcg, hdg, _⟩ := id G.go.gen
  exact go_of hog hcg hdg (by decide) h
theorem GS.store (G : GS X pins np k ns C a g σ H j s) {i : Nat} {x : Str} {v : V} {u : Value} {p : Pos} (hN : X.N.Nodup) (hi : X.N[i]? = some x) (hk : X.env.kindOf x = some .local) (r : L2.RelV v u) {Q : Unit → Shared → Prop} {E : Value → Shared → Prop}
    (h : ∀ s1, GS X pins np k ns C a g (σ.set i (some v)) H j s1 → Q () s1) : wpAny (model X.prog X.w) X.A (assign (.Name x p) X.env u) Q E s := by
  obtain ⟨m, hn, hl⟩ := id G.inv.loc
  have hcls : (X.env.scope.kind == .class || (X.env.scope.kind == .module && X.env.locals != X.env.globals)) = false := by rw [G.inv.ok.kind]; rfl
  refine wpAny_assign_Name (wpAny_storeName_local hk hn (fun h' hn' hs => ?_) hcls)
  exact h _ (G.own (inv_store G.inv hN hi hk r hl hn hn' hs) G.can G.sq ⟨fun b o hb e => (hs.2 b (Nat.ne_of_gt (Nat.lt_of_lt_of_le G.yg.loc hb))).trans e, fun _ _ _ => rfl, Nat.le_refl _⟩ rfl)
/-- len(x), x a list that is tracked -/
theorem gs_len (I : L2.Inv X pins σ H s) {i : Nat} {x : Str} {l : Addr} {xs : List V} {p1 p2 pos : Pos} (hN : X.N[i]? = some x) (hσ : σ[i]? = some (some (.ref l))) (hk : X.env.scope.names.lookup x = some .local) (hk' : X.env.kindOf x = some .local) (hx : (x == ("__debug__" : Str)) = false) (hg : X.env.kindOf "len" = some .globalImplicit) (hm : X.mg "len" = none)
    (hH : H l = some (.lst xs)) (h1 : starEach [.Name x p2] X.env = (false, eval (.Name x p2) X.env) :: starEach [] X.env := by rfl) : GE (fxX I.ok) X.A (.Call (.Name "len" p1) [.Name x p2] [] pos) s fun v s' => ∃ t, v = .int xs.length t := by
  obtain ⟨m, u, hn, hu, r⟩ := inv_var I hN hσ hk
  obtain ⟨hz, its, n, rv, e⟩ := I.hok _ _ hH
  cases (show u = Value.ref l from r)
  refine ge_callB (G := fxX I.ok) I.bk hg hm PySem.boot_len (ga_cons (G := fxX I.ok) (Φ := fun v s' => v = .ref l ∧ s' = s) (Ψ := fun vs s' => vs = [.ref l] ∧ s' = s) (ge_var hn hk' hu hx) (fun v s1 g1 ⟨e1, e2⟩ => ?_) h1) (fun vs s1 g1 ⟨e1, e2⟩ Q E hq => ?_) (by decide) (by decide) h1
  · exact fun Q E hq => ga_nil (G := fxX I.ok) (A := X.A) _ _ fun vs s2 g2 ⟨e3, e4⟩ => hq _ _ g2 ⟨by rw [e1, e3], by rw [e4, e2]⟩
  · subst e1 e2
    have hlen := rv.length
    rw [sizeLine_eq] at hz
    refine Calls.call_len_list (isL_list e) (by simp only [List.size_toArray]; omega) (hq _ _ (.tok _ _) ⟨_, by rw [List.size_toArray, hlen]⟩)
/-- told.append(x) -/
theorem gs_app (G : GS X pins np k ns C a g σ H j s) {i i2 : Nat} {x y : Str} {l : Addr} {xs : List V} {w : V} {p1 p2 apos pos ps : Pos} (hN : X.N[i]? = some x) (hσ : σ[i]? = some (some (.ref l))) (hk : X.env.scope.names.lookup x = some .local) (hk' : X.env.kindOf x = some .local) (hx : (x == ("__debug__" : Str)) = false)
    (hN2 : X.N[i2]? = some y) (hσ2 : σ[i2]? = some (some w)) (hk2 : X.env.scope.names.lookup y = some .local) (hk2' : X.env.kindOf y = some .local) (hy : (y == ("__debug__" : Str)) = false)
    (hH : H l = some (.lst xs)) (hl : l < C) (hne : l ≠ np) (hz : xs.length < sizeLine)
    {Q : Flow → Shared → Prop} {E : Value → Shared → Prop} (h : ∀ s1, GS X pins np k ns C a g σ (upd H l (.lst (xs ++ [w]))) j s1 → Q .next s1)
    (hbase : attributeBase (.Name x p1) "append" X.env (eval (.Name x p1) X.env) = eval (.Name x p1) X.env := by rfl)
    (hfew : ((backTo pos (starEach [.Name y p2] X.env)).all (fun x => !x.1) && (backToKw pos (keywordEach [] X.env)).all (fun x => x.1.isSome)
      && decide (([.Name y p2] : List Expr).length + ([] : List Keyword).length + (if ([] : List Keyword).isEmpty then 0 else 1) < 30)) = true := by rfl)
    (hline : (apos.endLine == pos.line) = true := by rfl) (hs : starEach [.Name y p2] X.env = (false, eval (.Name y p2) X.env) :: starEach [] X.env := by rfl) (hplain : (backTo pos (starEach [] X.env)).any (·.1) = false := by rfl)
    (hsw : swapsWith (.Call (.Attribute (.Name x p1) "append" apos) [.Name y p2] [] pos) none ps.line X.env = pure false := by rfl) :
    wpAny (model X.prog X.w) X.A (exec (.Expr (.Call (.Attribute (.Name x p1) "append" apos) [.Name y p2] [] pos) ps) X.env) Q E s := by
  obtain ⟨m, u, hn, hu, r⟩ := inv_var G.inv hN hσ hk
  obtain ⟨m2, u2, hn2, hu2, r2⟩ := inv_var G.inv hN2 hσ2 hk2
  cases (show u = Value.ref l from r)
  obtain ⟨hz2, its, n, rv, e⟩ := G.inv.hok _ _ hH
  have hlen := rv.length
  refine wpAny_Expr_any ?_ G.inv.quiet hsw
  refine wpAny_Call_method_late hbase hfew hline rfl (ge_var (G := fxX G.inv.ok) (A := X.A) hn hk' hu hx _ _ fun v s1 g1 ⟨e1, e2⟩ => ?_)
  subst e1 e2
  refine ⟨"list", "list.append", PySem.F.plainAttrs_list, PySem.F.slot_list_append, PySem.F.type_list_append, ⟨_, e, rfl⟩, fun b eb => ?_, ?_⟩
  · cases eb
    exact ⟨_, e, rfl⟩
  have hA : wpAny (model X.prog X.w) X.A (spliced (backTo pos (starEach [.Name y p2] X.env))) (fun vs s' => vs = [u2] ∧ s' = s1) E s1 :=
    ga_cons (G := fxX G.inv.ok) (A := X.A) (Φ := fun v s' => v = u2 ∧ s' = s1) (Ψ := fun vs s' => vs = [u2] ∧ s' = s1) (ge_var hn2 hk2' hu2 hy) (fun v s2 g2 ⟨e1, e2⟩ => fun Q E hq => ga_nil (G := fxX G.inv.ok) (A := X.A) _ _ fun vs s2 g2 ⟨e3, e4⟩ => hq _ _ g2 ⟨by rw [e1, e3], by rw [e4, e2]⟩) hs _ _ fun vs s2 g2 p => p
  rw [hs] at hA ⊢
  refine Calls.callWith_builtin (by show (false || (backTo pos (starEach [] X.env)).any (·.1)) = false; rw [hplain] <;> rfl) (Calls.evalArgs_plain ?_)
  refine thn hA fun vs s2 ⟨e1, e2⟩ => ?_
  subst e1 e2
  refine call_meets PySem.F.slot_list_append ⟨_, e, rfl⟩ PySem.F.entry_list_append (PySem.F.args_list_append_2 _ _) (PySem.list_append l its.toArray n u2 (by rw [List.size_toArray]; omega)) ⟨e, ?_⟩
  refine h _ (G.own (G.inv.lset (its' := its ++ [u2]) hH e (by simp) (rv.append (.cons r2 .nil)) ?_) (fun b o hb eb => ?_) ?_ ⟨fun b o hb eb => ?_, fun _ _ _ => rfl, Nat.le_refl _⟩ rfl)
  · rw [List.length_append, List.length_singleton]; omega
  · rw [upd_ne (Nat.ne_of_gt (Nat.lt_of_lt_of_le hl hb))] at eb
    exact G.can b o hb eb
  · rcases G.sq with ⟨ek, z⟩ | ⟨ek, z⟩
    · exact .inl ⟨ek, by rw [upd_ne (Ne.symm hne)]; exact z⟩
    · exact .inr ⟨ek, by rw [upd_ne (Ne.symm hne)]; exact z⟩
  · exact (Heap.get?_update_other _ _ (Nat.ne_of_lt (Nat.lt_of_lt_of_le hl hb))).trans eb
end
end K51

set_option Elab.async false
set_option linter.all false
set_option maxRecDepth 100000
set_option maxHeartbeats 4000000
/-! k51: the loops over a generator -/
namespace K51
open PySem PySem.Spec PyProof.Rows L2 G51 M51
abbrev nsR : List Str := ["_law_numbers", "_law_due", "_law_told", "_law_one"]
abbrev Loc1 (X : Cx) (x : Str) : Prop := X.env.scope.names.lookup x = some .local
theorem all_count {ns : List Int} (h : ns.length ≤ 10) : (allPg ns).length ≤ 945 := Nat.le_trans (prs_count 5 ns (by omega)) (by decide)
def tGenR : TS := fun D σ H => ∃ (np da ta : Addr) (k : Bool) (ns : List Int) (ds : List V) (x3 : Option V), σ = [some (.ref np), some (.ref da), some (.ref ta), x3] ∧ SqH H np k ns ∧ ns.length ≤ 10 ∧ H da = some (.lst ds) ∧ ds.length = (allPg ns).length ∧ H ta = some (.lst []) ∧ ta ≠ np ∧ ta ≠ da ∧
  ∀ (H' : Hp) (us : List V) (x3' : Option V), Same (dropG H ta) (dropG H' ta) → H' ta = some (.lst us) → Paired (PgH (dropG H' ta)) (allPg ns) us → D.nx [some (.ref np), some (.ref da), some (.ref ta), x3'] H'
section
variable {X : Cx}
theorem prH_drop {H : Hp} {ta : Addr} {us : List V} (h : H ta = some (.lst us)) {p : Int × Int} {x : V} (y : PrH H p x) : PrH (dropG H ta) p x := by
  obtain ⟨b, e, hb⟩ := y
  exact ⟨b, e, (dropG_ne (fun z => by rw [z, h] at hb; cases hb)).trans hb⟩
theorem pgH_drop {H : Hp} {ta : Addr} {us : List V} (h : H ta = some (.lst us)) {d : Pg} {x : V} (y : PgH H d x) : PgH (dropG H ta) d x := by
  obtain ⟨b, vs, e, hb, r⟩ := y
  exact ⟨b, vs, e, (dropG_ne (fun z => by rw [z, h] at hb; cases hb)).trans hb, paired_mono (fun _ _ y => prH_drop h y) r⟩
theorem can_lt {C ta : Addr} {H : Hp} {us : List V} (c : Can C H) (h : H ta = some (.lst us)) : ta < C := by
  refine Nat.lt_of_not_le fun z => ?_
  obtain ⟨xs, e⟩ := c ta _ z h
  cases e
theorem pgH_mono {H H' : Hp} (e : Same H H') {L : List Pg} {us : List V} (h : Paired (PgH H) L us) : Paired (PgH H') L us := paired_mono (fun _ _ y => y.same e) h
theorem ps_genR {f : Addr} {fd : FuncData} {p1 p2 p3 p4 p5 p6 p7 p8 p9 p10 p11 p12 p13 p14 p15 p16 p17 p18 p19 p20 : Pos} {j0 : Nat} (CO : CallOk X.prog X.w X.base f fd 5) (hbind : ∀ (s : Shared) (v : Value), BindsTo s fd ⟨[v], []⟩ [("pins", v)]) (hr : Room 4 X.A) (hg : Gl X "pairings") (hm : X.mg "pairings" = some (.ref f)) (hk : PySem.W.keepIn X.K (.ref f) = true)
    (m_len : X.mg "len" = none) (hN : X.N = nsR) (kl : X.env.kindOf "len" = some .globalImplicit)
    (v0 : Loc1 X "_law_numbers") (v1 : Loc1 X "_law_due") (v2 : Loc1 X "_law_told") (v3 : Loc1 X "_law_one")
    (w0 : X.env.kindOf "_law_numbers" = some .local) (w1 : X.env.kindOf "_law_due" = some .local) (w2 : X.env.kindOf "_law_told" = some .local) (w3 : X.env.kindOf "_law_one" = some .local)
    (hline : (p16.endLine == p18.line) = true := by rfl) :
    PS X (.For (.Name "_law_one" p1) (.Call (.Name "pairings" p2) [.Name "_law_numbers" p3] [] p4) [.If (.Compare (.Call (.Name "len" p5) [.Name "_law_told" p6] [] p7) [.Eq] [.Call (.Name "len" p8) [.Name "_law_due" p9] [] p10] p11) [.Return (some (.Constant (.bool false) j0 p12)) p13] [] p14,
      .Expr (.Call (.Attribute (.Name "_law_told" p15) "append" p16) [.Name "_law_one" p17] [] p18) p19] [] p20) tGenR := by
  have hN0 : X.N[0]? = some ("_law_numbers" : Str) := by rw [hN]; rfl
  have hN1 : X.N[1]? = some ("_law_due" : Str) := by rw [hN]; rfl
  have hN2 : X.N[2]? = some ("_law_told" : Str) := by rw [hN]; rfl
  have hN3 : X.N[3]? = some ("_law_one" : Str) := by rw [hN]; rfl
  have hNd : X.N.Nodup := by rw [hN]; decide +kernel
  refine ⟨fun pins s σ H D I h => ?_⟩
  obtain ⟨np, da, ta, k, ns, ds, x3, rfl, sq, hlo, hda, hdl, hta, n1, n2, q⟩ := h
  obtain ⟨m, u, hn, hu, r⟩ := inv_var I hN0 rfl v0
  cases (show u = Value.ref np from r)
  refine wpAny_For ?_ (fun _ => rfl)
  refine wpAny_Call_Name_kw (ld_glob I hg hm ?_ (by decide))
  have hA : wpAny (model X.prog X.w) X.A (spliced (backTo p4 (starEach [.Name "_law_numbers" p3] X.env))) (fun vs s' => vs = [.ref np] ∧ s' = s) X.xe s :=
    ga_cons (G := fxX I.ok) (A := X.A) (Φ := fun v s' => v = .ref np ∧ s' = s) (Ψ := fun vs s' => vs = [.ref np] ∧ s' = s) (ge_var hn w0 hu) (fun v s2 g2 ⟨e1, e2⟩ => fun Q E hq => ga_nil (G := fxX I.ok) (A := X.A) _ _ fun vs s2 g2 ⟨e3, e4⟩ => hq _ _ g2 ⟨by rw [e1, e3], by rw [e4, e2]⟩) rfl _ _ fun vs s2 g2 p => p
  refine PySem.W.callWith_K (h₀ := X.base) I.ok.mod.kin hk (thn hA fun us s1 ⟨e1, e2⟩ => ⟨by rw [e2]; exact I.kIn, ?_⟩) rfl rfl
  subst e1 e2
  refine wpAny_call (codeAny_mono (gs_start (E := X.xe) I hr CO sq hlo (hbind _ _)) fun r s' ⟨C, a, g, e, G⟩ => ?_)
  subst e
  refine G.iter ?_
  refine codeAny_forLoop_any (fun n s' => ∃ (j : Nat) (H' : Hp) (us : List V) (x3 : Option V), n + j = (allPg ns).length ∧ GS X pins np k ns C a g [some (.ref np), some (.ref da), some (.ref ta), x3] H' j s' ∧ Same (dropG H ta) (dropG H' ta) ∧ H' ta = some (.lst us) ∧ Paired (PgH (dropG H' ta)) ((allPg ns).take j) us) (fun n s3 hI => ?_) (allPg ns).length
    ⟨0, H, [], x3, rfl, G, .refl _, hta, .nil⟩
  obtain ⟨j, H1, us, x3', hnj, G1, sm, hta1, hus⟩ := hI
  refine G1.next hr (by show j ≤ (allPg ns).length; omega) (fun v d x H2 s4 hd hs2 rx px G2 => ?_) (fun s4 hj' I2 => ?_)
  · have hjl : j < (allPg ns).length := (List.getElem?_eq_some_iff.mp hd).1
    have hus1 := paired_len hus
    rw [List.length_take, Nat.min_eq_left (by omega)] at hus1
    have hc := all_count hlo
    have smt := dropG_mono hs2 ta
    have hta2 := hs2 _ _ hta1
    have sm2 := sm.trans smt
    have hda2 := dropG_le _ _ _ _ (sm2 _ _ ((dropG_ne (Ne.symm n2)).trans hda))
    have hx2 : Paired (PgH (dropG H2 ta)) ((allPg ns).take (j + 1)) (us ++ [x]) := by
      rw [List.take_add_one, show (allPg ns)[j]? = some d from hd]
      exact paired_app (pgH_mono smt hus) (.cons (pgH_drop hta2 px) .nil)
    have hltC : ta < C := can_lt G1.can hta1
    refine G2.owned (G2.store (i := 3) hNd hN3 w3 rx fun s5 G3 => ?_)
    refine wpAny_execs_cons (wpAny_If ?_)
    refine gt_eq (G := fxX G3.inv.ok) (gs_len G3.inv hN2 rfl v2 w2 (by decide) kl m_len hta2) (fun s6 g6 => gs_len (inv_grow G3.inv g6) hN1 rfl v1 w1 (by decide) kl m_len hda2) rfl _ _ fun c s6 g6 ec => ?_
    have G4 := G3.grow g6
    subst ec
    rw [decide_eq_false (by omega)]
    refine wpAny_execs_nil ?_
    refine wpAny_execs_cons (gs_app G4 hN2 rfl v2 w2 (by decide) hN3 rfl v3 w3 (by decide) hta2 hltC n1 (by rw [sizeLine_eq]; omega) (hline := hline) (fun s7 G5 => wpAny_execs_nil ?_))
    refine ⟨n - 1, by omega, j + 1, _, us ++ [x], _, by omega, G5, ?_, upd_same, ?_⟩
    · rw [dropG_mut]; exact sm2
    · rw [dropG_mut]; exact hx2
  · refine wpAny_execs_nil ⟨_, _, I2, q H1 us _ sm hta1 ?_⟩
    rw [show j = (allPg ns).length from hj', List.take_length] at hus
    exact hus
end
end K51

set_option Elab.async false
set_option linter.all false
set_option maxRecDepth 100000
set_option maxHeartbeats 4000000
/-! k51: _law_right -/
namespace K51
open PySem PySem.Spec PyProof.Rows L2 G51 M51
theorem scRight : FnScope ["_law_numbers", "_law_due", "_law_told", "_law_one"] ["_law_numbers", "_law_due"] (defScope sRight) := ⟨rfl, rfl, rfl, by decide +kernel, rfl, by decide +kernel, by decide +kernel⟩
theorem paired_two {α β γ : Type} {R : α → β → Prop} {S : α → γ → Prop} {T : β → γ → Prop} (h : ∀ a b c, R a b → S a c → T b c) : ∀ {xs : List α} {ys : List β} {zs : List γ}, Paired R xs ys → Paired S xs zs → Paired T ys zs
  | _, _, _, .nil, .nil => .nil
  | _, _, _, .cons r t, .cons q s => .cons (h _ _ _ r q) (paired_two h t s)
theorem dt_pr {H : Hp} {p : Int × Int} {x y : V} (a : PrH H p x) (b : PrH H p y) : DtH H 1 x y := by
  obtain ⟨u, rfl, hu⟩ := a
  obtain ⟨v, rfl, hv⟩ := b
  exact ⟨u, v, _, _, rfl, rfl, .cons ⟨_, rfl, rfl⟩ (.cons ⟨_, rfl, rfl⟩ .nil), (by show 2 ≤ 100000; decide), .inr ⟨hu, hv⟩⟩
theorem dt_pg {H : Hp} {d : Pg} {x y : V} (hd : d.length ≤ 1000) (a : PgH H d x) (b : PgH H d y) : DtH H 2 x y := by
  obtain ⟨u, xs, rfl, hu, r⟩ := a
  obtain ⟨v, ys, rfl, hv, q⟩ := b
  exact ⟨u, v, _, _, rfl, rfl, paired_two (R := PrH H) (S := PrH H) (T := DtH H 1) (fun _ _ _ a b => dt_pr a b) r q, by rw [← paired_len r]; omega, .inr ⟨hu, hv⟩⟩
theorem paired_mem {α β : Type} {R S : α → β → Prop} : ∀ {xs : List α} {ys : List β}, Paired R xs ys → (∀ a ∈ xs, ∀ b, R a b → S a b) → Paired S xs ys
  | _, _, .nil, _ => .nil
  | _, _, .cons r t, h => .cons (h _ List.mem_cons_self _ r) (paired_mem t fun a ha => h a (List.mem_cons_of_mem _ ha))
theorem dt_pgs {H : Hp} {L : List Pg} {us ds : List V} (hL : ∀ d ∈ L, d.length ≤ 1000) (a : Paired (PgH H) L us) (b : Paired (PgH H) L ds) : Paired (DtH H 2) us ds :=
  paired_two (R := fun d x => d.length ≤ 1000 ∧ PgH H d x) (S := PgH H) (T := DtH H 2) (fun _ _ _ a b => dt_pg a.1 a.2 b) (paired_mem a fun d hd x h => ⟨hL d hd, h⟩) b
theorem all_small {ns : List Int} (h : ns.length ≤ 10) : ∀ d ∈ allPg ns, d.length ≤ 1000 := fun d hd => by have := prs_length 5 ns d hd; omega
def spRight : Sp := fun vs H Q _ => ∃ (np da : Addr) (k : Bool) (ns : List Int) (ds : List V), vs = [.ref np, .ref da] ∧ SqH H np k ns ∧ ns.length ≤ 10 ∧ H da = some (.lst ds) ∧ Paired (PgH H) (allPg ns) ds ∧ ∀ H', Same H H' → Q (.bl true) H'
section
variable {P : Program} {w : World} {K : PySem.W.Frag} {mg : Str → Option Value} {base : Heap} {f h h2 : Addr} {fd hd gd : FuncData}
theorem ok_right (F : Fun K "_law_right" "_law_right" sRight h hd) (m_len : mg "len" = none)
    (CO : CallOk P w base f fd 5) (hbind : ∀ (s : Shared) (v : Value), BindsTo s fd ⟨[v], []⟩ [("pins", v)]) (m_pr : mg "pairings" = some (.ref f)) (k_pr : PySem.W.keepIn K (.ref f) = true)
    (G_same : FnOk P w K mg base CX0 4 h2 gd ["_law_told", "_law_due"] (spSame 3)) (m_same : mg "_law_same" = some (.ref h2)) (k_same : PySem.W.keepIn K (.ref h2) = true) (b_same : Binds K gd ["_law_told", "_law_due"] []) :
    FnOk P w K mg base CX0 5 h hd ["_law_numbers", "_law_due"] spRight := by
  refine F.ok scRight (fun vs H Q E h => ?_) (fun cdv A outer s H vs Q E hr h => ?_)
  · obtain ⟨np, da, k, ns, ds, rfl, _⟩ := h
    rfl
  obtain ⟨np, da, k, ns, ds, rfl, sq, hlo, hda, hds, q⟩ := h
  refine ⟨_, (pss_cons (ps_set (i := 2) scRight.nd rfl (Or.inl rfl) (pe_lst pa_nil)) (pss_cons (ps_genR CO hbind hr rfl m_pr k_pr m_len rfl rfl rfl rfl rfl rfl rfl rfl rfl rfl) (pss_one (ps_ret (pe_call G_same hr rfl m_same k_same b_same .nil pass0 (pa_cons (pv 2) (pa_cons (pv 1) pa_nil))))))), ?_⟩
  refine ⟨(by show 0 ≤ sizeLine; decide), fun ta hta => ?_⟩
  have e1 := same_new hta (.lst [])
  have hnp : ∃ o, H np = some o := by
    rcases sq with ⟨_, z⟩ | ⟨_, z⟩
    · exact ⟨_, z⟩
    · exact ⟨_, z⟩
  obtain ⟨onp, hnp⟩ := hnp
  refine ⟨np, da, ta, k, ns, ds, _, rfl, ?_, hlo, e1 _ _ hda, (paired_len hds).symm, upd_same, Ne.symm (ne_of_none hnp hta), Ne.symm (ne_of_none hda hta), fun H' us x3' sm h1 h2 => ?_⟩
  · rcases sq with ⟨e, z⟩ | ⟨e, z⟩
    · exact .inl ⟨e, e1 _ _ z⟩
    · exact .inr ⟨e, e1 _ _ z⟩
  have e2 : Same H H' := (same_dropG e1 hta).trans (sm.trans (dropG_le _ _))
  refine ⟨_, rfl, _, rfl, .ref ta, .ref da, rfl, ⟨ta, da, us, ds, rfl, rfl, dt_pgs (all_small hlo) (pgH_mono (dropG_le _ _) h2) (pgH_mono e2 hds), ?_, .inl ⟨h1, e2 _ _ hda⟩⟩, fun H2 e3 => q _ (e2.trans e3)⟩
  rw [← paired_len h2]
  have := all_count hlo
  omega
end
end K51

set_option Elab.async false
set_option linter.all false
set_option maxRecDepth 100000
set_option maxHeartbeats 4000000
/-! k51: the law's loop over a generator -/
namespace K51
open PySem PySem.Spec PyProof.Rows L2 G51 M51
abbrev nsL : List Str := ["_law_script", "_law_one", "_law_two", "_law_first", "_law_second", "_law_handed", "_law_begun", "_law_pairs"]
def tGenL (tk : TA) : TS := fun D σ H => ∃ (x0 x1 x2 x3 x4 x5 x7 : Option V) (ba : Addr), σ = [x0, x1, x2, x3, x4, x5, some (.ref ba), x7] ∧ tk σ H fun zs H1 => ∃ (np : Addr) (k : Bool) (ns : List Int), zs = [.ref np] ∧ SqH H1 np k ns ∧ ns.length ≤ 10 ∧ H1 ba = some (.lst []) ∧ ba ≠ np ∧
  ∀ (H' : Hp) (us : List V) (x7' : Option V), Same (dropG H1 ba) (dropG H' ba) → H' ba = some (.lst us) → Paired (PgH (dropG H' ba)) ((allPg ns).take 2) us → D.nx [x0, x1, x2, x3, x4, x5, some (.ref ba), x7'] H'
section
variable {X : Cx}
theorem ps_genL {f : Addr} {fd : FuncData} {p1 p2 p4 p5 p6 p7 p8 p9 p10 p11 p12 p13 p14 p15 p16 p17 p18 : Pos} {j0 : Nat} {e : Expr} {te : TE} (CO : CallOk X.prog X.w X.base f fd 5) (hbind : ∀ (s : Shared) (v : Value), BindsTo s fd ⟨[], [("pins", v)]⟩ [("pins", v)]) (hr : Room 4 X.A) (hg : Gl X "pairings") (hm : X.mg "pairings" = some (.ref f)) (hk : PySem.W.keepIn X.K (.ref f) = true)
    (he : PE X e te) (m_len : X.mg "len" = none) (hN : X.N = nsL) (kl : X.env.kindOf "len" = some .globalImplicit)
    (v2 : Loc1 X "_law_begun") (v3 : Loc1 X "_law_pairs") (w2 : X.env.kindOf "_law_begun" = some .local) (w3 : X.env.kindOf "_law_pairs" = some .local)
    (hline : (p6.endLine == p8.line) = true := by rfl) :
    PS X (.For (.Name "_law_pairs" p1) (.Call (.Name "pairings" p2) [] [⟨some "pins", e, p4⟩] p17) [.Expr (.Call (.Attribute (.Name "_law_begun" p5) "append" p6) [.Name "_law_pairs" p7] [] p8) p9,
      .If (.Compare (.Call (.Name "len" p10) [.Name "_law_begun" p11] [] p12) [.Eq] [.Constant (.int 2) j0 p13] p14) [.Break p15] [] p16] [] p18) (tGenL (tCons te tNil)) := by
  have hN2 : X.N[6]? = some ("_law_begun" : Str) := by rw [hN]; rfl
  have hN3 : X.N[7]? = some ("_law_pairs" : Str) := by rw [hN]; rfl
  have hNd : X.N.Nodup := by rw [hN]; decide +kernel
  refine ⟨fun pins s σ H D I h => ?_⟩
  obtain ⟨x0, x1, x2, x3, x4, x5, x7, ba, rfl, h⟩ := h
  refine wpAny_For ?_ (fun _ => rfl)
  refine wpAny_Call_Name_kw (ld_glob I hg hm ?_ (by decide))
  refine PySem.W.callWith_KW0 (h₀ := X.base) I.ok.mod.kin hk rfl (thn ((pk_cons (nm := some "pins") (kpos := p4) he pk_nil).run p17 pins s _ H _ I h) fun ws s1 ⟨zs, H1, I1, rz, q⟩ => ⟨I1.kIn, ?_⟩) rfl
  obtain ⟨np, k, ns, rfl, sq, hlo, hba, n1, q⟩ := q
  obtain ⟨u, rfl, ru⟩ := vals1 rz
  cases (show u = Value.ref np from ru)
  refine wpAny_call (codeAny_mono (gs_start (E := X.xe) I1 hr CO sq hlo (hbind _ _)) fun r s' ⟨C, a, g, e, G⟩ => ?_)
  subst e
  refine G.iter ?_
  refine codeAny_forLoop_any (fun n s' => ∃ (j : Nat) (H' : Hp) (us : List V) (x7 : Option V), n + j = 2 ∧ j ≤ 1 ∧ j ≤ (allPg ns).length ∧ GS X pins np k ns C a g [x0, x1, x2, x3, x4, x5, some (.ref ba), x7] H' j s' ∧ Same (dropG H1 ba) (dropG H' ba) ∧ H' ba = some (.lst us) ∧ Paired (PgH (dropG H' ba)) ((allPg ns).take j) us) (fun n s3 hI => ?_) 2
    ⟨0, H1, [], x7, rfl, by omega, Nat.zero_le _, G, .refl _, hba, .nil⟩
  obtain ⟨j, H2, us, x7', hnj, hj1, hj, G1, sm, hta1, hus⟩ := hI
  refine G1.next hr hj (fun v d x H3 s4 hd hs2 rx px G2 => ?_) (fun s4 hj' I2 => ?_)
  · have hjl : j < (allPg ns).length := (List.getElem?_eq_some_iff.mp hd).1
    have hus1 := paired_len hus
    rw [List.length_take, Nat.min_eq_left (by omega)] at hus1
    have smt := dropG_mono hs2 ba
    have hta2 := hs2 _ _ hta1
    have sm2 := sm.trans smt
    have hx2 : Paired (PgH (dropG H3 ba)) ((allPg ns).take (j + 1)) (us ++ [x]) := by
      rw [List.take_add_one, show (allPg ns)[j]? = some d from hd]
      exact paired_app (pgH_mono smt hus) (.cons (pgH_drop hta2 px) .nil)
    have hltC : ba < C := can_lt G1.can hta1
    refine G2.owned (G2.store (i := 7) hNd hN3 w3 rx fun s5 G3 => ?_)
    refine wpAny_execs_cons (gs_app G3 hN2 rfl v2 w2 (by decide) hN3 rfl v3 w3 (by decide) hta2 hltC n1 (by rw [sizeLine_eq]; omega) (hline := hline) (fun s7 G5 => ?_))
    refine wpAny_execs_cons (wpAny_If ?_)
    refine gt_eq (G := fxX G5.inv.ok) (gs_len G5.inv hN2 rfl v2 w2 (by decide) kl m_len upd_same) (fun s6 g6 => ge_int.mono fun v s' g ⟨e1, e2⟩ => e1) rfl _ _ fun c s6 g6 ec => ?_
    have G4 := G5.grow g6
    subst ec
    by_cases h2 : j = 1
    · rw [decide_eq_true (by rw [List.length_append, List.length_singleton]; omega)]
      refine wpAny_execs_cons (wpAny_Break ?_)
      refine ⟨_, _, G4.inv, q _ (us ++ [x]) _ (by rw [dropG_mut]; exact sm2) upd_same ?_⟩
      rw [dropG_mut]
      rw [h2] at hx2
      exact hx2
    · rw [decide_eq_false (by rw [List.length_append, List.length_singleton]; omega)]
      refine wpAny_execs_nil (wpAny_execs_nil ?_)
      refine ⟨n - 1, by omega, j + 1, _, us ++ [x], _, by omega, by omega, by omega, G4, ?_, upd_same, ?_⟩
      · rw [dropG_mut]; exact sm2
      · rw [dropG_mut]; exact hx2
  · refine wpAny_execs_nil ⟨_, _, I2, q H2 us _ sm hta1 ?_⟩
    have hj2 : j = (allPg ns).length := hj'
    rw [List.take_of_length_le (by omega)] at hus ⊢
    exact hus
end
end K51

set_option Elab.async false
set_option linter.all false
set_option maxRecDepth 100000
set_option maxHeartbeats 4000000
/-! k51: law -/
namespace K51
open PySem PySem.Spec PyProof.Rows L2 G51 M51
theorem scLaw : FnScope ["_law_script", "_law_one", "_law_two", "_law_first", "_law_second", "_law_handed", "_law_begun", "_law_pairs"] ["_law_script"] (defScope sLaw) := ⟨rfl, rfl, rfl, by decide +kernel, rfl, by decide +kernel, by decide +kernel⟩
theorem dp_intsA {K : PySem.W.Frag} {H : Hp} : ∀ ns : List Int, DpAll K H (ns.map V.int) (ns.map PyData.int)
  | [] => .nil
  | n :: ns => .cons (.int n) (dp_intsA ns)
theorem dp_ints {K : PySem.W.Frag} {H : Hp} {a : Addr} {ns : List Int} (h : H a = some (.lst (ns.map V.int))) : Dp K H (.ref a) (.list (ns.map PyData.int)) := .lst (SqL.of h) (dp_intsA ns)
theorem lay_ints : ∀ ns : List Int, PyData.canLayAll0 (ns.map PyData.int) = true
  | [] => rfl
  | n :: ns => by
    show PyData.canLayAll0 (.int n :: ns.map PyData.int) = true
    rw [PyData.canLayAll0, lay_ints ns]; rfl
theorem dep_ints : ∀ ns : List Int, PyData.depthAll (ns.map PyData.int) ≤ 1
  | [] => by decide
  | n :: ns => by
    show PyData.depthAll (.int n :: ns.map PyData.int) ≤ 1
    rw [PyData.depthAll]
    exact Nat.max_le.mpr ⟨by rw [PyData.depth]; decide, dep_ints ns⟩
theorem lay_list (ns : List Int) : (PyData.list (ns.map PyData.int)).canLay0 = true := by rw [PyData.canLay0]; exact lay_ints ns
theorem shaped_ints (ns : List Int) : SeqAt.shaped (.list (ns.map PyData.int)) = true := by
  unfold SeqAt.shaped
  rw [lay_list ns, PyData.depth]
  have := dep_ints ns
  simp; omega
theorem cut_take2 (xs : List V) : cutV xs none (some 2) = xs.take 2 := by
  unfold cutV
  rw [show HT.sIx xs.length 0 none = 0 from rfl, show (2 : Int) = ((2 : Nat) : Int) from rfl, HT.sIx_nat, List.drop_zero, Nat.sub_zero]
  by_cases h : 2 ≤ xs.length
  · rw [Nat.min_eq_left h]
  · rw [Nat.min_eq_right (by omega), List.take_of_length_le (Nat.le_refl _), List.take_of_length_le (by omega)]
theorem paired_take {α β : Type} {R : α → β → Prop} : ∀ (n : Nat) {xs : List α} {ys : List β}, Paired R xs ys → Paired R (xs.take n) (ys.take n)
  | 0, _, _, _ => .nil
  | _ + 1, _, _, .nil => .nil
  | n + 1, _, _, .cons r t => .cons r (paired_take n t)
def spLaw (K : PySem.W.Frag) : Sp := fun vs H Q _ => ∃ (a : Addr) (ns : List Int), vs = [.ref a] ∧ SqL K H a (ns.map V.int) ∧ ns.length ≤ 63 ∧ ∀ H', Q (.bl true) H'
section
variable {P : Program} {w : World} {K : PySem.W.Frag} {mg : Str → Option Value} {base : Heap} {f f1 f2 f3 f4 f5 f6 f7 : Addr} {fd fd1 fd2 fd3 fd4 fd5 fd6 fd7 : FuncData}
theorem ok_law (F : Fun K "law" "law" sLaw f7 fd7) (m_len : mg "len" = none) (m_list : mg "list" = none) (m_tuple : mg "tuple" = none) (m_min : mg "min" = none)
    (CO : CallOk P w base f fd 5) (hbk : ∀ (s : Shared) (v : Value), BindsTo s fd ⟨[], [("pins", v)]⟩ [("pins", v)]) (m_pr : mg "pairings" = some (.ref f)) (k_pr : PySem.W.keepIn K (.ref f) = true)
    (G_cell : FnOk P w K mg base CX0 5 f1 fd1 ["_law_script", "_law_k"] (spCell K)) (m_cell : mg "_law_cell" = some (.ref f1)) (k_cell : PySem.W.keepIn K (.ref f1) = true) (b_cell : Binds K fd1 ["_law_script", "_law_k"] [])
    (G_digits : FnOk P w K mg base CX0 5 f2 fd2 ["_law_cell_here", "_law_sizes"] (spDigits K)) (m_digits : mg "_law_digits" = some (.ref f2)) (k_digits : PySem.W.keepIn K (.ref f2) = true) (b_digits : Binds K fd2 ["_law_cell_here", "_law_sizes"] [])
    (G_same : FnOk P w K mg base CX0 5 f3 fd3 ["_law_told", "_law_due"] (spSame 3)) (m_same : mg "_law_same" = some (.ref f3)) (k_same : PySem.W.keepIn K (.ref f3) = true) (b_same : Binds K fd3 ["_law_told", "_law_due"] [])
    (G_all : FnOk P w K mg base CX0 5 f4 fd4 ["_law_numbers"] (spAll K)) (m_all : mg "_law_all_pairings" = some (.ref f4)) (k_all : PySem.W.keepIn K (.ref f4) = true) (b_all : Binds K fd4 ["_law_numbers"] [])
    (G_row : FnOk P w K mg base CX0 5 f5 fd5 ["_law_row_here"] (spRow K)) (m_row : mg "_law_row" = some (.ref f5)) (k_row : PySem.W.keepIn K (.ref f5) = true) (b_row : Binds K fd5 ["_law_row_here"] [])
    (G_right : FnOk P w K mg base CX0 5 f6 fd6 ["_law_numbers", "_law_due"] spRight) (m_right : mg "_law_right" = some (.ref f6)) (k_right : PySem.W.keepIn K (.ref f6) = true) (b_right : Binds K fd6 ["_law_numbers", "_law_due"] []) :
    FnOk P w K mg base CX0 6 f7 fd7 ["_law_script"] (spLaw K) := by
  refine F.ok scLaw (fun vs H Q E h => ?_) (fun cdv A outer s H vs Q E hr h => ?_)
  · obtain ⟨a, ns, rfl, _⟩ := h
    rfl
  obtain ⟨a, ns, rfl, hS, h63, q⟩ := h
  have HU : (A.deeper (envOfC "law" (defScope sLaw) s.heap.objs.size f7 cdv)).units + 64 < cLine := by have := hr.un; omega
  refine ⟨_, (pss_cons (ps_set (i := 1) scLaw.nd rfl (Or.inl rfl) (pe_call G_row hr rfl m_row k_row b_row .nil pass0 (pa_cons (pe_call G_digits hr rfl m_digits k_digits b_digits .nil pass0 (pa_cons (pe_call G_cell hr rfl m_cell k_cell b_cell .nil pass0 (pa_cons (pv 0) (pa_cons pe_int pa_nil))) (pa_cons (pe_op op_cat (pe_lst (pa_cons pe_int (pa_cons pe_int pa_nil))) (pe_op op_rep (pe_lst (pa_cons pe_int pa_nil)) pe_int)) pa_nil))) pa_nil)))
    (pss_cons (ps_set (i := 2) scLaw.nd rfl (Or.inl rfl) (pe_call G_row hr rfl m_row k_row b_row .nil pass0 (pa_cons (pe_call G_digits hr rfl m_digits k_digits b_digits .nil pass0 (pa_cons (pe_call G_cell hr rfl m_cell k_cell b_cell .nil pass0 (pa_cons (pv 0) (pa_cons pe_int pa_nil))) (pa_cons (pe_op op_cat (pe_lst (pa_cons pe_int (pa_cons pe_int pa_nil))) (pe_op op_rep (pe_lst (pa_cons pe_int pa_nil)) pe_int)) pa_nil))) pa_nil)))
    (pss_cons (ps_set (i := 3) scLaw.nd rfl (Or.inl rfl) (pe_call G_all hr rfl m_all k_all b_all .nil pass0 (pa_cons (pv 1) pa_nil)))
    (pss_cons (ps_set (i := 4) scLaw.nd rfl (Or.inl rfl) (pe_call G_all hr rfl m_all k_all b_all .nil pass0 (pa_cons (pv 2) pa_nil)))
    (pss_cons (ps_set (i := 5) scLaw.nd rfl (Or.inl rfl) (pe_callTy call_list_of rfl m_list boot_list (pa_cons (pv 1) pa_nil)))
    (pss_cons (ps_if (PW.pt (pw_or (pt_not (pt_val (pe_call G_right hr rfl m_right k_right b_right .nil pass0 (pa_cons (pv 5) (pa_cons (pv 3) pa_nil))))) (pw_or1 (pt_not (pt_val (pe_call G_right hr rfl m_right k_right b_right .nil pass0 (pa_cons (pe_callTy call_tuple_of rfl m_tuple boot_tuple (pa_cons (pv 2) pa_nil)) (pa_cons (pv 4) pa_nil)))))))) (pss_one (ps_ret pe_bl)) pss_nil)
    (pss_cons (ps_set (i := 6) scLaw.nd rfl (Or.inl rfl) (pe_lst pa_nil))
    (pss_cons (ps_genL CO hbk (hr.mono (by decide)) rfl m_pr k_pr (pe_callTy call_list_of rfl m_list boot_list (pa_cons (pv 2) pa_nil)) m_len rfl rfl rfl rfl rfl rfl)
    (pss_cons (ps_if (PW.pt (pw_or (pt_cmpR op_ne (pe_callB call_len_seq rfl m_len boot_len (pa_cons (pv 6) pa_nil)) (pe_callB (call_min2 rfl) rfl m_min boot_min (pa_cons pe_int (pa_cons (pe_callB call_len_seq rfl m_len boot_len (pa_cons (pv 4) pa_nil)) pa_nil))) (nomark _)) (pw_or1 (pt_not (pt_val (pe_call G_same hr rfl m_same k_same b_same .nil pass0 (pa_cons (pe_callTy call_tuple_of rfl m_tuple boot_tuple (pa_cons (pv 6) pa_nil)) (pa_cons (pe_callTy call_tuple_of rfl m_tuple boot_tuple (pa_cons (pe_slice sl_list (pv 4) po_none (po_some pe_int)) pa_nil)) pa_nil)))))))) (pss_one (ps_ret pe_bl)) pss_nil)
    (pss_cons (ps_if (PW.pt (pw_or (pt_not (pt_val (pe_call G_right hr rfl m_right k_right b_right .nil pass0 (pa_cons (pe_callTy call_tuple_of rfl m_tuple boot_tuple (pa_cons (pv 1) pa_nil)) (pa_cons (pv 3) pa_nil))))) (pw_or (pt_not (pt_val (pe_call G_right hr rfl m_right k_right b_right .nil pass0 (pa_cons (pv 2) (pa_cons (pv 4) pa_nil))))) (pw_or1 (pt_cmpR (op_neD HU) (pv 5) (pv 1) (nomark _)))))) (pss_one (ps_ret pe_bl)) pss_nil)
    (pss_cons (ps_if (pt_cmpR op_gt (pe_callB call_len_seq rfl m_len boot_len (pa_cons (pv 5) pa_nil)) pe_int (nomark _)) (pss_one (ps_expr (pe_bm0 PySem.F.plainAttrs_list PySem.F.slot_list_pop PySem.F.type_list_pop mt_pop (pv 5)))) pss_nil)
    (pss_one (ps_ret (pe_call G_right hr rfl m_right k_right b_right .nil pass0 (pa_cons (pv 5) (pa_cons (pe_call G_all hr rfl m_all k_all b_all .nil pass0 (pa_cons (pv 5) pa_nil)) pa_nil)))))))))))))))), ?_⟩
  refine ⟨_, rfl, a, ns, 0, rfl, hS, h63, by decide, by decide, fun n1 => ?_⟩
  refine ⟨(by show 2 ≤ sizeLine; decide), fun l1 hl1 => ?_⟩
  refine ⟨(by show 1 ≤ sizeLine; decide), fun l2 hl2 => ?_⟩
  refine ⟨l2, 9, _, rfl, rfl, upd_same, by decide, by decide, (by show 9 ≤ sizeLine; decide), fun l3 hl3 => ?_⟩
  refine ⟨l1, l3, _, _, rfl, rfl, same_new hl3 _ _ _ (same_new hl2 _ _ _ upd_same), upd_same, (by show 11 ≤ sizeLine; decide), fun l4 hl4 => ?_⟩
  refine ⟨n1, l4, szRow, rfl, SqL.of upd_same, by decide, by decide, fun p1 row1 hp1 hok1 => ?_⟩
  refine ⟨p1, row1, rfl, SqL.of upd_same, hok1, fun o1 ns1 H1 e1 hn1 ho1 asc1 len1 => ?_⟩
  have s1 : Same H H1 := (same_new hl1 _).trans ((same_new hl2 _).trans ((same_new hl3 _).trans ((same_new hl4 _).trans ((same_new hp1 _).trans e1))))
  refine ⟨_, rfl, a, ns, 1, rfl, s1.seq hS, h63, by decide, by decide, fun n2 => ?_⟩
  refine ⟨(by show 2 ≤ sizeLine; decide), fun m1 hm1 => ?_⟩
  refine ⟨(by show 1 ≤ sizeLine; decide), fun m2 hm2 => ?_⟩
  refine ⟨m2, 9, _, rfl, rfl, upd_same, by decide, by decide, (by show 9 ≤ sizeLine; decide), fun m3 hm3 => ?_⟩
  refine ⟨m1, m3, _, _, rfl, rfl, same_new hm3 _ _ _ (same_new hm2 _ _ _ upd_same), upd_same, (by show 11 ≤ sizeLine; decide), fun m4 hm4 => ?_⟩
  refine ⟨n2, m4, szRow, rfl, SqL.of upd_same, by decide, by decide, fun p2 row2 hp2 hok2 => ?_⟩
  refine ⟨p2, row2, rfl, SqL.of upd_same, hok2, fun o2 ns2 H2 e2 hn2 ho2 asc2 len2 => ?_⟩
  have s2 : Same H1 H2 := (same_new hm1 _).trans ((same_new hm2 _).trans ((same_new hm3 _).trans ((same_new hm4 _).trans ((same_new hp2 _).trans e2))))
  -- all pairings
  refine ⟨_, rfl, o1, ns1, rfl, SqL.of (s2 _ _ ho1), len1, asc1, fun b1 us1 H3 s3 hb1 hu1 pg1 => ?_⟩
  refine ⟨_, rfl, o2, ns2, rfl, SqL.of (s3 _ _ ho2), len2, asc2, fun b2 us2 H4 s4 hb2 hu2 pg2 => ?_⟩
  have h1_4 := s4 _ _ (s3 _ _ (s2 _ _ ho1))
  have h2_4 := s4 _ _ (s3 _ _ ho2)
  have hb1_4 := s4 _ _ hu1
  have pg1_4 := pgH_mono s4 pg1
  -- handed
  refine ⟨_, rfl, o1, _, rfl, .inl (SqL.of h1_4), fun hd hhd => ?_⟩
  have s5 := same_new hhd (.lst (ns1.map V.int))
  -- right, right
  refine ⟨_, rfl, _, rfl, hd, b1, true, ns1, us1, rfl, .inl ⟨rfl, upd_same⟩, len1, s5 _ _ hb1_4, pgH_mono s5 pg1_4, fun H5 s6 => ⟨true, rfl, ?_⟩⟩
  have k1 := s5.trans s6
  have hd5 := s6 _ _ upd_same
  refine ⟨_, rfl, o2, _, rfl, .inl ⟨SqL.of (k1 _ _ h2_4), fun tt htt => ?_⟩⟩
  have s7 := same_new htt (.tup (ns2.map V.int))
  refine ⟨_, rfl, tt, b2, false, ns2, us2, rfl, .inr ⟨rfl, upd_same⟩, len2, s7 _ _ (k1 _ _ hu2), pgH_mono (k1.trans s7) pg2, fun H6 s8 => ⟨true, rfl, ?_⟩⟩
  have k2 := k1.trans (s7.trans s8)
  have hd6 := s8 _ _ (s7 _ _ hd5)
  -- begun
  refine ⟨(by show 0 ≤ sizeLine; decide), fun ba hba => ?_⟩
  have s9 := same_new hba (.lst [])
  refine ⟨_, _, _, _, _, _, _, ba, rfl, ?_⟩
  refine ⟨_, rfl, o2, _, rfl, .inl (SqL.of (s9 _ _ (k2 _ _ h2_4))), fun np hnp => ?_⟩
  have s10 := same_new hnp (.lst (ns2.map V.int))
  refine ⟨np, true, ns2, rfl, .inl ⟨rfl, upd_same⟩, len2, s10 _ _ upd_same, ?_, fun H7 us x7 s11 hba7 hus => ?_⟩
  · exact ne_of_none upd_same hnp
  have k3 : Same H6 H7 := (same_dropG (s9.trans s10) hba).trans (s11.trans (dropG_le _ _))
  have hu2_7 := k3 _ _ (k2 _ _ hu2)
  have pg2_7 := pgH_mono (k2.trans k3) pg2
  have pgb := pgH_mono (dropG_le H7 ba) hus
  have lu : us.length = min 2 (allPg ns2).length := by rw [← paired_len hus, List.length_take]
  have lu2 : us2.length = (allPg ns2).length := (paired_len pg2).symm
  refine ⟨_, rfl, ba, us, rfl, .inl (SqL.of hba7), _, rfl, b2, us2, rfl, .inl (SqL.of hu2_7), 2, us2.length, rfl, rfl, _, rfl, iff' (by rw [decide_eq_true (congrArg V.int (by split <;> omega))]; exact fun z => by cases z) ?_⟩
  refine ⟨_, rfl, ba, us, rfl, .inl ⟨SqL.of hba7, fun t1 ht1 => ?_⟩⟩
  have s12 := same_new ht1 (.tup us)
  refine ⟨_, rfl, 2, rfl, b2, us2, rfl, SqL.of (s12 _ _ hu2_7), fun c1 hc1 => ?_⟩
  rw [cut_take2]
  have s13 := same_new hc1 (.lst (us2.take 2))
  refine ⟨c1, _, rfl, .inl ⟨SqL.of upd_same, fun t2 ht2 => ?_⟩⟩
  have s14 := same_new ht2 (.tup (us2.take 2))
  have k4 := s12.trans (s13.trans s14)
  refine ⟨.ref t1, .ref t2, rfl, ⟨t1, t2, us, us2.take 2, rfl, rfl, dt_pgs (L := (allPg ns2).take 2) (fun d hd => all_small len2 d (List.mem_of_mem_take hd)) (pgH_mono k4 pgb) (pgH_mono k4 (paired_take 2 pg2_7)), by omega, .inr ⟨s14 _ _ (s13 _ _ upd_same), upd_same⟩⟩, fun H8 s15 => ⟨true, rfl, ?_⟩⟩
  have k5 : Same H6 H8 := k3.trans (k4.trans s15)
  have h1_8 := k5 _ _ (k2 _ _ h1_4)
  have hb1_8 := k5 _ _ (k2 _ _ hb1_4)
  have hd_8 := k5 _ _ hd6
  refine ⟨_, rfl, o1, _, rfl, .inl ⟨SqL.of h1_8, fun t3 ht3 => ?_⟩⟩
  have s16 := same_new ht3 (.tup (ns1.map V.int))
  refine ⟨_, rfl, t3, b1, false, ns1, us1, rfl, .inr ⟨rfl, upd_same⟩, len1, s16 _ _ hb1_8, pgH_mono (k2.trans (k5.trans s16)) pg1_4, fun H9 s17 => ⟨true, rfl, ?_⟩⟩
  have k6 := k5.trans (s16.trans s17)
  refine ⟨_, rfl, _, rfl, o2, b2, true, ns2, us2, rfl, .inl ⟨rfl, k6 _ _ (k2 _ _ h2_4)⟩, len2, k6 _ _ (k2 _ _ hu2), pgH_mono (k2.trans k6) pg2, fun HA s18 => ⟨true, rfl, ?_⟩⟩
  have k7 := k6.trans s18
  have hd_A := k7 _ _ hd6
  have h1_A := k7 _ _ (k2 _ _ h1_4)
  refine ⟨_, rfl, _, rfl, _, _, dp_ints hd_A, dp_ints h1_A, shaped_ints ns1, shaped_ints ns1, _, rfl, ?_⟩
  rw [PySem.SeqAt.eqv_refl _ (lay_list ns1)]
  -- pop
  refine ⟨_, rfl, hd, _, rfl, .inl (SqL.of hd_A), ?_⟩
  refine ⟨_, _, rfl, rfl, _, rfl, ?_⟩
  by_cases h0 : 0 < ns1.length
  · refine ift (decide_eq_true (by rw [len_map]; omega)) ?_
    have hx : (ns1.map V.int)[(ns1.map V.int).length - 1]? = some (.int (ns1[ns1.length - 1]'(by omega))) := by
      rw [len_map]; exact int_at (by omega)
    refine ⟨_, rfl, .inl ⟨rfl, _, SqL.of hd_A⟩, hd, _, _, rfl, rfl, hd_A, hx, ?_⟩
    rw [← List.map_dropLast]
    refine ⟨_, rfl, _, rfl, hd, ns1.dropLast, rfl, SqL.of upd_same, by rw [List.length_dropLast]; omega, asc1.sublist (List.dropLast_sublist ns1), fun b3 us3 HB s19 hb3 hu3 pg3 => ?_⟩
    exact ⟨hd, b3, true, ns1.dropLast, us3, rfl, .inl ⟨rfl, s19 _ _ upd_same⟩, by rw [List.length_dropLast]; omega, hu3, pg3, fun HC _ => q HC⟩
  · refine iff' (fun z => by have := of_decide_eq_true z; rw [len_map] at this; omega) ?_
    refine ⟨_, rfl, _, rfl, hd, ns1, rfl, SqL.of hd_A, len1, asc1, fun b3 us3 HB s19 hb3 hu3 pg3 => ?_⟩
    exact ⟨hd, b3, true, ns1, us3, rfl, .inl ⟨rfl, s19 _ _ hd_A⟩, len1, hu3, pg3, fun HC _ => q HC⟩
end
end K51

set_option Elab.async false
set_option linter.all false
set_option maxRecDepth 100000
set_option maxHeartbeats 4000000
/-! the program's top -/
namespace K51
open PySem PySem.Spec PyProof.Rows L2 G51 M51
theorem all_mk {l : PySem.W.OpenLaw} {w : World} {K : PySem.W.Frag} {h : Heap} {mg : Str → Option Value} {fa f1 f2 f3 f4 f5 f6 f7 f8 : Addr} (X : K.In h) (G : h.Ns mainGlobals mg) (hfa : mg "law" = some (.ref fa))
    {od1 an1 od2 an2 od3 an3 od4 an4 od5 an5 od6 an6 od7 an7 od8 an8 : Option Addr} {sl1 sl2 sl3 sl4 sl5 sl6 sl7 sl8 : Array (Option Value)} {oc1 kV1 dc1 pm1 cd1 ct1 oc2 kV2 dc2 pm2 cd2 ct2 oc3 kV3 dc3 pm3 cd3 ct3 oc4 kV4 dc4 pm4 cd4 ct4 oc5 kV5 dc5 pm5 cd5 ct5 oc6 kV6 dc6 pm6 cd6 ct6 oc7 kV7 dc7 pm7 cd7 ct7 oc8 kV8 dc8 pm8 cd8 ct8 : Value}
    (a1 : PySem.W.nsIn K mainGlobals "pairings" = some (some (.ref f1))) (l1 : K.lookup f1 = some ⟨oc1, od1, .func (PySem.W.fnOf "pairings" "pairings" (defArgs sPairs) (defBody sPairs) (defScope sPairs) .none kV1 dc1 pm1 an1 cd1 ct1), sl1⟩) (c1 : PySem.W.codeIn K cd1 "pairings" = true) (k1 : PySem.W.keepIn K (.ref f1) = true)
    (a2 : PySem.W.nsIn K mainGlobals "_law_cell" = some (some (.ref f2))) (l2 : K.lookup f2 = some ⟨oc2, od2, .func (PySem.W.fnOf "_law_cell" "_law_cell" (defArgs sCell) (defBody sCell) (defScope sCell) .none kV2 dc2 pm2 an2 cd2 ct2), sl2⟩) (c2 : PySem.W.codeIn K cd2 "_law_cell" = true) (k2 : PySem.W.keepIn K (.ref f2) = true)
    (a3 : PySem.W.nsIn K mainGlobals "_law_digits" = some (some (.ref f3))) (l3 : K.lookup f3 = some ⟨oc3, od3, .func (PySem.W.fnOf "_law_digits" "_law_digits" (defArgs sDigits) (defBody sDigits) (defScope sDigits) .none kV3 dc3 pm3 an3 cd3 ct3), sl3⟩) (c3 : PySem.W.codeIn K cd3 "_law_digits" = true) (k3 : PySem.W.keepIn K (.ref f3) = true)
    (a4 : PySem.W.nsIn K mainGlobals "_law_same" = some (some (.ref f4))) (l4 : K.lookup f4 = some ⟨oc4, od4, .func (PySem.W.fnOf "_law_same" "_law_same" (defArgs sSame) (defBody sSame) (defScope sSame) .none kV4 dc4 pm4 an4 cd4 ct4), sl4⟩) (c4 : PySem.W.codeIn K cd4 "_law_same" = true) (k4 : PySem.W.keepIn K (.ref f4) = true)
    (a5 : PySem.W.nsIn K mainGlobals "_law_all_pairings" = some (some (.ref f5))) (l5 : K.lookup f5 = some ⟨oc5, od5, .func (PySem.W.fnOf "_law_all_pairings" "_law_all_pairings" (defArgs sAll) (defBody sAll) (defScope sAll) .none kV5 dc5 pm5 an5 cd5 ct5), sl5⟩) (c5 : PySem.W.codeIn K cd5 "_law_all_pairings" = true) (k5 : PySem.W.keepIn K (.ref f5) = true)
    (a6 : PySem.W.nsIn K mainGlobals "_law_row" = some (some (.ref f6))) (l6 : K.lookup f6 = some ⟨oc6, od6, .func (PySem.W.fnOf "_law_row" "_law_row" (defArgs sRow) (defBody sRow) (defScope sRow) .none kV6 dc6 pm6 an6 cd6 ct6), sl6⟩) (c6 : PySem.W.codeIn K cd6 "_law_row" = true) (k6 : PySem.W.keepIn K (.ref f6) = true)
    (a7 : PySem.W.nsIn K mainGlobals "_law_right" = some (some (.ref f7))) (l7 : K.lookup f7 = some ⟨oc7, od7, .func (PySem.W.fnOf "_law_right" "_law_right" (defArgs sRight) (defBody sRight) (defScope sRight) .none kV7 dc7 pm7 an7 cd7 ct7), sl7⟩) (c7 : PySem.W.codeIn K cd7 "_law_right" = true) (k7 : PySem.W.keepIn K (.ref f7) = true)
    (a8 : PySem.W.nsIn K mainGlobals "law" = some (some (.ref f8))) (l8 : K.lookup f8 = some ⟨oc8, od8, .func (PySem.W.fnOf "law" "law" (defArgs sLaw) (defBody sLaw) (defScope sLaw) .none kV8 dc8 pm8 an8 cd8 ct8), sl8⟩) (c8 : PySem.W.codeIn K cd8 "law" = true) (k8 : PySem.W.keepIn K (.ref f8) = true)
    (z1 : PySem.W.nsIn K mainGlobals "len" = some none) (z2 : PySem.W.nsIn K mainGlobals "int" = some none) (z3 : PySem.W.nsIn K mainGlobals "range" = some none) (z4 : PySem.W.nsIn K mainGlobals "list" = some none) (z5 : PySem.W.nsIn K mainGlobals "tuple" = some none) (z6 : PySem.W.nsIn K mainGlobals "sorted" = some none) (z7 : PySem.W.nsIn K mainGlobals "isinstance" = some none) (z8 : PySem.W.nsIn K mainGlobals "all" = some none) (z9 : PySem.W.nsIn K mainGlobals "bool" = some none) (z10 : PySem.W.nsIn K mainGlobals "str" = some none) (z11 : PySem.W.nsIn K mainGlobals "min" = some none) :
    ∃ fd : FuncData, (∀ (s : Shared) (v : Value), BindsTo s fd ⟨[v], []⟩ [("_law_script", v)]) ∧ ∀ base : Heap, K.In base → base.Ns mainGlobals mg → FnOk l.prog w K mg base CX0 6 fa fd ["_law_script"] (spLaw K) := by
  have e := hfa.symm.trans (PySem.W.mg_of X G a8)
  cases e
  have F1 := fun_mk (st := sPairs) l1 c1 k1
  have F2 := fun_mk (st := sCell) l2 c2 k2
  have F3 := fun_mk (st := sDigits) l3 c3 k3
  have F4 := fun_mk (st := sSame) l4 c4 k4
  have F5 := fun_mk (st := sAll) l5 c5 k5
  have F6 := fun_mk (st := sRow) l6 c6 k6
  have F7 := fun_mk (st := sRight) l7 c7 k7
  have F8 := fun_mk (st := sLaw) l8 c8 k8
  have g1 := PySem.W.mg_of X G a1
  have b2 := F2.binds (ps := ["_law_script", "_law_k"]) fun _ _ _ _ _ _ us hl => match us, hl with | [_, _], _ => rfl
  have g2 := PySem.W.mg_of X G a2
  have b3 := F3.binds (ps := ["_law_cell_here", "_law_sizes"]) fun _ _ _ _ _ _ us hl => match us, hl with | [_, _], _ => rfl
  have g3 := PySem.W.mg_of X G a3
  have b4 := F4.binds (ps := ["_law_told", "_law_due"]) fun _ _ _ _ _ _ us hl => match us, hl with | [_, _], _ => rfl
  have g4 := PySem.W.mg_of X G a4
  have b5 := F5.binds (ps := ["_law_numbers"]) fun _ _ _ _ _ _ us hl => match us, hl with | [_], _ => rfl
  have g5 := PySem.W.mg_of X G a5
  have b6 := F6.binds (ps := ["_law_row_here"]) fun _ _ _ _ _ _ us hl => match us, hl with | [_], _ => rfl
  have g6 := PySem.W.mg_of X G a6
  have b7 := F7.binds (ps := ["_law_numbers", "_law_due"]) fun _ _ _ _ _ _ us hl => match us, hl with | [_, _], _ => rfl
  have g7 := PySem.W.mg_of X G a7
  have g8 := PySem.W.mg_of X G a8
  have m_len := PySem.W.mg_none_of X G z1
  have m_int := PySem.W.mg_none_of X G z2
  have m_range := PySem.W.mg_none_of X G z3
  have m_list := PySem.W.mg_none_of X G z4
  have m_tuple := PySem.W.mg_none_of X G z5
  have m_sorted := PySem.W.mg_none_of X G z6
  have m_isinstance := PySem.W.mg_none_of X G z7
  have m_all := PySem.W.mg_none_of X G z8
  have m_bool := PySem.W.mg_none_of X G z9
  have m_str := PySem.W.mg_none_of X G z10
  have m_min := PySem.W.mg_none_of X G z11
  refine ⟨PySem.W.fnOf "law" "law" (defArgs sLaw) (defBody sLaw) (defScope sLaw) .none kV8 dc8 pm8 an8 cd8 ct8, fun s v => .of_eq rfl, fun base _ _ => ⟨fun vs H Q E h => ?_, fun A outer s H args us vs Q E hr he hb hv hs => ?_⟩⟩
  · obtain ⟨a, ns, rfl, _⟩ := h
    rfl
  have CO := call51 (P := l.prog) (w := w) he.mod F1 g1 (fun s v => .of_eq rfl) m_len m_range 5
  have Gs := ok_same (P := l.prog) (w := w) (base := base) F4 m_isinstance m_list m_tuple m_len m_all m_range m_bool m_str m_int g4 k4 b4 3
  have L := ok_law (P := l.prog) (w := w) (base := base) F8 m_len m_list m_tuple m_min CO (fun s v => .of_eq rfl) g1 k1
    ((ok_cell F2 m_len m_int).mono (by decide)) g2 k2 b2 ((ok_digits F3 m_len m_int m_range).mono (by decide)) g3 k3 b3 (Gs.mono (by decide)) g4 k4 b4
    ((ok_all F5 m_len m_int m_range m_list m_sorted).mono (by decide)) g5 k5 b5 ((ok_row F6 m_len m_int m_range).mono (by decide)) g6 k6 b6
    (ok_right F7 m_len CO (fun s v => .of_eq rfl) g1 k1 Gs g4 k4 b4) g7 k7 b7
  exact L.run A outer s H args us vs Q E hr he hb hv hs
theorem walk {l : PySem.W.OpenLaw} {q : Program} {loose : List Str} {XP : (Str → Option Value) → Heap → Prop} {YP : World → Heap → Prop} {d : DefRec} {K : Params → PySem.W.Frag} (hn : l.most = some 63) (hdf : d.params.defaults = [])
    (hY : ∀ (w : World) (h : Heap), YP w h → (K w.params).In h)
    (F : ∀ (w : World) (mg : Str → Option Value) (fa : Addr) (h : Heap), (K w.params).In h → h.Ns mainGlobals mg → mg d.name = some (.ref fa) →
      ∃ fd : FuncData, (∀ (s : Shared) (u : Value), BindsTo s fd ⟨[u], []⟩ [("_law_script", u)]) ∧ ∀ base : Heap, (K w.params).In base → base.Ns mainGlobals mg → FnOk l.prog w (K w.params) mg base CX0 6 fa fd ["_law_script"] (spLaw (K w.params))) :
    PySem.W.WalkO q loose XP YP l.row.toRowW d [] (fun f vs => PySem.call f vs) :=
  L2.walk_of (n := 63) (k := 6) (x := "_law_script") (CX := fun _ => CX0) (sp := fun w => spLaw (K w.params)) hn (by decide) hdf ⟨rfl, by decide, by decide⟩ hY F (fun _ _ a ns hl _ hS => ⟨a, ns, rfl, hS, hl, fun _ => rfl⟩) fun _ _ _ _ _ z => z
end K51
open PySem PySem.W PyProof.Rows
set_option maxRecDepth 100000 in
set_option maxHeartbeats 0 in
theorem PySem.Challenge.cw_rimcords_k51_pairings_holds : PySem.Challenge.rw_rimcords_k51_pairings.Holds := by
  w_on; o_law; k_head; (case hw => w_witness2)
  k_fill
  refine K51.walk (l := PySem.Challenge.rw_rimcords_k51_pairings) rfl rfl (fun w h Y => PySem.W.kIn_of Y) ?F
  case F =>
    intro w mg fa h KX G hmg
    refine' K51.all_mk KX G hmg ?a1 ?l1 ?c1 ?k1 ?a2 ?l2 ?c2 ?k2 ?a3 ?l3 ?c3 ?k3 ?a4 ?l4 ?c4 ?k4 ?a5 ?l5 ?c5 ?k5 ?a6 ?l6 ?c6 ?k6 ?a7 ?l7 ?c7 ?k7 ?a8 ?l8 ?c8 ?k8 ?z1 ?z2 ?z3 ?z4 ?z5 ?z6 ?z7 ?z8 ?z9 ?z10 ?z11
    (case a1 => k_is); (case l1 => k_is); (case c1 => k_is); (case k1 => k_is)
    (case a2 => k_is); (case l2 => k_is); (case c2 => k_is); (case k2 => k_is)
    (case a3 => k_is); (case l3 => k_is); (case c3 => k_is); (case k3 => k_is)
    (case a4 => k_is); (case l4 => k_is); (case c4 => k_is); (case k4 => k_is)
    (case a5 => k_is); (case l5 => k_is); (case c5 => k_is); (case k5 => k_is)
    (case a6 => k_is); (case l6 => k_is); (case c6 => k_is); (case k6 => k_is)
    (case a7 => k_is); (case l7 => k_is); (case c7 => k_is); (case k7 => k_is)
    (case a8 => k_is); (case l8 => k_is); (case c8 => k_is); (case k8 => k_is)
    (case z1 => k_is)
    (case z2 => k_is)
    (case z3 => k_is)
    (case z4 => k_is)
    (case z5 => k_is)
    (case z6 => k_is)
    (case z7 => k_is)
    (case z8 => k_is)
    (case z9 => k_is)
    (case z10 => k_is)
    (case z11 => k_is)
