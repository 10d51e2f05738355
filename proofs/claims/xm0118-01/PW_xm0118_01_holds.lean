import PyProof.Rows.All
import Wide.All
import OpenK.AllK
import Wide.FinOn
import PySem.Challenge.RW_xm0118_01
open PySem PySem.W PyProof.Rows
set_option Elab.async false
set_option maxRecDepth 100000
set_option maxHeartbeats 8000000
set_option linter.all false
set_option rowWalk.seconds 0
set_option compiler.extract_closed false
open_top hd for PySem.Challenge.rw_xm0118_01
open PySem.Calls PySem.Spec
local macro_rules | `(tactic| walk_at $s:str) => `(tactic| k_extra $s)
local macro_rules | `(tactic| ktn_step) => `(tactic| k_extra "ktn_step")
local macro_rules | `(tactic| ktn_open) => `(tactic| k_extra "ktn_open")
local macro_rules | `(tactic| tb_start) => `(tactic| k_extra "tb_start")
local macro_rules | `(tactic| tb_rel) => `(tactic| k_extra "tb_rel")
local macro_rules | `(tactic| k_ne) => `(tactic| k_extra "k_ne")
local macro_rules | `(tactic| k_all) => `(tactic| k_extra "k_all")
-- Base
namespace Mine
abbrev Ar (dp un : Nat) (gd : Option (List Code)) (fr : Option (List Env)) : Around := { handled := none, depth := dp, frames := fr, guards := gd, units := un }
def Tells (w : World) (mean : ExcName → Option Value) (mg mb : Str → Option Value) (f : Addr) (d u : Nat) (vs : List Value) (pre : Heap → Prop) (post : Heap → Heap → Value → Prop) : Prop :=
  ∀ (dp un : Nat) (gd : Option (List Code)) (fr : Option (List Env)) (s : Shared) (Q : Value → Shared → Prop),
    (hd.heap_39 w.params).In s.heap → Top hd.view_39 (looseW hd.view_39 []) mean mg mb s.heap → dp + d < recursionLimit → un + u < cLine → pre s.heap →
    (∀ v h' tk, (∀ b o, s.heap.get? b = some o → h'.get? b = some o) → post s.heap h' v → Q v { s with heap := h', toks := tk }) →
    wpAny (model PySem.Challenge.rw_xm0118_01.row.prog w) (Ar dp un gd fr) (call (.ref f) vs) Q (fun _ _ => False) s
theorem enter_plain {w : World} {dp un : Nat} {gd : Option (List Code)} {fr : Option (List Env)} {s : Shared} {Q : Value → Shared → Prop} {f : Addr} {vs : List Value}
    {name qual : Str} {params : Arguments} {body : List Stmt} {scope : Scope} {dV kV doc pm cdv ct oc : Value} {an od : Option Addr} {osl : Array (Option Value)} {binds : List (Str × Value)}
    (X : (hd.heap_39 w.params).In s.heap) (hlim : s.heap.NoLimit)
    (ho : (hd.heap_39 w.params).lookup f = some ⟨oc, od, .func (fnOf name qual params body scope dV kV doc pm an cdv ct), osl⟩) (hcd : codeIn (hd.heap_39 w.params) cdv qual = true)
    (hroom : dp < recursionLimit)
    (hbind : BindsTo s (fnOf name qual params body scope dV kV doc pm an cdv ct) ⟨vs, []⟩ binds) (hloc : ∀ y ∈ binds, scope.names.lookup y.1 = some .local)
    (h : ∀ h₁, Fr s.heap s.heap.objs.size h₁ (fun y => binds.reverse.lookup y) → News s.heap s.heap.objs.size h₁ [] →
      wpAny (model PySem.Challenge.rw_xm0118_01.row.prog w) ((Ar dp un gd fr).deeper (envOf qual scope s.heap.objs.size f cdv)) (execs body (envOf qual scope s.heap.objs.size f cdv))
        (fun fl s' => Q (match fl with | .ret v => v | _ => .none) s') (fun _ _ => False) { s with heap := h₁, toks := s.toks + binds.length })
    (hco : scope.isCoroutine = false) (hgen : scope.isGenerator = false) (hk : scope.kind = .function) (hcell : ∀ x ∈ scope.names, x.2 ≠ .cell) :
    wpAny (model PySem.Challenge.rw_xm0118_01.row.prog w) (Ar dp un gd fr) (call (.ref f) vs) Q (fun _ _ => False) s := by
  refine wpAny_call (codeAny_call_def (fd := fnOf name qual params body scope dV kV doc pm an cdv ct) (body := body) (binds := binds) hroom (X _ _ ho) rfl hlim (codeRec_of X hcd) rfl hbind hcell hloc (fun h₁ hns hk₁ => ?_) hco hgen hk)
  exact wpAny_mono (h h₁ ⟨hns, hk₁, Nat.le_refl _⟩ News.nil) (fun fl s' hq => hq) fun _ _ x => x.elim
theorem enter_cells {w : World} {dp un : Nat} {gd : Option (List Code)} {fr : Option (List Env)} {s : Shared} {Q : Value → Shared → Prop} {f : Addr} {vs : List Value}
    {name qual : Str} {params : Arguments} {body : List Stmt} {scope : Scope} {dV kV doc pm cdv ct oc : Value} {an od : Option Addr} {osl : Array (Option Value)} {binds : List (Str × Value)}
    (X : (hd.heap_39 w.params).In s.heap) (hlim : s.heap.NoLimit)
    (ho : (hd.heap_39 w.params).lookup f = some ⟨oc, od, .func (fnOf name qual params body scope dV kV doc pm an cdv ct), osl⟩) (hcd : codeIn (hd.heap_39 w.params) cdv qual = true)
    (hroom : dp < recursionLimit)
    (hbind : BindsTo s (fnOf name qual params body scope dV kV doc pm an cdv ct) ⟨vs, []⟩ binds)
    (hkind : (binds.all fun y => scope.names.lookup y.1 == some .local || scope.names.lookup y.1 == some .cell) = true)
    (hnd : ((cellsFrom 0 scope.names []).map (·.1)).Nodup)
    (h : ∀ h₁ tk cells, Fr s.heap s.heap.objs.size h₁ (bindL (envOfC qual scope s.heap.objs.size f cdv).kindOf binds fun _ => none) → News s.heap s.heap.objs.size h₁ cells →
      CellsAre (bindC (envOfC qual scope s.heap.objs.size f cdv).kindOf binds fun _ => none) (cellsFrom (s.heap.objs.size + 1) scope.names []) cells →
      wpAny (model PySem.Challenge.rw_xm0118_01.row.prog w) ((Ar dp un gd fr).deeper (envOfC qual scope s.heap.objs.size f cdv)) (execs body (envOfC qual scope s.heap.objs.size f cdv))
        (fun fl s' => Q (match fl with | .ret v => v | _ => .none) s') (fun _ _ => False) { s with heap := h₁, toks := tk })
    (hco : scope.isCoroutine = false) (hgen : scope.isGenerator = false) (hk : scope.kind = .function) :
    wpAny (model PySem.Challenge.rw_xm0118_01.row.prog w) (Ar dp un gd fr) (call (.ref f) vs) Q (fun _ _ => False) s := by
  refine wpAny_call (codeAny_call_function (A := Ar dp un gd fr) hroom (X _ _ ho) rfl hco hgen rfl (codeRec_of X hcd) (hbind _ _ _ _ ?_))
  refine wpAny_newFunctionEnv_cells hk (kindsX hkind _) fun env' he s' x => ?_
  subst he
  refine ⟨hlim.keeps x.toInCall.keep, codeAny_func ?_⟩
  obtain ⟨h₁, tk, rfl, _⟩ := x.done
  have hk₁ := x.toInCall.keep
  obtain ⟨cells, NC, Y⟩ := Cl.news (h₀ := s.heap) (Nat.le_refl _) fun n c hm => ⟨x.cell n c (lookup_of_mem_nodup (cellsFrom_names scope.names 0 (s.heap.objs.size + 1) [] [] rfl ▸ hnd) hm), x.above n c hm⟩
  exact wpAny_mono (h h₁ tk cells ⟨x.toInCall.ns, hk₁, Nat.le_refl _⟩ NC Y) (fun fl s' hq => hq) fun _ _ x => x.elim
end Mine
-- Lem
namespace Mine
def IsInts (h : Heap) (l : Addr) (xs : List Int) : Prop := ∃ (vs : List Value) (n : Nat), h.get? l = some (listOf vs.toArray n) ∧ IntsAre vs xs
/-- what a def hands back: a new list of ints -/
def GivesL (r : List Int) (h h' : Heap) (v : Value) : Prop := ∃ l, v = .ref l ∧ h.get? l = none ∧ IsInts h' l r
def GivesI (r : Int) (_ _ : Heap) (v : Value) : Prop := ∃ t, v = .int r t
theorem IsInts.news {h₀ h : Heap} {L l : Addr} {news : List (Addr × Obj)} {vs : List Value} {n : Nat} {xs : List Int} (N : News h₀ L h news) (hm : (l, listOf vs.toArray n) ∈ news) (hi : IntsAre vs xs) : IsInts h l xs :=
  ⟨vs, n, N.get hm, hi⟩
theorem IsInts.base {h₀ h : Heap} {L l : Addr} {m : Str → Option Value} {vs : List Value} {n : Nat} {xs : List Int} (F : Fr h₀ L h m) (hl : h₀.get? l = some (listOf vs.toArray n)) (hi : IntsAre vs xs) : IsInts h l xs :=
  ⟨vs, n, F.keep _ _ hl, hi⟩
theorem GivesL.of {h₀ h : Heap} {L l : Addr} {news : List (Addr × Obj)} {vs : List Value} {n : Nat} {xs r : List Int} (N : News h₀ L h news) (hm : (l, listOf vs.toArray n) ∈ news) (hi : IntsAre vs xs) (e : xs = r) : GivesL r h₀ h (.ref l) :=
  ⟨l, rfl, N.fresh hm, vs, n, N.get hm, e ▸ hi⟩
theorem IsInts.isList {h : Heap} {l : Addr} {vs : List Value} {n : Nat} (hl : h.get? l = some (listOf vs.toArray n)) : h.IsList l vs.toArray := ⟨_, hl, rfl, n, rfl⟩
section
variable {w : World} {mean : ExcName → Option Value} {mg mb : Str → Option Value} {f : Addr} {d u dp un : Nat} {gd : Option (List Code)} {fr : Option (List Env)} {vs : List Value} {pre : Heap → Prop}
  {h₀ : Heap} {L : Addr} {m : Str → Option Value} {news : List (Addr × Obj)} {s : Shared} {Q E : Value → Shared → Prop}
theorem fr_kept {h h' : Heap} (F : Fr h₀ L h m) (k : ∀ b o, h.get? b = some o → h'.get? b = some o) : Fr h₀ L h' m :=
  ⟨F.ns.keeps k, fun b o e => k b o (F.keep b o e), F.above⟩
theorem news_kept {h h' : Heap} (N : News h₀ L h news) (k : ∀ b o, h.get? b = some o → h'.get? b = some o) : News h₀ L h' news :=
  fun p hp => ⟨k _ _ (N p hp).1, (N p hp).2⟩
theorem news_more {h h' : Heap} {l : Addr} {o : Obj} (F : Fr h₀ L h m) (N : News h₀ L h news) (k : ∀ b o, h.get? b = some o → h'.get? b = some o) (hn : h.get? l = none) (ho : h'.get? l = some o) : News h₀ L h' ((l, o) :: news) := fun p hp => by
  rcases List.mem_cons.mp hp with rfl | hp
  · refine ⟨ho, fun e => ?_, ?_⟩
    · obtain ⟨oL, _, _, hL, _⟩ := F.ns
      rw [← e, hn] at hL
      cases hL
    · cases q : h₀.get? l with
      | none => rfl
      | some o' => rw [F.keep _ _ q] at hn; cases hn
  · exact ⟨k _ _ (N p hp).1, (N p hp).2⟩
def AllNe (d : Nat) : List (Addr × Obj) → Prop
  | [] => True
  | p :: r => @Ne Nat p.1 d ∧ AllNe d r
theorem allNe_of {d : Addr} : ∀ {l : List (Addr × Obj)}, (∀ p ∈ l, p.1 ≠ d) → AllNe d l
  | [], _ => trivial
  | p :: _, h => ⟨h p (.head _), allNe_of fun q hq => h q (.tail _ hq)⟩
theorem use_any {post : Heap → Heap → Value → Prop} (C : Tells w mean mg mb f d u vs pre post) (F : Fr h₀ L s.heap m) (N : News h₀ L s.heap news) (X : (hd.heap_39 w.params).In h₀)
    (T : Top hd.view_39 (looseW hd.view_39 []) mean mg mb h₀) (hdp : dp + d < recursionLimit) (hun : un + u < cLine) (hp : pre s.heap)
    (ret : ∀ v h' tk, Fr h₀ L h' m → News h₀ L h' news → (∀ b o, s.heap.get? b = some o → h'.get? b = some o) → post s.heap h' v → Q v { s with heap := h', toks := tk }) :
    wpAny (model PySem.Challenge.rw_xm0118_01.row.prog w) (Ar dp un gd fr) (call (.ref f) vs) Q E s :=
  wpAny_mono (C dp un gd fr s Q (X.keeps F.keep) (T.keeps F.keep) hdp hun hp fun v h' tk k hq => ret v h' tk (fr_kept F k) (news_kept N k) k hq) (fun _ _ x => x) fun _ _ x => x.elim
theorem use_list {r : List Int} (C : Tells w mean mg mb f d u vs pre (GivesL r)) (F : Fr h₀ L s.heap m) (N : News h₀ L s.heap news) (X : (hd.heap_39 w.params).In h₀)
    (T : Top hd.view_39 (looseW hd.view_39 []) mean mg mb h₀) (hdp : dp + d < recursionLimit) (hun : un + u < cLine) (hp : pre s.heap)
    (ret : ∀ l ws c h' tk, Fr h₀ L h' m → News h₀ L h' ((l, listOf (List.toArray ws) c) :: news) → AllNe l news → (∀ p ∈ news, p.1 ≠ l) → IntsAre ws r → Q (.ref l) { s with heap := h', toks := tk }) :
    wpAny (model PySem.Challenge.rw_xm0118_01.row.prog w) (Ar dp un gd fr) (call (.ref f) vs) Q E s := by
  refine use_any C F N X T hdp hun hp fun v h' tk F' N' k hq => ?_
  obtain ⟨l, rfl, hn, ws, c, hl, hi⟩ := hq
  have raw : ∀ p ∈ news, p.1 ≠ l := fun p hp e => by
    have := (N p hp).1
    rw [e, hn] at this
    cases this
  exact ret l ws c h' tk F' (news_more F N k hn hl) (allNe_of raw) raw hi
theorem use_int {r : Int} (C : Tells w mean mg mb f d u vs pre (GivesI r)) (F : Fr h₀ L s.heap m) (N : News h₀ L s.heap news) (X : (hd.heap_39 w.params).In h₀)
    (T : Top hd.view_39 (looseW hd.view_39 []) mean mg mb h₀) (hdp : dp + d < recursionLimit) (hun : un + u < cLine) (hp : pre s.heap)
    (ret : ∀ t h' tk, Fr h₀ L h' m → News h₀ L h' news → Q (.int r t) { s with heap := h', toks := tk }) :
    wpAny (model PySem.Challenge.rw_xm0118_01.row.prog w) (Ar dp un gd fr) (call (.ref f) vs) Q E s := by
  refine use_any C F N X T hdp hun hp fun v h' tk F' N' k hq => ?_
  obtain ⟨t, rfl⟩ := hq
  exact ret t h' tk F' N'
end
/-- drop the zeros at the end -/
def trim (xs : List Int) : List Int := (xs.reverse.dropWhile (· == 0)).reverse
theorem trim_snoc (xs : List Int) (x : Int) : trim (xs ++ [x]) = if x = 0 then trim xs else xs ++ [x] := by
  unfold trim
  rw [List.reverse_append]
  simp only [List.reverse_cons, List.reverse_nil, List.nil_append, List.singleton_append, List.dropWhile_cons, beq_iff_eq]
  split
  · rfl
  · simp
theorem trim_eq (xs : List Int) : ∀ (k : Nat), k ≤ xs.length → (∀ j, k ≤ j → j < xs.length → xs.getD j 0 = 0) → (0 < k → xs.getD (k - 1) 0 ≠ 0) → xs.take k = trim xs := by
  suffices h : ∀ n, ∀ xs : List Int, xs.length = n → ∀ (k : Nat), k ≤ xs.length → (∀ j, k ≤ j → j < xs.length → xs.getD j 0 = 0) → (0 < k → xs.getD (k - 1) 0 ≠ 0) → xs.take k = trim xs from h _ xs rfl
  intro n
  induction n with
  | zero =>
    intro xs hn k hk _ _
    have : xs = [] := List.eq_nil_of_length_eq_zero hn
    subst this
    simp [trim]
  | succ n ih =>
    intro xs hn k hk h1 h2
    rcases List.eq_nil_or_concat xs with e | ⟨ys, y, e⟩
    · subst e; simp at hn
    · rw [List.concat_eq_append] at e
      subst e
      have hl : ys.length = n := by simpa using hn
      have hy : (ys ++ [y]).getD ys.length 0 = y := by simp [List.getD_eq_getElem?_getD]
      have low : ∀ j, j < ys.length → (ys ++ [y]).getD j 0 = ys.getD j 0 := fun j hj => by
        rw [List.getD_eq_getElem?_getD, List.getD_eq_getElem?_getD, List.getElem?_append_left hj]
      rw [trim_snoc]
      have hk' : k ≤ ys.length + 1 := by simpa using hk
      by_cases hke : k = ys.length + 1
      · subst hke
        have := h2 (Nat.succ_pos _)
        rw [Nat.add_sub_cancel, hy] at this
        rw [if_neg this, List.take_of_length_le (by simp)]
      · have hkl : k ≤ ys.length := by omega
        have hy0 : y = 0 := by
          have := h1 ys.length hkl (by simp)
          rwa [hy] at this
        rw [if_pos hy0, List.take_append_of_le_length hkl]
        refine ih ys hl k hkl (fun j a b => ?_) (fun a => ?_)
        · rw [← low j b]; exact h1 j a (by rw [List.length_append]; exact Nat.lt_succ_of_lt b)
        · rw [← low (k - 1) (by omega)]; exact h2 a
/-- the rooms of a call, by a number's comparison -/
theorem rm {a k d D R : Nat} (h : a + D < R) (e : k + d ≤ D) : a + k + d < R := by
  rw [Nat.add_assoc]
  exact Nat.lt_of_le_of_lt (Nat.add_le_add_left e a) h
theorem tn_sub (a b : Nat) : ((a : Int) - b).toNat = a - b := Int.toNat_sub a b
theorem tn_pred (a : Nat) : ((a : Int) - 1).toNat = a - 1 := Int.toNat_sub a 1
theorem tn_neg (a : Nat) : (-1 + (a : Int)).toNat = a - 1 := by
  rw [Int.add_comm]
  exact Int.toNat_sub a 1
theorem tn_add (a b : Nat) : ((a : Int) + b).toNat = a + b := Int.toNat_natCast (a + b)
theorem tn_pred' {k : Int} (h : 0 ≤ k) : (k - 1).toNat = k.toNat - 1 := by
  obtain ⟨n, rfl⟩ := Int.eq_ofNat_of_zero_le h
  exact Int.toNat_sub n 1
theorem peel {k n : Int} (h : k ≤ n) : k = n ∨ k + 1 ≤ n := (Int.lt_or_eq_of_le h).symm
theorem rm1 {a D R : Nat} (h : a + D < R) : a < R := Nat.lt_of_le_of_lt (Nat.le_add_right a D) h
theorem rm0 {a d D R : Nat} (h : a + D < R) (e : d ≤ D) : a + d < R := Nat.lt_of_le_of_lt (Nat.add_le_add_left e a) h
section
variable {w : World} {mean : ExcName → Option Value} {mg mb : Str → Option Value} {f : Addr} {d u dp un : Nat} {gd : Option (List Code)} {fr : Option (List Env)} {vs : List Value} {pre : Heap → Prop}
  {h₀ : Heap} {L : Addr} {m : Str → Option Value} {news : List (Addr × Obj)} {s : Shared} {Q E : Value → Shared → Prop}
theorem useL {r : List Int} (ret : ∀ l ws c h' tk, Fr h₀ L h' m → News h₀ L h' ((l, listOf (List.toArray ws) c) :: news) → AllNe l news → (∀ p ∈ news, p.1 ≠ l) → IntsAre ws r → Q (.ref l) { s with heap := h', toks := tk })
    (F : Fr h₀ L s.heap m := by k_asm) (N : News h₀ L s.heap news := by k_asm) (X : (hd.heap_39 w.params).In h₀ := by k_asm)
    (T : Top hd.view_39 (looseW hd.view_39 []) mean mg mb h₀ := by k_asm) (hp : pre s.heap := by tb_start) (hdp : dp + d < recursionLimit := by k_extra "room") (hun : un + u < cLine := by k_extra "room")
    (C : Tells w mean mg mb f d u vs pre (GivesL r)) :
    wpAny (model PySem.Challenge.rw_xm0118_01.row.prog w) (Ar dp un gd fr) (call (.ref f) vs) Q E s := use_list C F N X T hdp hun hp ret
theorem useI {r : Int} (ret : ∀ t h' tk, Fr h₀ L h' m → News h₀ L h' news → Q (.int r t) { s with heap := h', toks := tk })
    (F : Fr h₀ L s.heap m := by k_asm) (N : News h₀ L s.heap news := by k_asm) (X : (hd.heap_39 w.params).In h₀ := by k_asm)
    (T : Top hd.view_39 (looseW hd.view_39 []) mean mg mb h₀ := by k_asm) (hp : pre s.heap := by tb_start) (hdp : dp + d < recursionLimit := by k_extra "room") (hun : un + u < cLine := by k_extra "room")
    (C : Tells w mean mg mb f d u vs pre (GivesI r)) :
    wpAny (model PySem.Challenge.rw_xm0118_01.row.prog w) (Ar dp un gd fr) (call (.ref f) vs) Q E s := use_int C F N X T hdp hun hp ret
end
end Mine
-- Loop
namespace Mine
def Hold (P : Prop) : Prop := P
theorem hold {P : Prop} (h : Hold P) : P := h
theorem unhold {P : Prop} (h : P) : Hold P := h
section
variable {prog : Program} {w : World} {A : Around} {E : Value → Shared → Prop} {s : Shared} {env : Env} {h₀ : Heap} {x : Str} {body : List Stmt} {Q : Flow → Shared → Prop}
theorem step_of {i : Nat} {news : List (Addr × Obj)} {own : List (Addr × Obj)} {wr fp : List Addr} {J : Nat → (Str → Option Value) → List (Addr × Obj) → Prop} {h : Heap} {tk : Nat} {f : Flow} {s₂ : Shared}
    (hsub : ∀ b ∈ wr, b ∈ fp) (hoff : ∀ p ∈ news, p.1 ∉ fp)
    (p : InvPostN h₀ env.locals (J i) own (news.map (·.1)) { s with heap := h, toks := tk } Q f s₂) :
    LoopStepV h₀ env.locals wr own (fun m nx => nx.map (·.1) = news.map (·.1) ∧ J i m nx) { s with heap := h, toks := tk } (fun v s' => Q (.ret v) s') (fun s' => Q .next s') f s₂ := by
  have fin : InvEndN h₀ env.locals (J i) own (news.map (·.1)) { s with heap := h, toks := tk } s₂ → LoopStepU h₀ env.locals wr own (fun m nx => nx.map (·.1) = news.map (·.1) ∧ J i m nx) { s with heap := h, toks := tk } .next s₂ := by
    rintro ⟨h', tk', m', news', nx, e, F', N', hn, ho, ha, hm⟩
    refine ⟨rfl, h', tk', m', nx, e, F', fun p hp => N' p ((List.mem_append.mp hp).elim (ho p) (hn p)), fun p hp hq => ?_, ha, hm⟩
    have h1 : p.1 ∈ nx.map (·.1) := List.mem_map.mpr ⟨p, hp, rfl⟩
    rw [ha] at h1
    obtain ⟨q, hq1, hq2⟩ := List.mem_map.mp h1
    exact hoff q hq1 (by rw [hq2]; exact hsub _ hq)
  cases f with
  | ret v => exact .ret p
  | brk => exact .brk p
  | next => exact .next (fin p)
  | cont => exact .cont (fin p)
theorem walk_core {I : Addr} {fp wr : List Addr} {n : Nat} {P : Nat → Value → Prop} {St : Nat → Heap → Prop} {m₀ : Str → Option Value} {news : List (Addr × Obj)} (J : Nat → (Str → Option Value) → List (Addr × Obj) → Prop)
    (W : Walks prog w A I fp wr n P St) (hLf : env.locals ∉ fp) (hwr : ∀ b ∈ wr, h₀.get? b = none) (hoff : ∀ p ∈ news, p.1 ∉ fp) (hst : St 0 s.heap) (F : Fr h₀ env.locals s.heap m₀) (N : News h₀ env.locals s.heap news)
    (hj : J 0 m₀ news)
    (turn : ∀ i v m₁ news₁ h tk own, i < n → P i v → news₁.map (·.1) = news.map (·.1) → OwnOff own (news.map (·.1)) → J i m₁ news₁ → Fr h₀ env.locals h (fun y => if y = x then some v else m₁ y) → News h₀ env.locals h (news₁ ++ own) →
      wpAny (model prog w) A (execs body env) (InvPostN h₀ env.locals (J (i + 1)) own (news.map (·.1)) { s with heap := h, toks := tk } Q) E { s with heap := h, toks := tk })
    (done : ∀ m₁ news₁ h tk, J n m₁ news₁ → news₁.map (·.1) = news.map (·.1) → Fr h₀ env.locals h m₁ → News h₀ env.locals h news₁ → Q .next { s with heap := h, toks := tk }) :
    LoopAtV prog w A h₀ env x body Q E (.ref I) s := by
  refine ⟨I, fp, wr, n, P, St, m₀, news, fun i m nx => nx.map (·.1) = news.map (·.1) ∧ J i m nx, rfl, W, hLf, hwr, fun p hp hb => hoff p hp (W.sub _ hb), hst, F, N, ⟨rfl, hj⟩, ?_, ?_⟩
  · rintro i v m₁ news₁ s₁ own ⟨hh', tk', rfl⟩ hin hP ⟨hadr, hJ⟩ _ hown _ _ _ F₁ N₁
    have hsep : OwnOff own (news.map (·.1)) := by
      intro p hp b hb e
      obtain ⟨q, hq, rfl⟩ := List.mem_map.mp hb
      exact hoff q hq (e ▸ hown p hp)
    have N₂ : News h₀ env.locals hh' (news₁ ++ own) := fun p hp => N₁ p ((List.mem_append.mp hp).elim (fun h => List.mem_append.mpr (.inr h)) fun h => List.mem_append.mpr (.inl h))
    exact wpAny_mono (turn i v m₁ news₁ hh' tk' own hin hP hadr hsep hJ F₁ N₂) (fun f s₂ p => step_of W.sub hoff p) fun _ _ e => e
  · rintro h' tk m' news' F' N' _ ⟨ha, hJ⟩
    exact done m' news' h' tk hJ ha F' N'
def EndW (h₀ : Heap) (L : Addr) (J : (Str → Option Value) → List (Addr × Obj) → Prop) (own : List (Addr × Obj)) (s₁ s₂ : Shared) : Prop :=
  ∃ h' tk m' news' nx, s₂ = { s₁ with heap := h', toks := tk } ∧ Fr h₀ L h' m' ∧ News h₀ L h' news' ∧ (∀ p ∈ nx, p ∈ news') ∧ (∀ p ∈ own, p ∈ news') ∧ (∀ p ∈ nx, ∀ q ∈ own, p.1 ≠ q.1) ∧ J m' nx
def PostW (h₀ : Heap) (L : Addr) (J : (Str → Option Value) → List (Addr × Obj) → Prop) (own : List (Addr × Obj)) (s₁ : Shared) (Q : Flow → Shared → Prop) (f : Flow) (s₂ : Shared) : Prop :=
  match f with
  | .ret v => Q (.ret v) s₂
  | .brk => Q .next s₂
  | _ => EndW h₀ L J own s₁ s₂
/-- a loop whose turn binds its names anew: what it keeps may lie elsewhere after a turn -/
theorem walk_coreW {I : Addr} {fp wr : List Addr} {n : Nat} {P : Nat → Value → Prop} {St : Nat → Heap → Prop} {m₀ : Str → Option Value} {news : List (Addr × Obj)} (J : Nat → (Str → Option Value) → List (Addr × Obj) → Prop)
    (W : Walks prog w A I fp wr n P St) (hlive : ∀ i h, St i h → ∀ b ∈ wr, ∃ o, h.get? b = some o) (hLf : env.locals ∉ fp) (hwr : ∀ b ∈ wr, h₀.get? b = none) (hoff : ∀ p ∈ news, p.1 ∉ wr) (hst : St 0 s.heap) (F : Fr h₀ env.locals s.heap m₀) (N : News h₀ env.locals s.heap news)
    (hj : J 0 m₀ news)
    (turn : ∀ i v m₁ news₁ h tk own, i < n → P i v → J i m₁ news₁ → (∀ p ∈ news₁, p.1 ∉ wr) → (∀ p ∈ own, p.1 ∈ fp) → Fr h₀ env.locals h (fun y => if y = x then some v else m₁ y) → News h₀ env.locals h (news₁ ++ own) →
      wpAny (model prog w) A (execs body env) (PostW h₀ env.locals (J (i + 1)) own { s with heap := h, toks := tk } Q) E { s with heap := h, toks := tk })
    (done : ∀ m₁ news₁ h tk, J n m₁ news₁ → Fr h₀ env.locals h m₁ → News h₀ env.locals h news₁ → Q .next { s with heap := h, toks := tk }) :
    LoopAtV prog w A h₀ env x body Q E (.ref I) s := by
  refine ⟨I, fp, wr, n, P, St, m₀, news, J, rfl, W, hLf, hwr, hoff, hst, F, N, hj, ?_, ?_⟩
  · rintro i v m₁ news₁ s₁ own ⟨hh', tk', rfl⟩ hin hP hJ hoff₁ hown _ hall hst₁ F₁ N₁
    have N₂ : News h₀ env.locals hh' (news₁ ++ own) := fun p hp => N₁ p ((List.mem_append.mp hp).elim (fun h => List.mem_append.mpr (.inr h)) fun h => List.mem_append.mpr (.inl h))
    refine wpAny_mono (turn i v m₁ news₁ hh' tk' own hin hP hJ hoff₁ hown F₁ N₂) (fun f s₂ p => ?_) fun _ _ e => e
    have fin : EndW h₀ env.locals (J (i + 1)) own { s with heap := hh', toks := tk' } s₂ → LoopStepU h₀ env.locals wr own (J (i + 1)) { s with heap := hh', toks := tk' } .next s₂ := by
      rintro ⟨h', tk, m', news', nx, e, F', N', hn, ho, ha, hm⟩
      refine ⟨rfl, h', tk, m', nx, e, F', fun p hp => N' p ((List.mem_append.mp hp).elim (ho p) (hn p)), fun p hp hq => ?_, hm⟩
      obtain ⟨o, hob⟩ := hlive _ _ hst₁ _ hq
      exact ha p hp (p.1, o) (hall _ (W.sub _ hq) (hwr _ hq) o hob) rfl
    cases f with
    | ret v => exact .ret p
    | brk => exact .brk p
    | next => exact .next (fin p)
    | cont => exact .cont (fin p)
  · rintro h' tk m' news' F' N' _ hJ
    exact done m' news' h' tk hJ F' N'
theorem rev_coreW {l D : Addr} {vs : List Value} {ns : List Int} {m₀ : Str → Option Value} {news : List (Addr × Obj)} (J : Nat → (Str → Option Value) → List (Addr × Obj) → Prop)
    (hh : A.handled = none) (hl : h₀.IsList l vs.toArray) (hi : IntsAre vs ns) (F : Fr h₀ env.locals s.heap m₀) (N : News h₀ env.locals s.heap ((D, revObj l ((vs.length : Int) - 1)) :: news)) (hDn : ∀ p ∈ news, p.1 ≠ D) (hj : J 0 m₀ news)
    (turn : ∀ i n t m₁ news₁ h tk own, ns.reverse[i]? = some n → J i m₁ news₁ → Fr h₀ env.locals h (fun y => if y = x then some (.int n t) else m₁ y) → News h₀ env.locals h (news₁ ++ own) →
      wpAny (model prog w) A (execs body env) (PostW h₀ env.locals (J (i + 1)) own { s with heap := h, toks := tk } Q) E { s with heap := h, toks := tk })
    (done : ∀ m₁ news₁ h tk, J ns.length m₁ news₁ → Fr h₀ env.locals h m₁ → News h₀ env.locals h news₁ → Q .next { s with heap := h, toks := tk }) :
    wpAny (model prog w) A (pyIter (.ref D)) (fun it s₂ => LoopAtV prog w A h₀ env x body Q E it s₂) E s := by
  obtain ⟨ol, hol, _⟩ := id hl
  have hD := N _ (List.mem_cons_self ..)
  have hne : l ≠ D := fun e => by rw [← e, hol] at hD; exact nomatch hD.2.2
  have hls : s.heap.IsList l vs.toArray := hl.at fun o e => F.keep l o e
  have hR : s.heap.IsRevIter D l ((vs.length : Int) - 1) := ⟨_, hD.1, rfl, rfl⟩
  refine wpAny_pyIter_revIter hR ?_
  have W := Walks.listRev (prog := prog) (w := w) hh D l hne vs.toArray
  have hlen : vs.toArray.size = ns.length := by simp [hi.length]
  rw [hlen] at W
  have hl2 : vs.length = ns.length := hi.length
  refine walk_coreW J W ?_ ?_ ?_ ?_ ⟨Nat.zero_le _, by rw [hl2] at hR; simpa using hR, hls⟩ F (fun p hp => N p (List.mem_cons_of_mem _ hp)) hj ?_ done
  · intro i h st b hb
    obtain ⟨o, ho, _⟩ := st.2.1
    exact ⟨o, (List.mem_singleton.mp hb) ▸ ho⟩
  · intro hm
    rcases List.mem_cons.mp hm with e | hm
    · exact hD.2.1 e.symm
    · have hlt : l < h₀.objs.size := Heap.lt_size hol
      exact absurd (Nat.lt_of_lt_of_le hlt F.above) ((List.mem_singleton.mp hm) ▸ Nat.lt_irrefl _)
  · intro b hb
    rw [List.mem_singleton.mp hb]
    exact hD.2.2
  · intro p hp hm
    exact hDn p hp (List.mem_singleton.mp hm)
  · rintro i v m₁ news₁ h tk own hin hP hJ _ _ F₁ N₁
    have hk : ns.length - 1 - i < ns.length := by omega
    obtain ⟨t, hx⟩ := hi.get (ns.length - 1 - i) ns[ns.length - 1 - i] (by simp [hk])
    have hv : v = .int ns[ns.length - 1 - i] t := by
      have hP' : vs[ns.length - 1 - i]? = some v := by simpa using hP
      rw [hx] at hP'; exact (Option.some.inj hP').symm
    subst hv
    refine turn i _ t m₁ news₁ h tk own ?_ hJ F₁ N₁
    rw [List.getElem?_reverse hin, List.getElem?_eq_getElem hk]
theorem range_coreW {r : Addr} {a b c : Int} {t₀ u₀ v₀ : Tok} {n : Nat} {m₀ : Str → Option Value} {news : List (Addr × Obj)} (J : Nat → (Str → Option Value) → List (Addr × Obj) → Prop)
    (hh : A.handled = none) (hr : IsRange s.heap r a b c t₀ u₀ v₀) (hsmall : Builtin.Range.small a b c = true) (hn : Builtin.Range.rangeSize a b c = (n : Int)) (F : Fr h₀ env.locals s.heap m₀) (N : News h₀ env.locals s.heap news) (hj : J 0 m₀ news)
    (turn : ∀ i t m₁ news₁ h tk own, i < n → J i m₁ news₁ → (∀ p ∈ news₁, ∀ q ∈ own, p.1 ≠ q.1) → Fr h₀ env.locals h (fun y => if y = x then some (.int (a + i * c) t) else m₁ y) → News h₀ env.locals h (news₁ ++ own) →
      wpAny (model prog w) A (execs body env) (PostW h₀ env.locals (J (i + 1)) own { s with heap := h, toks := tk } Q) E { s with heap := h, toks := tk })
    (done : ∀ m₁ news₁ h tk, J n m₁ news₁ → Fr h₀ env.locals h m₁ → News h₀ env.locals h news₁ → Q .next { s with heap := h, toks := tk }) :
    wpAny (model prog w) A (pyIter (.ref r)) (fun it s₂ => LoopAtV prog w A h₀ env x body Q E it s₂) E s := by
  refine wpAny_pyIter_range hr hsmall ?_
  have W := Walks.range (prog := prog) (w := w) (A := A) hh s.heap.objs.size a c n
  refine walk_coreW J W ?_ ?_ ?_ ?_ ?_ (F.push _) (fun p hp => ⟨Heap.get?_push_of_some _ (N p hp).1, (N p hp).2⟩) hj ?_ done
  · intro i h st b hb
    exact ⟨_, (List.mem_singleton.mp hb) ▸ st⟩
  · intro hm
    exact absurd F.ns.lt ((List.mem_singleton.mp hm) ▸ Nat.lt_irrefl _)
  · intro b hb
    rw [List.mem_singleton.mp hb]
    exact next_is_new F
  · intro p hp hI
    exact absurd (Heap.lt_size (N p hp).1) ((List.mem_singleton.mp hI) ▸ Nat.lt_irrefl _)
  · show IsRangeIter _ _ _ _ _
    rw [hn]
    simpa using Heap.get?_push_size _ rfl
  · rintro i v m₁ news₁ h tk own hin ⟨t, rfl⟩ hJ hw hf F₁ N₁
    exact turn i t m₁ news₁ h tk own hin hJ (fun p hp q hq e => hw p hp (e ▸ hf q hq)) F₁ N₁
/-- a loop over a list of ints, wherever it lies -/
theorem list_core {l : Addr} {vs : List Value} {ns : List Int} {m₀ : Str → Option Value} {news : List (Addr × Obj)} (J : Nat → (Str → Option Value) → List (Addr × Obj) → Prop)
    (hh : A.handled = none) (hl : s.heap.IsList l vs.toArray) (hi : IntsAre vs ns) (hlL : l ≠ env.locals) (hln : ∀ p ∈ news, p.1 ≠ l) (F : Fr h₀ env.locals s.heap m₀) (N : News h₀ env.locals s.heap news) (hj : J 0 m₀ news)
    (turn : ∀ i n t m₁ news₁ h tk own, ns[i]? = some n → news₁.map (·.1) = news.map (·.1) → OwnOff own (news.map (·.1)) → J i m₁ news₁ → Fr h₀ env.locals h (fun y => if y = x then some (.int n t) else m₁ y) → News h₀ env.locals h (news₁ ++ own) →
      wpAny (model prog w) A (execs body env) (InvPostN h₀ env.locals (J (i + 1)) own (news.map (·.1)) { s with heap := h, toks := tk } Q) E { s with heap := h, toks := tk })
    (done : ∀ m₁ news₁ h tk, J ns.length m₁ news₁ → news₁.map (·.1) = news.map (·.1) → Fr h₀ env.locals h m₁ → News h₀ env.locals h news₁ → Q .next { s with heap := h, toks := tk }) :
    wpAny (model prog w) A (pyIter (.ref l)) (fun it s₂ => LoopAtV prog w A h₀ env x body Q E it s₂) E s := by
  obtain ⟨ol, hol, _⟩ := id hl
  have hne : l ≠ s.heap.objs.size := Nat.ne_of_lt (Heap.lt_size hol)
  refine wpAny_pyIter_list hl ?_
  have W := Walks.list (prog := prog) (w := w) hh s.heap.objs.size l hne vs.toArray
  have hlen : vs.toArray.size = ns.length := by simp [hi.length]
  rw [hlen] at W
  refine walk_core J W ?_ ?_ ?_ ⟨⟨_, Heap.get?_push_size _ rfl, rfl, rfl⟩, hl.at fun o e => Heap.get?_push_of_some _ e⟩ (F.push _) (fun p hp => ⟨Heap.get?_push_of_some _ (N p hp).1, (N p hp).2⟩) hj ?_ done
  · intro hm
    rcases List.mem_cons.mp hm with e | hm
    · exact absurd F.ns.lt (e ▸ Nat.lt_irrefl _)
    · exact hlL (List.mem_singleton.mp hm).symm
  · intro b hb
    rw [List.mem_singleton.mp hb]
    exact next_is_new F
  · intro p hp hm
    rcases List.mem_cons.mp hm with e | hm
    · exact absurd (Heap.lt_size (N p hp).1) (e ▸ Nat.lt_irrefl _)
    · exact hln p hp (List.mem_singleton.mp hm)
  · rintro i v m₁ news₁ h tk own hin hP hadr hsep hJ F₁ N₁
    obtain ⟨t, hx⟩ := hi.get i ns[i] (by simp [hin])
    have hv : v = .int ns[i] t := by
      have hP' : vs[i]? = some v := by simpa using hP
      rw [hx] at hP'; exact (Option.some.inj hP').symm
    subst hv
    exact turn i ns[i] t m₁ news₁ h tk own (by simp [hin]) hadr hsep hJ F₁ N₁
/-- a loop over reversed(list), the list in the base -/
theorem rev_core {l D : Addr} {vs : List Value} {ns : List Int} {m₀ : Str → Option Value} {news : List (Addr × Obj)} (J : Nat → (Str → Option Value) → List (Addr × Obj) → Prop)
    (hh : A.handled = none) (hl : h₀.IsList l vs.toArray) (hi : IntsAre vs ns) (F : Fr h₀ env.locals s.heap m₀) (N : News h₀ env.locals s.heap ((D, revObj l ((vs.length : Int) - 1)) :: news)) (hDn : ∀ p ∈ news, p.1 ≠ D) (hj : J 0 m₀ news)
    (turn : ∀ i n t m₁ news₁ h tk own, ns.reverse[i]? = some n → news₁.map (·.1) = news.map (·.1) → OwnOff own (news.map (·.1)) → J i m₁ news₁ → Fr h₀ env.locals h (fun y => if y = x then some (.int n t) else m₁ y) → News h₀ env.locals h (news₁ ++ own) →
      wpAny (model prog w) A (execs body env) (InvPostN h₀ env.locals (J (i + 1)) own (news.map (·.1)) { s with heap := h, toks := tk } Q) E { s with heap := h, toks := tk })
    (done : ∀ m₁ news₁ h tk, J ns.length m₁ news₁ → news₁.map (·.1) = news.map (·.1) → Fr h₀ env.locals h m₁ → News h₀ env.locals h news₁ → Q .next { s with heap := h, toks := tk }) :
    wpAny (model prog w) A (pyIter (.ref D)) (fun it s₂ => LoopAtV prog w A h₀ env x body Q E it s₂) E s := by
  obtain ⟨ol, hol, _⟩ := id hl
  have hD := N _ (List.mem_cons_self ..)
  have hne : l ≠ D := fun e => by rw [← e, hol] at hD; exact nomatch hD.2.2
  have hls : s.heap.IsList l vs.toArray := hl.at fun o e => F.keep l o e
  have hR : s.heap.IsRevIter D l ((vs.length : Int) - 1) := ⟨_, hD.1, rfl, rfl⟩
  refine wpAny_pyIter_revIter hR ?_
  have W := Walks.listRev (prog := prog) (w := w) hh D l hne vs.toArray
  have hlen : vs.toArray.size = ns.length := by simp [hi.length]
  rw [hlen] at W
  have hl2 : vs.length = ns.length := hi.length
  refine walk_core J W ?_ ?_ ?_ ⟨Nat.zero_le _, by rw [hl2] at hR; simpa using hR, hls⟩ F (fun p hp => N p (List.mem_cons_of_mem _ hp)) hj ?_ done
  · intro hm
    rcases List.mem_cons.mp hm with e | hm
    · exact hD.2.1 e.symm
    · have hlt : l < h₀.objs.size := Heap.lt_size hol
      exact absurd (Nat.lt_of_lt_of_le hlt F.above) ((List.mem_singleton.mp hm) ▸ Nat.lt_irrefl _)
  · intro b hb
    rw [List.mem_singleton.mp hb]
    exact hD.2.2
  · intro p hp hm
    rcases List.mem_cons.mp hm with e | hm
    · exact hDn p hp e
    · have := (N p (List.mem_cons_of_mem _ hp)).2.2
      rw [List.mem_singleton.mp hm, hol] at this
      cases this
  · rintro i v m₁ news₁ h tk own hin hP hadr hsep hJ F₁ N₁
    have hk : ns.length - 1 - i < ns.length := by omega
    obtain ⟨t, hx⟩ := hi.get (ns.length - 1 - i) ns[ns.length - 1 - i] (by simp [hk])
    have hv : v = .int ns[ns.length - 1 - i] t := by
      have hP' : vs[ns.length - 1 - i]? = some v := by simpa using hP
      rw [hx] at hP'; exact (Option.some.inj hP').symm
    subst hv
    refine turn i _ t m₁ news₁ h tk own ?_ hadr hsep hJ F₁ N₁
    rw [List.getElem?_reverse hin, List.getElem?_eq_getElem hk]
/-- a loop over a range, up or down -/
theorem range_core {r : Addr} {a b c : Int} {t₀ u₀ v₀ : Tok} {n : Nat} {m₀ : Str → Option Value} {news : List (Addr × Obj)} (J : Nat → (Str → Option Value) → List (Addr × Obj) → Prop)
    (hh : A.handled = none) (hr : IsRange s.heap r a b c t₀ u₀ v₀) (hsmall : Builtin.Range.small a b c = true) (hn : Builtin.Range.rangeSize a b c = (n : Int)) (F : Fr h₀ env.locals s.heap m₀) (N : News h₀ env.locals s.heap news) (hj : J 0 m₀ news)
    (turn : ∀ i t m₁ news₁ h tk own, i < n → news₁.map (·.1) = news.map (·.1) → OwnOff own (news.map (·.1)) → J i m₁ news₁ → Fr h₀ env.locals h (fun y => if y = x then some (.int (a + i * c) t) else m₁ y) → News h₀ env.locals h (news₁ ++ own) →
      wpAny (model prog w) A (execs body env) (InvPostN h₀ env.locals (J (i + 1)) own (news.map (·.1)) { s with heap := h, toks := tk } Q) E { s with heap := h, toks := tk })
    (done : ∀ m₁ news₁ h tk, J n m₁ news₁ → news₁.map (·.1) = news.map (·.1) → Fr h₀ env.locals h m₁ → News h₀ env.locals h news₁ → Q .next { s with heap := h, toks := tk }) :
    wpAny (model prog w) A (pyIter (.ref r)) (fun it s₂ => LoopAtV prog w A h₀ env x body Q E it s₂) E s := by
  refine wpAny_pyIter_range hr hsmall ?_
  have W := Walks.range (prog := prog) (w := w) (A := A) hh s.heap.objs.size a c n
  refine walk_core J W ?_ ?_ ?_ ?_ (F.push _) (fun p hp => ⟨Heap.get?_push_of_some _ (N p hp).1, (N p hp).2⟩) hj ?_ done
  · intro hm
    exact absurd F.ns.lt ((List.mem_singleton.mp hm) ▸ Nat.lt_irrefl _)
  · intro b hb
    rw [List.mem_singleton.mp hb]
    exact next_is_new F
  · intro p hp hI
    exact absurd (Heap.lt_size (N p hp).1) ((List.mem_singleton.mp hI) ▸ Nat.lt_irrefl _)
  · show IsRangeIter _ _ _ _ _
    rw [hn]
    simpa using Heap.get?_push_size _ rfl
  · rintro i v m₁ news₁ h tk own hin ⟨t, rfl⟩ hadr hsep hJ F₁ N₁
    exact turn i t m₁ news₁ h tk own hin hadr hsep hJ F₁ N₁
/-- for one, x in enumerate(list in the base) -/
theorem enum_core {l : Addr} {vs : List Value} {ns : List Int} {xi xv : Str} {pi pv pt : Pos} {k : Nat} {m₀ : Str → Option Value} {news : List (Addr × Obj)} (J : Nat → (Str → Option Value) → List (Addr × Obj) → Prop)
    (hh : A.handled = none) (hxi : env.kindOf xi = some .local) (hxv : env.kindOf xv = some .local) (hp : (env.scope.kind == .class || (env.scope.kind == .module && env.locals != env.globals)) = false)
    (hl : h₀.IsList l vs.toArray) (hi : IntsAre vs ns) (F : Fr h₀ env.locals s.heap m₀) (N : News h₀ env.locals s.heap news) (hj : J 0 m₀ news)
    (turn : ∀ i n t₁ t₂ m₁ news₁ h tk own, ns[i]? = some n → news₁.map (·.1) = news.map (·.1) → OwnOff own (news.map (·.1)) → J i m₁ news₁ → Fr h₀ env.locals h (fun y => if y = xv then some (.int n t₂) else if y = xi then some (.int i t₁) else m₁ y) → News h₀ env.locals h (news₁ ++ own) →
      wpAny (model prog w) A (execs body env) (InvPostN h₀ env.locals (J (i + 1)) own (news.map (·.1)) { s with heap := h, toks := tk } Q) E { s with heap := h, toks := tk })
    (done : ∀ m₁ news₁ h tk, J ns.length m₁ news₁ → news₁.map (·.1) = news.map (·.1) → Fr h₀ env.locals h m₁ → News h₀ env.locals h news₁ → Q .next { s with heap := h, toks := tk }) :
    wpAny (model prog w) A (call (.type "enumerate") [.ref l]) (fun xv' s₁ => wpAny (model prog w) A (pyIter xv') (fun it s₂ => TurnsAt prog w A h₀ env (.Tuple [.Name xi pi, .Name xv pv] k pt) body Q E it s₂) E s₁) E s := by
  have hls : s.heap.IsList l vs.toArray := hl.at fun o e => F.keep l o e
  obtain ⟨ol, hol, _⟩ := id hl
  have hlt : l < s.heap.objs.size := Heap.lt_size (F.keep _ _ hol)
  have hlt₀ : l < h₀.objs.size := Heap.lt_size hol
  have hLs : env.locals < s.heap.objs.size := F.ns.lt
  refine call_enumerate_list hls fun h' hE hI hsz hk => ?_
  refine wpAny_pyIter_enum hE ?_
  have W := (WalksT.enumerate (prog := prog) (w := w) hh (s.heap.objs.size + 1) s.heap.objs.size l (Nat.succ_ne_self _) (Nat.ne_of_lt (Nat.lt_succ_of_lt hlt)) (Nat.ne_of_lt hlt) vs.toArray).toU
  have hlen : vs.toArray.size = ns.length := by simp [hi.length]
  rw [hlen] at W
  have hoff : ∀ p ∈ news, p.1 ∉ [s.heap.objs.size + 1, s.heap.objs.size, l] := by
    intro p hp hm
    have hplt := Heap.lt_size (N p hp).1
    have hm' : p.1 = s.heap.objs.size + 1 ∨ p.1 = s.heap.objs.size ∨ p.1 = l := by simpa using hm
    rcases hm' with e | e | e
    · exact absurd (Nat.lt_succ_of_lt hplt) (e ▸ Nat.lt_irrefl _)
    · exact absurd hplt (e ▸ Nat.lt_irrefl _)
    · have := (N p hp).2.2
      rw [e, hol] at this
      cases this
  have hsub : ∀ b ∈ [s.heap.objs.size + 1, s.heap.objs.size], b ∈ [s.heap.objs.size + 1, s.heap.objs.size, l] := fun b hb => by
    have hb' : b = s.heap.objs.size + 1 ∨ b = s.heap.objs.size := by simpa using hb
    rcases hb' with e | e <;> simp [e]
  have fresh : ∀ b, s.heap.objs.size ≤ b → h₀.get? b = none := fun b hb => by
    cases q : h₀.get? b with
    | none => rfl
    | some o => exact absurd (Heap.lt_size (F.keep b o q)) (Nat.not_lt.mpr hb)
  refine ⟨s.heap.objs.size + 1, _, [s.heap.objs.size + 1, s.heap.objs.size], ns.length, _, _, _, m₀, news, fun i m nx => nx.map (·.1) = news.map (·.1) ∧ J i m nx, rfl, KTurns.ofWalksU W, ?_, ?_, fun p hp hb => hoff p hp (hsub _ hb), ⟨⟨.none, hE⟩, hI, hls.at fun o e => hk _ _ e⟩, fr_kept F hk, news_kept N hk, ⟨rfl, hj⟩, ?_, ?_⟩
  · intro hm
    have hm' : env.locals = s.heap.objs.size + 1 ∨ env.locals = s.heap.objs.size ∨ env.locals = l := by simpa using hm
    rcases hm' with e | e | e
    · exact absurd (Nat.lt_succ_of_lt hLs) (e ▸ Nat.lt_irrefl _)
    · exact absurd hLs (e ▸ Nat.lt_irrefl _)
    · exact absurd (Nat.lt_of_lt_of_le hlt₀ F.above) (e ▸ Nat.lt_irrefl _)
  · intro b hb
    have hb' : b = s.heap.objs.size + 1 ∨ b = s.heap.objs.size := by simpa using hb
    rcases hb' with e | e
    · exact fresh b (e ▸ Nat.le_succ _)
    · exact fresh b (e ▸ Nat.le_refl _)
  · rintro i v m₁ news₁ h tk own hin ⟨T, vals, rfl, ⟨t, x', hx, rfl⟩, hT⟩ ⟨hadr, hJ⟩ _ hown _ _ _ F₁ N₁
    have hsep : OwnOff own (news.map (·.1)) := by
      intro p hp b hb e
      obtain ⟨q, hq, rfl⟩ := List.mem_map.mp hb
      exact hoff q hq (e ▸ hown p hp)
    have N₂ : News h₀ env.locals h (news₁ ++ own) := fun p hp => N₁ p ((List.mem_append.mp hp).elim (fun h => List.mem_append.mpr (.inr h)) fun h => List.mem_append.mpr (.inl h))
    obtain ⟨t₂, hx₂⟩ := hi.get i ns[i] (by simp [hin])
    have hv : x' = .int ns[i] t₂ := by
      have hP' : vs[i]? = some x' := by simpa using hx
      rw [hx₂] at hP'; exact (Option.some.inj hP').symm
    subst hv
    refine wpAny_assign_Tuple hh hT rfl rfl fun h₃ hx₃ => ?_
    replace hx₃ : Heap.ExtBut h.objs.size h h₃ := hx₃
    have k₃ : ∀ b o, h.get? b = some o → h₃.get? b = some o := fun b o e => hx₃ b o (Nat.ne_of_lt (Heap.lt_size e)) e
    have F₃ := fr_kept F₁ k₃
    have N₃ := news_kept N₂ k₃
    show wpAny _ A (do holding [Value.int ns[i] t₂] (assign (.Name xi pi) env (.int i t)); do holding [] (assign (.Name xv pv) env (.int ns[i] t₂)); pure ()) _ _ _
    refine wpAny_bind (wpAny_holding (wpAny_assign_Name (wpAny_storeName_local hxi F₃.ns (fun h₄ hn₄ hs₄ => ?_) hp)))
    have F₄ := F₃.set hn₄ hs₄
    have N₄ := N₃.set hs₄
    refine wpAny_bind (wpAny_holding (wpAny_assign_Name (wpAny_storeName_local hxv F₄.ns (fun h₅ hn₅ hs₅ => wpAny_pure ?_) hp)))
    exact wpAny_mono (turn i ns[i] t t₂ m₁ news₁ h₅ _ own (by simp [hin]) hadr hsep hJ (F₄.set hn₅ hs₅) (N₄.set hs₅)) (fun f s₂ p => step_of hsub hoff p) fun _ _ e => e
  · rintro h' tk m' news' F' N' _ ⟨ha, hJ⟩
    exact done m' news' h' tk hJ ha F' N'
def WEnd (I : Nat → Heap → Prop) (n : Nat) (s s₃ : Shared) : Prop := ∃ h' tk' m, m < n ∧ s₃ = { s with heap := h', toks := tk' } ∧ I m h'
theorem wend {I : Nat → Heap → Prop} {n m : Nat} {s : Shared} {h' : Heap} {tk' : Nat} (hm : m < n) (h : I m h') : WEnd I n s { s with heap := h', toks := tk' } := ⟨h', tk', m, hm, rfl, h⟩
/-- while, by a measure -/
theorem while_core {test : PySem.Expr} {pos : Pos} (I : Nat → Heap → Prop) (hE : PassesOwn (model prog w) A env E)
    (turn : ∀ n h tk, I n h → wpAny (model prog w) A (isTrue test env (eval test env)) (fun b s₂ => Hold (if b = true then wpAny (model prog w) A (execs body env) (fun f s₃ => match f with
        | .next | .cont => WEnd I n s s₃
        | .brk => Q .next s₃
        | .ret v => Q (.ret v) s₃) E s₂ else Q .next s₂)) E { s with heap := h, toks := tk })
    (n : Nat) (h : I n s.heap) : wpAny (model prog w) A (exec (.While test body [] pos) env) Q E s := by
  refine wpAny_While (codeAny_whileLoop (fun n s' => ∃ h tk, s' = { s with heap := h, toks := tk } ∧ I n h) ?_ n ⟨s.heap, s.toks, rfl, h⟩)
  rintro n s' ⟨h, tk, rfl, hI⟩
  refine wpAny_mono (turn n h tk hI) (fun b s₂ h₂ => ?_) hE
  unfold Hold at h₂
  cases b with
  | false =>
    simp only [Bool.false_eq_true, if_false] at h₂ ⊢
    exact wpAny_execs_nil h₂
  | true =>
    simp only [if_true] at h₂ ⊢
    refine wpAny_mono h₂ (fun f s₃ h₃ => ?_) hE
    cases f with
    | next => obtain ⟨h', tk', m, hm, e, hI'⟩ := h₃; exact ⟨m, hm, h', tk', e, hI'⟩
    | cont => obtain ⟨h', tk', m, hm, e, hI'⟩ := h₃; exact ⟨m, hm, h', tk', e, hI'⟩
    | brk => exact h₃
    | ret v => exact h₃
end
theorem ne_raw {a l : Addr} {o : Obj} {news : List (Addr × Obj)} (h : ∀ p ∈ news, p.1 ≠ l) (hm : (a, o) ∈ news) : a ≠ l := h _ hm
theorem off1_raw {D : Addr} : ∀ {l : List (Addr × Obj)}, LCg.Off1 D l → ∀ p ∈ l, p.1 ≠ D
  | [], _, _, h => nomatch h
  | _ :: _, x, p, h => by
    rcases List.mem_cons.mp h with rfl | h
    · exact x.1
    · exact off1_raw x.2 p h
/-- a name's value, written at the front of the frame's map -/
theorem frv {h₀ h : Heap} {L : Addr} {m : Str → Option Value} {x : Str} {v : Value} (F : Fr h₀ L h m) (e : m x = some v) : Fr h₀ L h (fun y => if y = x then some v else m y) := by
  have : m = fun y => if y = x then some v else m y := by
    funext y
    by_cases c : y = x
    · subst c; rw [if_pos rfl]; exact e
    · rw [if_neg c]
  rw [this] at F
  exact F
/-- a name that two stores did not touch -/
theorem off1 {m : Str → Option Value} {x a : Str} {u : Option Value} {v : Option Value} (h : ¬ x = a) (e : m x = v) : (if x = a then u else m x) = v := (if_neg h).trans e
theorem off2 {m : Str → Option Value} {x a b : Str} {u u' : Option Value} {v : Option Value} (h : ¬ x = a) (h' : ¬ x = b) (e : m x = v) : (if x = a then u else if x = b then u' else m x) = v := (if_neg h).trans ((if_neg h').trans e)
theorem name_addr {D : Addr} {o : Obj} {news : List (Addr × Obj)} {h₀ h : Heap} {L : Addr} {P : Prop} (_N : News h₀ L h ((D, o) :: news)) (k : ∀ D', D' = D → P) : P := k D rfl
theorem news_one {D : Addr} {o : Obj} {news : List (Addr × Obj)} {h₀ h : Heap} {L : Addr} (N : News h₀ L h ((D, o) :: news)) : News h₀ L h [(D, o)] := fun p hp => N p (List.mem_singleton.mp hp ▸ .head _)
theorem endN {h₀ h' : Heap} {L D : Addr} {J : (Str → Option Value) → List (Addr × Obj) → Prop} {m' : Str → Option Value} {own keep rest : List (Addr × Obj)} {o : Obj} {adr : List Addr} {s₁ : Shared} {tk : Nat} (F : Fr h₀ L h' m') (N : News h₀ L h' ((D, o) :: rest))
    (hk : ∀ p ∈ keep, p ∈ rest) (ho : ∀ p ∈ own, p ∈ rest) (ha : D :: keep.map (·.1) = adr) (hj : J m' ((D, o) :: keep)) : InvEndN h₀ L J own adr s₁ { s₁ with heap := h', toks := tk } :=
  InvEndN.intro F N hj ha (fun p hp => by
    rcases List.mem_cons.mp hp with rfl | hp
    · exact .head _
    · exact .tail _ (hk p hp)) fun p hp => .tail _ (ho p hp)
theorem endW {h₀ h' : Heap} {L : Addr} {J : (Str → Option Value) → List (Addr × Obj) → Prop} {m' : Str → Option Value} {own all : List (Addr × Obj)} {s₁ : Shared} {tk : Nat} (nx : List (Addr × Obj)) (F : Fr h₀ L h' m') (N : News h₀ L h' all)
    (hn : ∀ p ∈ nx, p ∈ all) (ho : ∀ p ∈ own, p ∈ all) (ha : ∀ p ∈ nx, ∀ q ∈ own, p.1 ≠ q.1) (hj : J m' nx) : EndW h₀ L J own s₁ { s₁ with heap := h', toks := tk } := ⟨h', tk, m', all, nx, rfl, F, N, hn, ho, ha, hj⟩
theorem endW1 {h₀ h' : Heap} {L D : Addr} {o : Obj} {J : (Str → Option Value) → List (Addr × Obj) → Prop} {m' : Str → Option Value} {own rest : List (Addr × Obj)} {s₁ : Shared} {tk : Nat} (F : Fr h₀ L h' m') (N : News h₀ L h' ((D, o) :: rest))
    (raw : ∀ p ∈ rest, p.1 ≠ D) (ho : ∀ p ∈ own, p ∈ rest) (hj : J m' [(D, o)]) : EndW h₀ L J own s₁ { s₁ with heap := h', toks := tk } :=
  endW [(D, o)] F N (fun p hp => by rw [List.mem_singleton.mp hp]; exact .head _) (fun p hp => .tail _ (ho p hp)) (fun p hp q hq e => by
    rw [List.mem_singleton.mp hp] at e
    exact raw q (ho q hq) e.symm) hj
theorem news_push {h₀ h : Heap} {L D : Addr} {ws : List Value} {v : Value} {c : Nat} {rest : List (Addr × Obj)} (N : News h₀ L h ((D, listOf (ws.toArray.push v) c) :: rest)) : News h₀ L h ((D, listOf (ws ++ [v]).toArray c) :: rest) := by
  rw [List.push_toArray] at N
  exact N
theorem ints_take_snoc {ws : List Value} {l : List Int} {i : Nat} {v : Int} {t : Tok} (h : IntsAre ws (l.take i)) (hi : i < l.length) (hv : v = l.getD i 0) : IntsAre (ws ++ [.int v t]) (l.take (i + 1)) := by
  rw [List.take_add_one, List.getElem?_eq_getElem hi]
  have : v = l[i] := by rw [hv, List.getD_eq_getElem?_getD, List.getElem?_eq_getElem hi]; rfl
  rw [this]
  exact IntsAre.append h (.cons _ _ .nil)
theorem endW2 {h₀ h' : Heap} {L D₁ D₂ : Addr} {o₁ o₂ : Obj} {J : (Str → Option Value) → List (Addr × Obj) → Prop} {m' : Str → Option Value} {own all rest : List (Addr × Obj)} {s₁ : Shared} {tk : Nat} (F : Fr h₀ L h' m') (N : News h₀ L h' all)
    (raw : ∀ p ∈ rest, p.1 ≠ D₁) (ho' : ∀ p ∈ own, p ∈ rest) (off : ∀ q ∈ own, D₂ ≠ q.1) (hj : J m' [(D₁, o₁), (D₂, o₂)]) (h1 : (D₁, o₁) ∈ all) (h2 : (D₂, o₂) ∈ all) (ho : ∀ p ∈ own, p ∈ all) : EndW h₀ L J own s₁ { s₁ with heap := h', toks := tk } :=
  endW [(D₁, o₁), (D₂, o₂)] F N (fun p hp => by
    rcases List.mem_cons.mp hp with rfl | hp
    · exact h1
    · rw [List.mem_singleton.mp hp]; exact h2) ho (fun p hp q hq e => by
    rcases List.mem_cons.mp hp with rfl | hp
    · exact raw q (ho' q hq) e.symm
    · rw [List.mem_singleton.mp hp] at e; exact off q hq e) hj
theorem name_ref {h₀ h : Heap} {L D : Addr} {m : Str → Option Value} {P : Prop} (_F : Fr h₀ L h m) (x : Str) (_e : m x = some (.ref D)) (k : ∀ D', D' = D → P) : P := k D rfl
theorem name_tail {h₀ h : Heap} {L D : Addr} {o : Obj} {rest : List (Addr × Obj)} {P : Prop} (N : News h₀ L h ((D, o) :: rest)) (k : ∀ rst, rst = rest → News h₀ L h ((D, o) :: rst) → P) : P := k rest rfl N
theorem news_two {D D' : Addr} {o o' : Obj} {news : List (Addr × Obj)} {h₀ h : Heap} {L : Addr} (N : News h₀ L h news) (h1 : (D, o) ∈ news) (h2 : (D', o') ∈ news) : News h₀ L h [(D, o), (D', o')] := fun p hp => by
  rcases List.mem_cons.mp hp with rfl | hp
  · exact N _ h1
  · rw [List.mem_singleton.mp hp]; exact N _ h2
theorem end2 {h₀ h' : Heap} {L D₁ D₂ : Addr} {J : (Str → Option Value) → List (Addr × Obj) → Prop} {m' : Str → Option Value} {own rest : List (Addr × Obj)} {o₁ o₂ : Obj} {s₁ : Shared} {tk : Nat} (F : Fr h₀ L h' m') (N : News h₀ L h' ((D₁, o₁) :: (D₂, o₂) :: rest))
    (ho : ∀ p ∈ own, p ∈ rest) (hj : J m' [(D₁, o₁), (D₂, o₂)]) : InvEndN h₀ L J own [D₁, D₂] s₁ { s₁ with heap := h', toks := tk } :=
  endN (keep := [(D₂, o₂)]) F N (fun q hq => by rw [List.mem_singleton.mp hq]; exact .head _) (fun q hq => .tail _ (ho q hq)) rfl hj
theorem endNil {h₀ h' : Heap} {L : Addr} {J : (Str → Option Value) → List (Addr × Obj) → Prop} {m' : Str → Option Value} {own rest : List (Addr × Obj)} {s₁ : Shared} {tk : Nat} (F : Fr h₀ L h' m') (N : News h₀ L h' rest)
    (ho : ∀ p ∈ own, p ∈ rest) (hj : J m' []) : InvEndN h₀ L J own [] s₁ { s₁ with heap := h', toks := tk } :=
  InvEndN.intro F N hj rfl (fun p hp => nomatch hp) ho
theorem own_app {a b : List (Addr × Obj)} {adr : List Addr} (x : OwnOff a adr) (y : OwnOff b adr) : OwnOff (a ++ b) adr := fun p hp c hc => (List.mem_append.mp hp).elim (fun h => x p h c hc) fun h => y p h c hc
theorem own_sub {a : List (Addr × Obj)} {adr adr' : List Addr} (x : OwnOff a adr) (h : ∀ b ∈ adr', b ∈ adr) : OwnOff a adr' := fun p hp c hc => x p hp c (h c hc)
theorem zip_take {l : List Int} : l.zipIdx.take l.length = l.zipIdx := List.take_of_length_le (by simp)
theorem foldl_take_succ {α β : Type} (g : β → α → β) (z : β) (l : List α) (i : Nat) (x : α) (h : l[i]? = some x) : (l.take (i + 1)).foldl g z = g ((l.take i).foldl g z) x := by
  rw [List.take_add_one, h]; simp
theorem zipIdx_at {l : List Int} {i : Nat} {x : Int} (h : l[i]? = some x) : l.zipIdx[i]? = some (x, i) := by simp [List.getElem?_zipIdx, h]
theorem compEnd {h₀ : Heap} {L I C D : Addr} {m : Str → Option Value} {s₁ : Shared} {oI oC oD : Obj} {S : List (Addr × Obj) → Prop} {rest : Value → List (Addr × Obj) → Prop} {y : Value} {h' : Heap} {tk : Nat} {all news' : List (Addr × Obj)}
    (off : LCg.Off3 I C D news') (F : Fr h₀ L h' m) (N : News h₀ L h' all) (sub : ∀ p ∈ (I, oI) :: (C, oC) :: (D, oD) :: news', p ∈ all) (hS : S news') (r : rest y news') :
    LCg.CompEnd h₀ L m s₁ I oI C oC D oD S rest y { s₁ with heap := h', toks := tk } := LCg.CompEnd.intro F N news' sub off hS r
end Mine
-- C2
namespace Mine
theorem top_off_C2 : True := by
  w_top off
  exact trivial
theorem set_C2_1 : True := by
  (k_with_none)
  (k_with "room" => ((try dsimp only [Ar]); first | exact rm0 (by assumption) (by decide) | exact rm (by assumption) (by decide) | omega))
  (k_with "CallL" => (k_whole; intro l' ws' c' h' tk' F' N' l1 hraw hI'; clear l1; (try k_sweep)))
  (k_with "CallI" => (k_whole; intro t' h' tk' F' N'; (try k_sweep)))
  exact trivial
variable {w : World} {mean : ExcName → Option Value} {mg mb : Str → Option Value}
theorem trim_walk {xs : List Int} {k : Int} (hk : k ≤ xs.length) (h0 : min (xs.length : Int) 0 ≤ k)
    (h1 : ∀ j : Int, k < j → j ≤ xs.length → (if 0 < j then if (xs.getD (j - 1).toNat 0 == 0) = true then true else false else false) = true)
    (h2 : (if 0 < k then if (xs.getD (k - 1).toNat 0 == 0) = true then true else false else false) = false) : xs.take k.toNat = trim xs := by
  have h0' : 0 ≤ k := by omega
  refine trim_eq xs k.toNat (by omega) (fun j a b => ?_) (fun _ e => ?_)
  · have := h1 ((j : Int) + 1) (by omega) (by omega)
    rw [if_pos (by omega), show ((j : Int) + 1 - 1).toNat = j from by rw [Int.add_sub_cancel]; rfl] at this
    by_cases c : (xs.getD j 0 == 0) = true
    · exact beq_iff_eq.mp c
    · rw [if_neg c] at this; cases this
  · rw [if_pos (by omega), tn_pred' h0', e] at h2
    cases h2
theorem ztrim_tells (l : Addr) (xs : List Int) (hx : xs.length < 2 ^ 20) : Tells w mean mg mb 21 1 6 [.ref l] (fun h => IsInts h l xs) (GivesL (trim xs)) := by
  unfold Tells
  k_fill
  intro dp un gd fr s Q X T hdp hun hpre hret
  obtain ⟨vs, n, hl, hi⟩ := hpre
  have hl' : s.heap.IsList l vs.toArray := IsInts.isList hl
  refine enter_plain X T.nolimit (by k_is) (by k_is) (rm1 hdp) (BindsTo.of_eq rfl) (locs rfl) ?_ rfl rfl rfl (by k_dflt decide)
  intro h₁ F N
  dsimp only
  k_fold
  k_steps
  exact hret _ _ _ (Fr.keep (by assumption)) (GivesL.of (by assumption) (by k_mem) (by assumption) (trim_walk (by assumption) (by assumption) (by assumption) (by assumption)))
end Mine
-- Czmul
namespace Mine
theorem top_off_Czmul : True := by
  w_top off
  exact trivial
variable {w : World} {mean : ExcName → Option Value} {mg mb : Str → Option Value}
theorem set_Czmul_1 : True := by
  (k_with_none)
  (k_with "room" => ((try dsimp only [Ar]); first | exact rm0 (by assumption) (by decide) | exact rm (by assumption) (by decide) | omega))
  (k_with "CallL" => (k_whole; intro l' ws' c' h' tk' F' N' l1 hraw hI'; clear l1; (try k_sweep)))
  (k_with "CallI" => (k_whole; intro t' h' tk' F' N'; (try k_sweep)))
  (k_with "exec For Tuple Call cons nil" => (k_here; refine hold ?_))
  (k_with "call type:enumerate" => (k_here; refine hold ?_))
  (k_with "ktn_open" => (repeat (first | assumption | refine (if_neg (by decide)).trans ?_)))
  exact trivial
def mulIn (n : Int) (i : Nat) (f : List Int) (p : Int × Nat) : List Int := f.set (i + p.2) (f.getD (i + p.2) 0 + n * p.1)
def mulOut (b : List Int) (f : List Int) (p : Int × Nat) : List Int := if p.1 = 0 then f else b.zipIdx.foldl (mulIn p.1 p.2) f
def mul (a b : List Int) : List Int := if a = [] ∨ b = [] then [] else a.zipIdx.foldl (mulOut b) (List.replicate (a.length + b.length - 1) 0)
theorem mulIn_length (n : Int) (i : Nat) (f : List Int) (p : Int × Nat) : (mulIn n i f p).length = f.length := by simp [mulIn]
theorem foldl_mulIn_length (n : Int) (i : Nat) (l : List (Int × Nat)) : ∀ f : List Int, (l.foldl (mulIn n i) f).length = f.length := by
  induction l with
  | nil => intro f; rfl
  | cons p r ih => intro f; rw [List.foldl_cons, ih, mulIn_length]
theorem mulOut_length (b : List Int) (f : List Int) (p : Int × Nat) : (mulOut b f p).length = f.length := by
  unfold mulOut
  split
  · rfl
  · exact foldl_mulIn_length _ _ _ _
theorem foldl_mulOut_length (b : List Int) (l : List (Int × Nat)) : ∀ f : List Int, (l.foldl (mulOut b) f).length = f.length := by
  induction l with
  | nil => intro f; rfl
  | cons p r ih => intro f; rw [List.foldl_cons, ih, mulOut_length]
theorem mul_length (a b : List Int) : (mul a b).length = if a = [] ∨ b = [] then 0 else a.length + b.length - 1 := by
  unfold mul
  split
  · rfl
  · rw [foldl_mulOut_length, List.length_replicate]
theorem mul_nilL {a b : List Int} (h : (a.length : Int) = 0) : [] = mul a b := by
  have : a = [] := List.eq_nil_of_length_eq_zero (by omega)
  simp [mul, this]
theorem mul_nilR {a b : List Int} (h : (b.length : Int) = 0) : [] = mul a b := by
  have : b = [] := List.eq_nil_of_length_eq_zero (by omega)
  simp [mul, this]
theorem mulIn_walk {n r : Int} {i j : Nat} {f : List Int} {vs : List Value} (h : IntsAre vs (f.set ((i : Int) + j).toNat (f.getD ((i : Int) + j).toNat 0 + n * r))) : IntsAre vs (mulIn n i f (r, j)) := by
  rw [tn_add] at h
  exact h
theorem mul_def {a b : List Int} (ha : a.length ≠ 0) (hb : b.length ≠ 0) : a.zipIdx.foldl (mulOut b) (List.replicate (a.length + b.length - 1) 0) = mul a b := by
  unfold mul
  rw [if_neg]
  rintro (h | h)
  · rw [h] at ha; exact ha rfl
  · rw [h] at hb; exact hb rfl
theorem mul_start {a b : List Int} {vs : List Value} (h : IntsAre vs (List.replicate ((a.length : Int) + b.length - 1).toNat [(0 : Int)]).flatten) : IntsAre vs ((a.zipIdx.take 0).foldl (mulOut b) (List.replicate (a.length + b.length - 1) 0)) := by
  have e : ∀ n : Nat, (List.replicate n [(0 : Int)]).flatten = List.replicate n 0 := fun n => by
    induction n with
    | zero => rfl
    | succ n ih => rw [List.replicate_succ, List.flatten_cons, ih]; rfl
  rw [e, show ((a.length : Int) + b.length - 1).toNat = a.length + b.length - 1 from tn_pred (a.length + b.length)] at h
  exact h
theorem zmul_tells (la : Addr) (a : List Int) (lb : Addr) (b : List Int) (ha : a.length < 2 ^ 20) (hb : b.length < 2 ^ 20) (hs : ∀ x ∈ a, -2 ^ 62 < x ∧ x < 2 ^ 62) : Tells w mean mg mb 50 1 6 [.ref la, .ref lb] (fun h => IsInts h la a ∧ IsInts h lb b) (GivesL (mul a b)) := by
  unfold Tells
  k_fill
  intro dp un gd fr s Q X T hdp hun hpre hret
  obtain ⟨⟨va, na, hla, hia⟩, ⟨vb, nb, hlb, hib⟩⟩ := hpre
  have hLa : s.heap.IsList la va.toArray := IsInts.isList hla
  have hLb : s.heap.IsList lb vb.toArray := IsInts.isList hlb
  refine enter_plain X T.nolimit (by k_is) (by k_is) (rm1 hdp) (BindsTo.of_eq rfl) (locs rfl) ?_ rfl rfl rfl (by k_dflt decide)
  intro h₁ F N
  (try dsimp only)
  (try k_fold)
  k_steps
  · exact hret _ _ _ (Fr.keep (by assumption)) (GivesL.of (vs := []) (by assumption) (by k_mem) .nil (mul_nilL (by assumption)))
  · exact hret _ _ _ (Fr.keep (by assumption)) (GivesL.of (vs := []) (by assumption) (by k_mem) .nil (mul_nilR (by assumption)))
  · (with_reducible rename Fr _ _ _ _ => F)
    (with_reducible rename News _ _ _ _ => N)
    (with_reducible rename IntsAre (List.flatten _) _ => iR)
    refine name_addr N fun D' hD => ?_
    subst hD
    have ha0 : a.length ≠ 0 := by omega
    have hb0 : b.length ≠ 0 := by omega
    refine unhold ?_
    refine For_turns F ?_
    k_steps
    refine unhold ?_
    have N1 := news_one N
    refine enum_core (fun i m nx => m "a" = some (.ref la) ∧ m "b" = some (.ref lb) ∧ m "found" = some (.ref D') ∧ ∃ ws c, nx = [(D', listOf (List.toArray ws) c)] ∧ IntsAre ws ((a.zipIdx.take i).foldl (mulOut b) (List.replicate (a.length + b.length - 1) 0))) rfl rfl rfl rfl hLa hia F N1 ⟨rfl, rfl, rfl, _, _, rfl, mul_start iR⟩ ?_ ?_
    · intro i n t₁ t₂ m₁ news₁ h tk own hn hadr hoff hJ F₁ N₁
      obtain ⟨hma, hmb, hmf, ws, c, rfl, hw⟩ := hJ
      replace hoff : OwnOff own [D'] := hoff
      have F₂ := frv F₁ (x := "a") (by ktn_open)
      replace F₂ := frv F₂ (x := "b") (by ktn_open)
      replace F₂ := frv F₂ (x := "found") (by ktn_open)
      clear F₁ F hadr N N1
      simp only [List.cons_append, List.nil_append] at N₁
      have hin : i < a.length := (List.getElem?_eq_some_iff.mp hn).1
      have hsn := hs n (List.mem_of_getElem? hn)
      rw [foldl_take_succ _ _ _ _ _ (zipIdx_at hn)]
      generalize hf0 : (a.zipIdx.take i).foldl (mulOut b) (List.replicate (a.length + b.length - 1) 0) = f0 at hw ⊢
      have hlen : f0.length = a.length + b.length - 1 := by rw [← hf0, foldl_mulOut_length, List.length_replicate]
      (try k_unmd)
      (try k_fold)
      k_steps
      · (with_reducible rename Fr _ _ _ _ => F)
        (with_reducible rename News _ _ _ _ => N)
        (with_reducible rename _ ≠ (0 : Int) => hn0)
        refine unhold ?_
        refine For_turns F ?_
        k_steps
        refine unhold ?_
        refine enum_core (fun j m nx => m "a" = some (.ref la) ∧ m "b" = some (.ref lb) ∧ m "found" = some (.ref D') ∧ (∃ t, m "one" = some (.int i t)) ∧ (∃ t, m "left" = some (.int n t)) ∧ ∃ ws c, nx = (D', listOf (List.toArray ws) c) :: own ∧ IntsAre ws ((b.zipIdx.take j).foldl (mulIn n i) f0)) rfl rfl rfl rfl hLb hib F N ⟨rfl, rfl, rfl, ⟨_, rfl⟩, ⟨_, rfl⟩, _, _, rfl, hw⟩ ?_ ?_
        · intro j r t₃ t₄ m₂ news₂ h₂ tk₂ own₂ hr hadr₂ hoff₂ hJ₂ F₃ N₃
          obtain ⟨hma₂, hmb₂, hmf₂, ⟨t₅, hmo⟩, ⟨t₆, hml⟩, ws₂, c₂, rfl, hw₂⟩ := hJ₂
          have F₄ := frv F₃ (x := "a") (by ktn_open)
          replace F₄ := frv F₄ (x := "b") (by ktn_open)
          replace F₄ := frv F₄ (x := "found") (by ktn_open)
          replace F₄ := frv F₄ (x := "one") (by ktn_open)
          replace F₄ := frv F₄ (x := "left") (by ktn_open)
          clear F₃ F hadr₂ N
          have hjn : j < b.length := (List.getElem?_eq_some_iff.mp hr).1
          rw [foldl_take_succ _ _ _ _ _ (zipIdx_at hr)]
          generalize hf1 : (b.zipIdx.take j).foldl (mulIn n i) f0 = f1 at hw₂ ⊢
          have hlen₂ : f1.length = a.length + b.length - 1 := by rw [← hf1, foldl_mulIn_length, hlen]
          obtain ⟨own₃, e₃⟩ : ∃ o, o = own ++ own₂ := ⟨_, rfl⟩
          have hoff₃ : OwnOff own₃ [D'] := e₃ ▸ own_app hoff (own_sub hoff₂ fun b hb => by rw [List.mem_singleton.mp hb]; exact .head _)
          simp only [List.cons_append] at N₃
          rw [← e₃] at N₃
          (try k_unmd)
          (try k_fold)
          k_steps
          exact endN (keep := own) (by assumption) (by assumption) (fun q hq => e₃ ▸ List.mem_append_left _ hq) (fun q hq => e₃ ▸ List.mem_append_right _ hq) rfl ⟨rfl, rfl, rfl, ⟨_, rfl⟩, ⟨_, rfl⟩, _, _, rfl, mulIn_walk (by assumption)⟩
        · intro m₂ news₂ h₂ tk₂ hJ₂ _ F₃ N₃
          obtain ⟨hma₂, hmb₂, hmf₂, _, _, ws₂, c₂, rfl, hw₂⟩ := hJ₂
          rw [zip_take] at hw₂
          clear F N
          (try dsimp only)
          k_steps
          refine endN (keep := []) (by assumption) (by assumption) (fun _ hq => nomatch hq) (fun q hq => hq) rfl ⟨hma₂, hmb₂, hmf₂, _, _, rfl, ?_⟩
          show IntsAre _ (if n = 0 then f0 else _)
          rw [if_neg hn0]
          exact hw₂
      · refine endN (keep := []) (by assumption) (by assumption) (fun _ hq => nomatch hq) (fun q hq => hq) rfl ⟨rfl, rfl, rfl, _, _, rfl, ?_⟩
        show IntsAre _ (if n = 0 then f0 else _)
        rw [if_pos (by assumption)]
        exact hw
    · intro m₁ news₁ h tk hJ _ F₁ N₁
      obtain ⟨hma, hmb, hmf, ws, c, rfl, hw⟩ := hJ
      rw [zip_take] at hw
      have F₂ := frv F₁ (x := "found") (by ktn_open)
      clear F₁ F N N1
      (try dsimp only)
      k_steps
      exact hret _ _ _ (Fr.keep (by assumption)) (GivesL.of (by assumption) (by k_mem) hw (mul_def ha0 hb0))
end Mine
-- Czs
namespace Mine
theorem top_off_Czs : True := by
  w_top off
  exact trivial
variable {w : World} {mean : ExcName → Option Value} {mg mb : Str → Option Value}
theorem set_Czs_1 : True := by
  (k_with_none)
  (k_with "room" => ((try dsimp only [Ar]); first | exact rm0 (by assumption) (by decide) | exact rm (by assumption) (by decide) | omega))
  (k_with "CallL" => (k_whole; intro l' ws' c' h' tk' F' N' l1 hraw hI'; clear l1; (try k_sweep)))
  (k_with "CallI" => (k_whole; intro t' h' tk' F' N'; (try k_sweep)))
  (k_with "ktn_step" => repeat' (first | (k_unfold; (try dsimp only)) | (k_end; wrow_close) | (walk1; (try dsimp only)) | (dsimp only; walk1) | (leave1; try dsimp only) | fail "no step"))
  (k_with "ktn_open" => (repeat (first | assumption | refine (if_neg (by decide)).trans ?_)))
  (k_with "tb_start" => first | exact IsInts.news (by k_asm) (by k_mem) (by first | with_reducible assumption | exact IntsAre.nil | exact IntsAre.cons _ _ .nil | exact IntsAre.cons _ _ (IntsAre.cons _ _ .nil)) | exact IsInts.base (by k_asm) (by assumption) (by with_reducible assumption) | (refine And.intro ?_ ?_ <;> tb_start) | exact trivial)
  (k_with "tb_rel" => first | omega | assumption | ((simp only [List.length_map, rangeKs_length, List.length_take, List.length_cons, List.length_nil, List.length_replicate]); first | omega | (split <;> omega)))
  exact trivial
/-- sum, place by place -/
def addL : List Int → List Int → List Int
  | [], ys => ys
  | xs, [] => xs
  | x :: xs, y :: ys => (x + y) :: addL xs ys
theorem addL_length : ∀ a b : List Int, (addL a b).length = max a.length b.length
  | [], ys => by simp [addL]
  | x :: xs, [] => by simp [addL]
  | x :: xs, y :: ys => by simp [addL, addL_length xs ys]
theorem addL_getD : ∀ (a b : List Int) (i : Nat), (addL a b).getD i 0 = a.getD i 0 + b.getD i 0
  | [], ys, i => by simp [addL]
  | x :: xs, [], i => by simp [addL]
  | x :: xs, y :: ys, 0 => by simp [addL]
  | x :: xs, y :: ys, i + 1 => by
    have := addL_getD xs ys i
    simp only [List.getD_eq_getElem?_getD] at this
    simpa [addL] using this
theorem ext_getD {a b : List Int} (hl : a.length = b.length) (h : ∀ i, i < a.length → a.getD i 0 = b.getD i 0) : a = b := by
  apply List.ext_getElem hl
  intro i h1 h2
  have := h i h1
  simpa [List.getD_eq_getElem?_getD, h1, h2] using this
theorem getD_map_range (g : Int → Int) (n i : Nat) (h : i < n) : ((rangeKs 0 n).map g).getD i 0 = g i := by
  simp [rangeKs, List.getD_eq_getElem?_getD, h]
theorem getD_out (a : List Int) (i : Nat) (h : a.length ≤ i) : a.getD i 0 = 0 := by
  simp [List.getD_eq_getElem?_getD, h]
theorem zadd_walk (xs ys : List Int) : (rangeKs 0 ((if (ys.length : Int) > xs.length then (ys.length : Int) else xs.length) - 0).toNat).map (fun k' : Int =>
      if k' < xs.length ∧ k' < ys.length then xs.getD k'.toNat 0 + ys.getD k'.toNat 0
      else if k' < xs.length ∧ ¬ k' < ys.length then xs.getD k'.toNat 0 + 0 else 0 + ys.getD k'.toNat 0) = addL xs ys := by
  have hn : ((if (ys.length : Int) > xs.length then (ys.length : Int) else xs.length) - 0).toNat = max xs.length ys.length := by split <;> omega
  rw [hn]
  refine ext_getD (by rw [List.length_map, rangeKs_length, addL_length]) fun i hi => ?_
  rw [List.length_map, rangeKs_length] at hi
  rw [getD_map_range _ _ _ hi, addL_getD, Int.toNat_natCast]
  by_cases h1 : (i : Int) < xs.length <;> by_cases h2 : (i : Int) < ys.length
  · rw [if_pos ⟨h1, h2⟩]
  · rw [if_neg (fun h => h2 h.2), if_pos ⟨h1, h2⟩, getD_out ys i (by omega)]
  · rw [if_neg (fun h => h1 h.1), if_neg (fun h => h1 h.1), getD_out xs i (by omega)]
  · rw [if_neg (fun h => h1 h.1), if_neg (fun h => h1 h.1), getD_out xs i (by omega)]
theorem trim_length_le (xs : List Int) : (trim xs).length ≤ xs.length := by
  unfold trim
  rw [List.length_reverse]
  exact Nat.le_trans (List.dropWhile_sublist _).length_le (by simp)
def zadd (a b : List Int) : List Int := trim (addL a b)
def zneg (a : List Int) : List Int := a.map fun x => -x
def zsub (a b : List Int) : List Int := zadd a (zneg b)
def zscale (a : List Int) (k : Int) : List Int := if k = 0 then [] else a.map fun x => x * k
theorem zneg_length (a : List Int) : (zneg a).length = a.length := by simp [zneg]
theorem zadd_length_le (a b : List Int) : (zadd a b).length ≤ max a.length b.length := addL_length a b ▸ trim_length_le _
theorem zscale_length_le (a : List Int) (k : Int) : (zscale a k).length ≤ a.length := by unfold zscale; split <;> simp
theorem givesL_plain {h₀ h : Heap} {D : Addr} {news : List (Addr × Obj)} {ys : List Value} {r : List Int} (hn : h₀.get? D = none) (P : NewPlain h news D ys.toArray) (hi : IntsAre ys r) : GivesL r h₀ h (.ref D) := by
  obtain ⟨⟨n, hl⟩, _⟩ := P
  exact ⟨D, rfl, hn, ys, n, hl, hi⟩
theorem filter_tt' (l : List Int) : l.filter (fun _ => true) = l := by simp
theorem set_Czs_2 : True := by
  (k_with "k_ne" => ((try dsimp only); first | exact ne_raw (by assumption) (by k_mem) | exact Ne.symm (ne_raw (by assumption) (by k_mem)) | fail "k_ne"))
  (k_with "FinE" => ((unfold LCg.FinE); intro D' h' tk' F' N' o1'; (replace o1' := off1_raw o1'); (try simp only [List.nil_append, List.cons_append] at N'); (try dsimp only)))
  (k_with "CompSrc" => (k_here; k_dflt (first
  | (refine LCg.CompSrc.range (by rfl) (by k_asm) (by k_asm) (by assumption) (by exact small_one (by omega) (by omega) (by omega) (by omega)) (by exact rangeSize_nat _ _) (by rw [PySem.sizeLine_eq]; omega) ?_; intro g'; (refine' kcf_range _ (fun k' t' I' oI' C' oC' D' m' ys' h' tk' E' hlo' hhi' hC' hx' F' N' off' ne' hMark' => ?_) ?_); (all_goals (try clear ne')); kcf_last)
  | (refine LCg.CompSrc.ledger (by rfl) (by k_asm) (by k_asm) (by k_mem) (by kcf_size) ?_; intro g'; (refine' kcf_list _ (by assumption) (fun k' t' I' oI' C' oC' D' m' ys' h' tk' E' hk' hC' hx' F' N' off' ne' hMark' => ?_) ?_); (all_goals (try clear ne')); kcf_last))))
  (k_with "CompSrcT" => (k_here; k_dflt (first
  | (refine LCt.CompSrcT.range (by rfl) (by k_asm) (by k_asm) (by assumption) (by exact small_one (by omega) (by omega) (by omega) (by omega)) (by exact rangeSize_nat _ _) (by rw [PySem.sizeLine_eq]; omega) ?_; intro g'; (refine' kci_range _ (fun k' t' I' oI' C' oC' D' m' ys' l' h' tk' E' hlo' hhi' hI' hC' hx' F' N' off' ne' => ?_) ?_ ?_); (all_goals (try clear ne')); (all_goals (try ((show KPfMark → _); intro hMark'))); kcf_last)
  | (refine LCt.CompSrcT.ledger (by rfl) (by k_asm) (by k_asm) (by k_mem) (by kcf_size) ?_; intro g'; (refine' kci_list _ (by assumption) (fun k' t' I' oI' C' oC' D' m' ys' l' h' tk' E' hk' hI' hC' hx' F' N' off' ne' => ?_) ?_ ?_); (all_goals (try clear ne')); (all_goals (try (have hb9' := rk_mem hk'))); (all_goals (try ((show KPfMark → _); intro hMark'))); kcf_last))))
  (k_with "CompEnd" => (refine' compEnd (by assumption) (by assumption) (by assumption) (fun q hq => by repeat (first | exact hq | refine List.mem_cons_of_mem _ ?_)) (by first | exact True.intro | lcg_src) ?_))
  (k_with "call ref" => (k_here; (with_reducible show wpAny _ _ (call (Value.ref 21) [Value.ref _]) _ _ _); refine' useL ?_ (C := ztrim_tells _ _ (by tb_rel)); k_extra "CallL"))
  exact trivial
theorem zadd_tells (la : Addr) (a : List Int) (lb : Addr) (b : List Int) (ha : a.length < 2 ^ 20) (hb : b.length < 2 ^ 20) : Tells w mean mg mb 26 3 12 [.ref la, .ref lb] (fun h => IsInts h la a ∧ IsInts h lb b) (GivesL (zadd a b)) := by
  unfold Tells
  k_fill
  intro dp un gd fr s Q X T hdp hun hpre hret
  obtain ⟨⟨va, na, hla, hia⟩, ⟨vb, nb, hlb, hib⟩⟩ := hpre
  have hLa : s.heap.IsList la va.toArray := IsInts.isList hla
  have hLb : s.heap.IsList lb vb.toArray := IsInts.isList hlb
  refine enter_cells X T.nolimit (by k_is) (by k_is) (rm1 hdp) (BindsTo.of_eq rfl) rfl (by decide +kernel) ?_ rfl rfl rfl
  intro h₁ tk₁ cells F N Y
  k_cells Y
  (try simp only [List.cons_append, List.nil_append] at N)
  (try dsimp only)
  (try k_fold)
  k_steps
  exact hret _ _ _ (Fr.keep (by assumption)) (GivesL.of (by assumption) (by k_mem) (by assumption) (congrArg trim (zadd_walk a b)))
theorem set_Czs_3 : True := by
  (k_with "call ref" => (k_here; (with_reducible show wpAny _ _ (call (Value.ref 26) [Value.ref _, Value.ref _]) _ _ _); refine' useL ?_ (C := zadd_tells _ _ _ _ (by tb_rel) (by tb_rel)); k_extra "CallL"))
  exact trivial
theorem zneg_tells (la : Addr) (a : List Int) (_ha : a.length < 2 ^ 20) : Tells w mean mg mb 31 1 6 [.ref la] (fun h => IsInts h la a) (GivesL (zneg a)) := by
  unfold Tells
  k_fill
  intro dp un gd fr s Q X T hdp hun hpre hret
  obtain ⟨va, na, hla, hia⟩ := hpre
  have hLa : s.heap.IsList la va.toArray := IsInts.isList hla
  refine enter_plain X T.nolimit (by k_is) (by k_is) (rm1 hdp) (BindsTo.of_eq rfl) (locs rfl) ?_ rfl rfl rfl (by k_dflt decide)
  intro h₁ F N
  (try dsimp only)
  (try k_fold)
  k_steps
  exact hret _ _ _ (Fr.keep (by assumption)) (givesL_plain (by assumption) (by assumption) (CarriedAll.intsOf (f := fun x => -x) (by rename CarriedAll _ _ => hC; rw [filter_tt'] at hC; exact hC)))
theorem set_Czs_4 : True := by
  (k_with "call ref" => (k_here; (with_reducible show wpAny _ _ (call (Value.ref 31) [Value.ref _]) _ _ _); refine' useL ?_ (C := zneg_tells _ _ (by tb_rel)); k_extra "CallL"))
  (k_with "tb_rel" => ((simp only [zneg_length]); first | omega | assumption))
  exact trivial
theorem zsub_tells (la : Addr) (a : List Int) (lb : Addr) (b : List Int) (ha : a.length < 2 ^ 20) (hb : b.length < 2 ^ 20) : Tells w mean mg mb 38 5 20 [.ref la, .ref lb] (fun h => IsInts h la a ∧ IsInts h lb b) (GivesL (zsub a b)) := by
  unfold Tells
  k_fill
  intro dp un gd fr s Q X T hdp hun hpre hret
  obtain ⟨⟨va, na, hla, hia⟩, ⟨vb, nb, hlb, hib⟩⟩ := hpre
  have hLa : s.heap.IsList la va.toArray := IsInts.isList hla
  have hLb : s.heap.IsList lb vb.toArray := IsInts.isList hlb
  refine enter_plain X T.nolimit (by k_is) (by k_is) (rm1 hdp) (BindsTo.of_eq rfl) (locs rfl) ?_ rfl rfl rfl (by k_dflt decide)
  intro h₁ F N
  (try dsimp only)
  (try k_fold)
  k_steps
  exact hret _ _ _ (Fr.keep (by assumption)) (GivesL.of (by assumption) (by k_mem) (by assumption) rfl)
theorem zscale_tells (la : Addr) (a : List Int) (k : Int) (tk : Tok) (ha : a.length < 2 ^ 20) (hk : -2 ^ 62 < k ∧ k < 2 ^ 62) : Tells w mean mg mb 43 1 8 [.ref la, .int k tk] (fun h => IsInts h la a) (GivesL (zscale a k)) := by
  unfold Tells
  k_fill
  intro dp un gd fr s Q X T hdp hun hpre hret
  obtain ⟨va, na, hla, hia⟩ := hpre
  have hLa : s.heap.IsList la va.toArray := IsInts.isList hla
  refine enter_cells X T.nolimit (by k_is) (by k_is) (rm1 hdp) (BindsTo.of_eq rfl) rfl (by decide +kernel) ?_ rfl rfl rfl
  intro h₁ tk₁ cells F N Y
  k_cells Y
  (try simp only [List.cons_append, List.nil_append] at N)
  (try dsimp only)
  (try k_fold)
  k_steps
  · exact hret _ _ _ (Fr.keep (by assumption)) (GivesL.of (by assumption) (by k_mem) (by assumption) (by rw [zscale, if_neg (by assumption)]))
  · exact hret _ _ _ (Fr.keep (by assumption)) (GivesL.of (vs := []) (by assumption) (by k_mem) .nil (by rw [zscale, if_pos (by assumption)]))
end Mine
-- Czc
namespace Mine
theorem top_off_Czc : True := by
  w_top off
  exact trivial
variable {w : World} {mean : ExcName → Option Value} {mg mb : Str → Option Value}
theorem set_Czc_1 : True := by
  (k_with_none)
  (k_with "room" => ((try dsimp only [Ar]); first | exact rm0 (by assumption) (by decide) | exact rm (by assumption) (by decide) | omega))
  (k_with "CallL" => (k_whole; intro l' ws' c' h' tk' F' N' l1 hraw hI'; clear l1; (try k_sweep)))
  (k_with "CallI" => (k_whole; intro t' h' tk' F' N'; (try k_sweep)))
  (k_with "ktn_step" => repeat' (first | (k_unfold; (try dsimp only)) | (k_end; wrow_close) | (walk1; (try dsimp only)) | (dsimp only; walk1) | (leave1; try dsimp only) | fail "no step"))
  (k_with "ktn_open" => (repeat (first | assumption | refine (if_neg (by decide)).trans ?_)))
  (k_with "tb_start" => first | exact IsInts.news (by k_asm) (by k_mem) (by first | with_reducible assumption | exact IntsAre.nil | exact IntsAre.cons _ _ .nil | exact IntsAre.cons _ _ (IntsAre.cons _ _ .nil)) | exact IsInts.base (by k_asm) (by assumption) (by with_reducible assumption) | (refine And.intro ?_ ?_ <;> tb_start) | exact trivial)
  (k_with "tb_rel" => first | omega | assumption | ((simp only [List.length_map, rangeKs_length, List.length_take, List.length_cons, List.length_nil, List.length_replicate]); first | omega | (split <;> omega)))
  (k_with "exec For Name Call cons nil" => (k_here; refine hold ?_))
  (k_with "pyIter ref" => (k_here; (with_reducible show wpAny _ _ (pyIter (Value.ref _)) (fun it s₂ => LoopAtV _ _ _ _ _ _ _ _ _ it s₂) _ _); refine hold ?_))
  (k_with "call ref" => (k_here; (with_reducible show wpAny _ _ (call (Value.ref 21) [Value.ref _]) _ _ _); refine' useL ?_ (C := ztrim_tells _ _ (by tb_rel)); k_extra "CallL"))
  (k_with "call ref" => (k_here; (with_reducible show wpAny _ _ (call (Value.ref 26) [Value.ref _, Value.ref _]) _ _ _); refine' useL ?_ (C := zadd_tells _ _ _ _ (by tb_rel) (by tb_rel)); k_extra "CallL"))
  (k_with "call ref" => (k_here; (with_reducible show wpAny _ _ (call (Value.ref 50) [Value.ref _, Value.ref _]) _ _ _); refine' useL ?_ (C := zmul_tells _ _ _ _ (by tb_rel) (by tb_rel) (by tb_rel)); k_extra "CallL"))
  exact trivial
def okL (xs : List Int) : Bool := decide (xs.length < 1000) && xs.all fun x => decide (-2 ^ 62 < x) && decide (x < 2 ^ 62)
theorem okL_len {xs : List Int} (h : okL xs = true) : xs.length < 1000 := by
  unfold okL at h
  simp only [Bool.and_eq_true, decide_eq_true_eq] at h
  exact h.1
theorem okL_mem {xs : List Int} (h : okL xs = true) : ∀ x ∈ xs, -2 ^ 62 < x ∧ x < 2 ^ 62 := by
  unfold okL at h
  simp only [Bool.and_eq_true, decide_eq_true_eq, List.all_eq_true] at h
  exact h.2
theorem fold_some {α β : Type} {step : Option β → α → Option β} (hn : ∀ x, step none x = none) {l : List α} {z : Option β} {r : β} (h : l.foldl step z = some r) (i : Nat) : ∃ f, (l.take i).foldl step z = some f := by
  have hnone : ∀ l : List α, l.foldl step none = none := fun l => by
    induction l with
    | nil => rfl
    | cons x r ih => rw [List.foldl_cons, hn, ih]
  cases q : (l.take i).foldl step z with
  | some f => exact ⟨f, rfl⟩
  | none =>
    rw [← List.take_append_drop i l, List.foldl_append, q, hnone] at h
    cases h
def compStep (b : List Int) (f : Option (List Int)) (n : Int) : Option (List Int) := match f with
  | none => none
  | some f => if okL f then some (zadd (mul f b) (trim [n])) else none
def compose (a b : List Int) : Option (List Int) := a.reverse.foldl (compStep b) (some [])
theorem comp_turn {a b r f : List Int} {i : Nat} {n : Int} (h : compose a b = some r) (hi : a.reverse[i]? = some n) (hf : (a.reverse.take i).foldl (compStep b) (some []) = some f) :
    okL f = true ∧ (a.reverse.take (i + 1)).foldl (compStep b) (some []) = some (zadd (mul f b) (trim [n])) := by
  obtain ⟨f', hf'⟩ := fold_some (fun _ => rfl) h (i + 1)
  have e := foldl_take_succ (compStep b) (some []) _ _ _ hi
  rw [hf] at e
  rw [e] at hf' ⊢
  unfold compStep at hf' ⊢
  by_cases ok : okL f = true
  · exact ⟨ok, by simp only [ok, if_true]⟩
  · simp only [ok] at hf'
    simp at hf'
theorem mul_length_le (a b : List Int) : (mul a b).length ≤ a.length + b.length := by
  rw [mul_length]
  split <;> omega
theorem zcompose_tells (la : Addr) (a : List Int) (lb : Addr) (b : List Int) (r : List Int) (hr : compose a b = some r) (hb : b.length < 1000) : Tells w mean mg mb 57 5 20 [.ref la, .ref lb] (fun h => IsInts h la a ∧ IsInts h lb b) (GivesL r) := by
  unfold Tells
  k_fill
  intro dp un gd fr s Q X T hdp hun hpre hret
  obtain ⟨⟨va, na, hla, hia⟩, ⟨vb, nb, hlb, hib⟩⟩ := hpre
  have hLa : s.heap.IsList la va.toArray := IsInts.isList hla
  have hLb : s.heap.IsList lb vb.toArray := IsInts.isList hlb
  refine enter_plain X T.nolimit (by k_is) (by k_is) (rm1 hdp) (BindsTo.of_eq rfl) (locs rfl) ?_ rfl rfl rfl (by k_dflt decide)
  intro h₁ F N
  (try dsimp only)
  (try k_fold)
  k_steps
  refine unhold ?_
  (with_reducible rename Fr _ _ _ _ => F)
  refine For_invV s.heap rfl rfl ?_
  k_steps
  refine unhold ?_
  (with_reducible rename Fr _ _ _ _ => F)
  (with_reducible rename News _ _ _ _ => N)
  refine rev_coreW (fun i m nx => m "b" = some (.ref lb) ∧ ∃ D ws c f, m "found" = some (.ref D) ∧ nx = [(D, listOf (List.toArray ws) c)] ∧ IntsAre ws f ∧ (a.reverse.take i).foldl (compStep b) (some []) = some f) rfl hLa hia F N (fun p hp e => ?_) ⟨rfl, _, [], _, [], rfl, rfl, .nil, rfl⟩ ?_ ?_
  · rw [List.mem_singleton.mp hp] at e
    have e' : @Eq Nat _ _ := e
    omega
  · intro i n t m₁ news₁ h tk own hn hJ F₁ N₁
    obtain ⟨hmb, D, ws, c, f, hmf, rfl, hw, hf⟩ := hJ
    obtain ⟨ok, hf'⟩ := comp_turn hr hn hf
    have F₂ := frv F₁ (x := "b") (by ktn_open)
    replace F₂ := frv F₂ (x := "found") (by ktn_open)
    clear F₁ F N
    simp only [List.cons_append, List.nil_append] at N₁
    have hs := okL_mem ok
    have hlen := okL_len ok
    have hl2 := mul_length_le f b
    have hl3 := trim_length_le [n]
    rw [List.length_singleton] at hl3
    (try k_unmd)
    (try k_fold)
    k_steps
    exact endW1 (by assumption) (by assumption) (by assumption) (fun q hq => by repeat (first | exact hq | refine List.mem_cons_of_mem _ ?_)) ⟨rfl, _, _, _, _, rfl, rfl, by assumption, hf'⟩
  · intro m₁ news₁ h tk hJ F₁ N₁
    obtain ⟨hmb, D, ws, c, f, hmf, rfl, hw, hf⟩ := hJ
    have F₂ := frv F₁ (x := "found") (by ktn_open)
    clear F₁ F N
    (try dsimp only)
    k_steps
    rw [List.take_of_length_le (by simp)] at hf
    rw [show f = r from Option.some.inj (hf.symm.trans hr)] at hw
    exact hret _ _ _ (Fr.keep (by assumption)) (GivesL.of (by assumption) (by k_mem) hw rfl)
end Mine
-- Cm1
namespace Mine
theorem top_off_Cm1 : True := by
  w_top off
  exact trivial
variable {w : World} {mean : ExcName → Option Value} {mg mb : Str → Option Value}
theorem set_Cm1_1 : True := by
  (k_with_none)
  (k_with "room" => ((try dsimp only [Ar]); first | exact rm0 (by assumption) (by decide) | exact rm (by assumption) (by decide) | omega))
  (k_with "CallL" => (k_whole; intro l' ws' c' h' tk' F' N' l1 hraw hI'; clear l1; (try k_sweep)))
  (k_with "CallI" => (k_whole; intro t' h' tk' F' N'; (try k_sweep)))
  (k_with "ktn_step" => repeat' (first | (k_unfold; (try dsimp only)) | (k_end; wrow_close) | (walk1; (try dsimp only)) | (dsimp only; walk1) | (leave1; try dsimp only) | fail "no step"))
  (k_with "ktn_open" => (repeat (first | assumption | refine (if_neg (by decide)).trans ?_)))
  (k_with "tb_start" => first | exact IsInts.news (by k_asm) (by k_mem) (by first | with_reducible assumption | exact IntsAre.nil | exact IntsAre.cons _ _ .nil | exact IntsAre.cons _ _ (IntsAre.cons _ _ .nil)) | exact IsInts.base (by k_asm) (by assumption) (by with_reducible assumption) | (refine And.intro ?_ ?_ <;> tb_start) | exact trivial)
  (k_with "tb_rel" => first | omega | assumption | ((simp only [List.length_map, rangeKs_length, List.length_take, List.length_cons, List.length_nil, List.length_replicate]); first | omega | (split <;> omega)))
  exact trivial
theorem mtrim_tells (la : Addr) (a : List Int) (ha : a.length < 2 ^ 20) : Tells w mean mg mb 78 1 6 [.ref la] (fun h => IsInts h la a) (GivesL (trim a)) := by
  unfold Tells
  k_fill
  intro dp un gd fr s Q X T hdp hun hpre hret
  obtain ⟨va, na, hla, hia⟩ := hpre
  have hLa : s.heap.IsList la va.toArray := IsInts.isList hla
  refine enter_plain X T.nolimit (by k_is) (by k_is) (rm1 hdp) (BindsTo.of_eq rfl) (locs rfl) ?_ rfl rfl rfl (by k_dflt decide)
  intro h₁ F N
  (try dsimp only)
  (try k_fold)
  k_steps
  exact hret _ _ _ (Fr.keep (by assumption)) (GivesL.of (by assumption) (by k_mem) (by assumption) (trim_walk (by assumption) (by assumption) (by assumption) (by assumption)))
theorem mdegree_tells (la : Addr) (a : List Int) (ha : a.length < 2 ^ 20) : Tells w mean mg mb 90 1 6 [.ref la] (fun h => IsInts h la a) (GivesI (a.length - 1)) := by
  unfold Tells
  k_fill
  intro dp un gd fr s Q X T hdp hun hpre hret
  obtain ⟨va, na, hla, hia⟩ := hpre
  have hLa : s.heap.IsList la va.toArray := IsInts.isList hla
  refine enter_plain X T.nolimit (by k_is) (by k_is) (rm1 hdp) (BindsTo.of_eq rfl) (locs rfl) ?_ rfl rfl rfl (by k_dflt decide)
  intro h₁ F N
  (try dsimp only)
  (try k_fold)
  k_steps
  exact hret _ _ _ (Fr.keep (by assumption)) ⟨_, rfl⟩
theorem set_Cm1_2 : True := by
  (k_with "call ref" => (k_here; (with_reducible show wpAny _ _ (call (Value.ref 78) [Value.ref _]) _ _ _); refine' useL ?_ (C := mtrim_tells _ _ (by tb_rel)); k_extra "CallL"))
  exact trivial
def mneg (a : List Int) (p : Int) : List Int := a.map fun x => (-x).fmod p
def mreduce (a : List Int) (p : Int) : List Int := trim (a.map fun x => x.fmod p)
def mscale (a : List Int) (k p : Int) : List Int := trim (a.map fun x => (x * k).fmod p)
theorem mneg_length (a : List Int) (p : Int) : (mneg a p).length = a.length := by simp [mneg]
theorem mreduce_length_le (a : List Int) (p : Int) : (mreduce a p).length ≤ a.length := Nat.le_trans (trim_length_le _) (by simp)
theorem mscale_length_le (a : List Int) (k p : Int) : (mscale a k p).length ≤ a.length := Nat.le_trans (trim_length_le _) (by simp)
theorem mneg_tells (la : Addr) (a : List Int) (p : Int) (tp : Tok) (hp : 0 < p ∧ p < 100) (_ha : a.length < 2 ^ 20) : Tells w mean mg mb 102 1 8 [.ref la, .int p tp] (fun h => IsInts h la a) (GivesL (mneg a p)) := by
  unfold Tells
  k_fill
  intro dp un gd fr s Q X T hdp hun hpre hret
  obtain ⟨va, na, hla, hia⟩ := hpre
  have hLa : s.heap.IsList la va.toArray := IsInts.isList hla
  refine enter_cells X T.nolimit (by k_is) (by k_is) (rm1 hdp) (BindsTo.of_eq rfl) rfl (by decide +kernel) ?_ rfl rfl rfl
  intro h₁ tk₁ cells F N Y
  k_cells Y
  (try simp only [List.cons_append, List.nil_append] at N)
  (try dsimp only)
  (try k_fold)
  k_steps
  exact hret _ _ _ (Fr.keep (by assumption)) (GivesL.of (by assumption) (by k_mem) (by assumption) rfl)
theorem mreduce_tells (la : Addr) (a : List Int) (p : Int) (tp : Tok) (hp : 0 < p ∧ p < 100) (ha : a.length < 2 ^ 20) : Tells w mean mg mb 83 3 14 [.ref la, .int p tp] (fun h => IsInts h la a) (GivesL (mreduce a p)) := by
  unfold Tells
  k_fill
  intro dp un gd fr s Q X T hdp hun hpre hret
  obtain ⟨va, na, hla, hia⟩ := hpre
  have hLa : s.heap.IsList la va.toArray := IsInts.isList hla
  refine enter_cells X T.nolimit (by k_is) (by k_is) (rm1 hdp) (BindsTo.of_eq rfl) rfl (by decide +kernel) ?_ rfl rfl rfl
  intro h₁ tk₁ cells F N Y
  k_cells Y
  (try simp only [List.cons_append, List.nil_append] at N)
  (try dsimp only)
  (try k_fold)
  k_steps
  exact hret _ _ _ (Fr.keep (by assumption)) (GivesL.of (by assumption) (by k_mem) (by assumption) rfl)
theorem mscale_tells (la : Addr) (a : List Int) (k : Int) (tk : Tok) (p : Int) (tp : Tok) (hp : 0 < p ∧ p < 100) (ha : a.length < 2 ^ 20) (hk : -2 ^ 62 < k ∧ k < 2 ^ 62) : Tells w mean mg mb 114 3 14 [.ref la, .int k tk, .int p tp] (fun h => IsInts h la a) (GivesL (mscale a k p)) := by
  unfold Tells
  k_fill
  intro dp un gd fr s Q X T hdp hun hpre hret
  obtain ⟨va, na, hla, hia⟩ := hpre
  have hLa : s.heap.IsList la va.toArray := IsInts.isList hla
  refine enter_cells X T.nolimit (by k_is) (by k_is) (rm1 hdp) (BindsTo.of_eq rfl) rfl (by decide +kernel) ?_ rfl rfl rfl
  intro h₁ tk₁ cells F N Y
  k_cells Y
  (try simp only [List.cons_append, List.nil_append] at N)
  (try dsimp only)
  (try k_fold)
  k_steps
  exact hret _ _ _ (Fr.keep (by assumption)) (GivesL.of (by assumption) (by k_mem) (by assumption) rfl)
end Mine
-- Civ
namespace Mine
theorem top_off_Civ : True := by
  w_top off
  exact trivial
variable {w : World} {mean : ExcName → Option Value} {mg mb : Str → Option Value}
abbrev T3 := Int × Int × Int
theorem set_Civ_1 : True := by
  (k_with_none)
  (k_with "room" => ((try dsimp only [Ar]); first | exact rm0 (by assumption) (by decide) | exact rm (by assumption) (by decide) | omega))
  (k_with "CallL" => (k_whole; intro l' ws' c' h' tk' F' N' l1 hraw hI'; clear l1; (try k_sweep)))
  (k_with "CallI" => (k_whole; intro t' h' tk' F' N'; (try k_sweep)))
  (k_with "ktn_step" => repeat' (first | (k_unfold; (try dsimp only)) | (k_end; wrow_close) | (walk1; (try dsimp only)) | (dsimp only; walk1) | (leave1; try dsimp only) | fail "no step"))
  (k_with "ktn_open" => (repeat (first | assumption | refine (if_neg (by decide)).trans ?_)))
  (k_with "tb_start" => first | exact IsInts.news (by k_asm) (by k_mem) (by first | with_reducible assumption | exact IntsAre.nil | exact IntsAre.cons _ _ .nil | exact IntsAre.cons _ _ (IntsAre.cons _ _ .nil)) | exact IsInts.base (by k_asm) (by assumption) (by with_reducible assumption) | (refine And.intro ?_ ?_ <;> tb_start) | exact trivial)
  (k_with "tb_rel" => first | omega | assumption | ((simp only [List.length_map, rangeKs_length, List.length_take, List.length_cons, List.length_nil, List.length_replicate]); first | omega | (split <;> omega)))
  (k_with "exec While Compare cons nil" => (k_here; refine hold ?_))
  exact trivial
def extF : Nat → T3 → T3 → Option T3
  | 0, _, _ => none
  | k + 1, x, y => if y.1 = 0 then some x else
    if (-1000 < x.1.fdiv y.1 ∧ x.1.fdiv y.1 < 1000) ∧ (-1000 < x.1 ∧ x.1 < 1000) ∧ (-1000 < y.1 ∧ y.1 < 1000) then extF k y (x.1 - x.1.fdiv y.1 * y.1, x.2.1 - x.1.fdiv y.1 * y.2.1, x.2.2 - x.1.fdiv y.1 * y.2.2) else none
def extE (r : T3) : T3 := if r.1 ≥ 0 then r else (0 - r.1, 0 - r.2.1, 0 - r.2.2)
abbrev tup3 (x y z : Int) (tx ty tz : Tok) : Obj := { cls := .type "tuple", data := .seq #[.int x tx, .int y ty, .int z tz] }
def GivesT (r : T3) (h h' : Heap) (v : Value) : Prop := ∃ l tx ty tz, v = .ref l ∧ h.get? l = none ∧ h'.get? l = some (tup3 r.1 r.2.1 r.2.2 tx ty tz)
theorem extF_succ {k : Nat} {x y r : T3} (h : extF (k + 1) x y = some r) (hy : y.1 ≠ 0) : ((-1000 < x.1.fdiv y.1 ∧ x.1.fdiv y.1 < 1000) ∧ (-1000 < x.1 ∧ x.1 < 1000) ∧ (-1000 < y.1 ∧ y.1 < 1000)) ∧ extF k y (x.1 - x.1.fdiv y.1 * y.1, x.2.1 - x.1.fdiv y.1 * y.2.1, x.2.2 - x.1.fdiv y.1 * y.2.2) = some r := by
  unfold extF at h
  rw [if_neg hy] at h
  by_cases c : (-1000 < x.1.fdiv y.1 ∧ x.1.fdiv y.1 < 1000) ∧ (-1000 < x.1 ∧ x.1 < 1000) ∧ (-1000 < y.1 ∧ y.1 < 1000)
  · rw [if_pos c] at h; exact ⟨c, h⟩
  · rw [if_neg c] at h; cases h
theorem extF_zero {k : Nat} {x y r : T3} (h : extF (k + 1) x y = some r) (hy : y.1 = 0) : x = r := by
  unfold extF at h
  rw [if_pos hy] at h
  exact Option.some.inj h
theorem extended_tells (a : Int) (ta : Tok) (b : Int) (tb : Tok) (r : T3) (hr : extF 60 (a, 1, 0) (b, 0, 1) = some r) : Tells w mean mg mb 64 1 8 [.int a ta, .int b tb] (fun h => True) (GivesT (extE r)) := by
  unfold Tells
  k_fill
  intro dp un gd fr s Q X T hdp hun hpre hret
  refine enter_plain X T.nolimit (by k_is) (by k_is) (rm1 hdp) (BindsTo.of_eq rfl) (locs rfl) ?_ rfl rfl rfl (by k_dflt decide)
  intro h₁ F N
  (try dsimp only)
  (try k_fold)
  k_steps
  refine unhold ?_
  (with_reducible rename Fr _ _ _ _ => F)
  (with_reducible rename News _ _ _ _ => N)
  refine while_core (fun k h => ∃ m D₁ D₂ x y u₁ u₂ u₃ u₄ u₅ u₆, Fr s.heap s.heap.objs.size h m ∧ News s.heap s.heap.objs.size h [(D₁, tup3 x.1 x.2.1 x.2.2 u₁ u₂ u₃), (D₂, tup3 y.1 y.2.1 y.2.2 u₄ u₅ u₆)] ∧ m "one" = some (.ref D₁) ∧ m "other" = some (.ref D₂) ∧ extF k x y = some r) PassesOwn.never ?_ 60 ⟨_, _, _, (a, 1, 0), (b, 0, 1), _, _, _, _, _, _, F, news_two N (by k_mem) (by k_mem), rfl, rfl, hr⟩
  intro k h tk hI
  obtain ⟨m, D₁, D₂, x, y, u₁, u₂, u₃, u₄, u₅, u₆, F₁, N₁, hm1, hm2, hx⟩ := hI
  cases k with
  | zero => exact absurd hx (by unfold extF; exact fun h => nomatch h)
  | succ k =>
    obtain ⟨x0, x1, x2⟩ := x
    obtain ⟨y0, y1, y2⟩ := y
    dsimp only at N₁
    have F₂ := frv F₁ (x := "one") (by ktn_open)
    replace F₂ := frv F₂ (x := "other") (by ktn_open)
    clear F₁ F N
    k_steps
    refine unhold ?_
    by_cases hy : y0 = 0
    · subst hy
      rw [if_neg (by simp)]
      have hr' := extF_zero hx rfl
      subst hr'
      (try dsimp only)
      k_steps
      · (with_reducible rename News _ _ _ _ => N9)
        exact hret _ _ _ (Fr.keep (by assumption)) ⟨_, _, _, _, rfl, N9.fresh (.head _), by rw [extE, if_pos (by assumption)]; exact N9.get (.head _)⟩
      · (with_reducible rename News _ _ _ _ => N9)
        exact hret _ _ _ (Fr.keep (by assumption)) ⟨_, _, _, _, rfl, N9.fresh (.head _), by rw [extE, if_neg (by assumption)]; exact N9.get (.head _)⟩
    · rw [if_pos (by simpa using hy)]
      obtain ⟨hb, hx'⟩ := extF_succ hx hy
      dsimp only at hb hx'
      obtain ⟨hb1, hb2, hb3⟩ := hb
      (try k_unmd)
      (try k_fold)
      k_steps
      exact wend (Nat.lt_succ_self k) ⟨_, _, _, (y0, y1, y2), (_, _, _), _, _, _, _, _, _, by assumption, news_two (by assumption) (by k_mem) (by k_mem), rfl, rfl, hx'⟩
theorem useT {w : World} {mean : ExcName → Option Value} {mg mb : Str → Option Value} {f : Addr} {d u dp un : Nat} {gd : Option (List Code)} {fr : Option (List Env)} {vs : List Value} {pre : Heap → Prop}
    {h₀ : Heap} {L : Addr} {m : Str → Option Value} {news : List (Addr × Obj)} {s : Shared} {Q E : Value → Shared → Prop} {r : T3} (ret : ∀ l tx ty tz h' tk, Fr h₀ L h' m → News h₀ L h' ((l, tup3 r.1 r.2.1 r.2.2 tx ty tz) :: news) → Q (.ref l) { s with heap := h', toks := tk })
    (F : Fr h₀ L s.heap m := by k_asm) (N : News h₀ L s.heap news := by k_asm) (X : (hd.heap_39 w.params).In h₀ := by k_asm)
    (T : Top hd.view_39 (looseW hd.view_39 []) mean mg mb h₀ := by k_asm) (hp : pre s.heap := by tb_start) (hdp : dp + d < recursionLimit := by k_extra "room") (hun : un + u < cLine := by k_extra "room")
    (C : Tells w mean mg mb f d u vs pre (GivesT r)) :
    wpAny (model PySem.Challenge.rw_xm0118_01.row.prog w) (Ar dp un gd fr) (call (.ref f) vs) Q E s := by
  refine use_any C F N X T hdp hun hp fun v h' tk F' N' k hq => ?_
  obtain ⟨l, tx, ty, tz, rfl, hn, hl⟩ := hq
  exact ret l tx ty tz h' tk F' (news_more F N k hn hl)
theorem set_Civ_2 : True := by
  (k_with "call ref" => (k_here; (with_reducible show wpAny _ _ (call (Value.ref 64) [Value.int _ _, Value.int _ _]) _ _ _); refine' useT ?_ (C := extended_tells _ _ _ _ _ (by assumption)); k_whole; intro l' tx' ty' tz' h' tk' F' N'; (rename extE _ = _ => hE9); (rw [hE9] at N'); (dsimp only at N'); (try k_sweep)))
  exact trivial
def invF (a m : Int) : Option Int := match extF 60 (a.fmod m, 1, 0) (m, 0, 1) with
  | some r => if (extE r).1 = 1 then some ((extE r).2.1.fmod m) else none
  | none => none
theorem inv_parts {a m v : Int} (h : invF a m = some v) : ∃ r sv tv, extF 60 (a.fmod m, 1, 0) (m, 0, 1) = some r ∧ extE r = (1, sv, tv) ∧ sv.fmod m = v := by
  unfold invF at h
  cases q : extF 60 (a.fmod m, 1, 0) (m, 0, 1) with
  | none => rw [q] at h; cases h
  | some r =>
    rw [q] at h
    dsimp only at h
    by_cases c : (extE r).1 = 1
    · rw [if_pos c] at h
      exact ⟨r, (extE r).2.1, (extE r).2.2, rfl, by rw [← c], Option.some.inj h⟩
    · rw [if_neg c] at h; cases h
theorem fmod_range (x m : Int) (h : 0 < m) : 0 ≤ x.fmod m ∧ x.fmod m < m := ⟨Int.fmod_nonneg_of_pos x h, Int.fmod_lt_of_pos x h⟩
theorem inv_range {a m v : Int} (h : invF a m = some v) (hm : 0 < m) : 0 ≤ v ∧ v < m := by
  obtain ⟨r, sv, tv, _, _, rfl⟩ := inv_parts h
  exact fmod_range sv m hm
theorem inverse_tells (a : Int) (ta : Tok) (m : Int) (tm : Tok) (v : Int) (hv : invF a m = some v) (hm : 0 < m ∧ m < 100) : Tells w mean mg mb 71 3 16 [.int a ta, .int m tm] (fun h => True) (GivesI v) := by
  unfold Tells
  k_fill
  intro dp un gd fr s Q X T hdp hun hpre hret
  refine enter_plain X T.nolimit (by k_is) (by k_is) (rm1 hdp) (BindsTo.of_eq rfl) (locs rfl) ?_ rfl rfl rfl (by k_dflt decide)
  intro h₁ F N
  (try dsimp only)
  (try k_fold)
  obtain ⟨r, sv, tv, hx, he, rfl⟩ := inv_parts hv
  k_steps
  exact hret _ _ _ (Fr.keep (by assumption)) ⟨_, rfl⟩
end Mine
-- Cm2
namespace Mine
theorem top_off_Cm2 : True := by
  w_top off
  exact trivial
variable {w : World} {mean : ExcName → Option Value} {mg mb : Str → Option Value}
theorem set_Cm2_1 : True := by
  (k_with_none)
  (k_with "room" => ((try dsimp only [Ar]); first | exact rm0 (by assumption) (by decide) | exact rm (by assumption) (by decide) | omega))
  (k_with "CallL" => (k_whole; intro l' ws' c' h' tk' F' N' l1 hraw hI'; clear l1; (try k_sweep)))
  (k_with "CallI" => (k_whole; intro t' h' tk' F' N'; (try k_sweep)))
  (k_with "ktn_step" => repeat' (first | (k_unfold; (try dsimp only)) | (k_end; wrow_close) | (walk1; (try dsimp only)) | (dsimp only; walk1) | (leave1; try dsimp only) | fail "no step"))
  (k_with "ktn_open" => (repeat (first | assumption | refine (if_neg (by decide)).trans ?_)))
  (k_with "tb_start" => first | exact IsInts.news (by k_asm) (by k_mem) (by first | with_reducible assumption | exact IntsAre.nil | exact IntsAre.cons _ _ .nil | exact IntsAre.cons _ _ (IntsAre.cons _ _ .nil)) | exact IsInts.base (by k_asm) (by assumption) (by with_reducible assumption) | (refine And.intro ?_ ?_ <;> tb_start) | exact trivial)
  (k_with "tb_rel" => first | omega | assumption | ((simp only [List.length_map, rangeKs_length, List.length_take, List.length_cons, List.length_nil, List.length_replicate]); first | omega | (split <;> omega)))
  (k_with "execs cons Assign cons" => (k_here; (with_reducible refine wpAny_execs_cons ?_)))
  (k_with "exec For Name Call cons nil" => (k_here; refine hold ?_))
  (k_with "pyIter ref" => (k_here; (with_reducible show wpAny _ _ (pyIter (Value.ref _)) (fun it s₂ => LoopAtV _ _ _ _ _ _ _ _ _ it s₂) _ _); refine hold ?_))
  (k_with "call ref" => (k_here; (with_reducible show wpAny _ _ (call (Value.ref 78) [Value.ref _]) _ _ _); refine' useL ?_ (C := mtrim_tells _ _ (by tb_rel)); k_extra "CallL"))
  exact trivial
def maddL (a b : List Int) (p : Int) : List Int := (addL a b).map fun x => x.fmod p
def madd (a b : List Int) (p : Int) : List Int := trim (maddL a b p)
def msub (a b : List Int) (p : Int) : List Int := madd a (mneg b p) p
theorem maddL_getD (a b : List Int) (p : Int) (i : Nat) (h : i < max a.length b.length) : (maddL a b p).getD i 0 = (a.getD i 0 + b.getD i 0).fmod p := by
  rw [← addL_getD, maddL]
  have h' : i < (addL a b).length := by rw [addL_length]; exact h
  simp [List.getD_eq_getElem?_getD, h']
theorem maddL_length (a b : List Int) (p : Int) : (maddL a b p).length = max a.length b.length := by rw [maddL, List.length_map, addL_length]
theorem madd_tells (la : Addr) (a : List Int) (lb : Addr) (b : List Int) (p : Int) (tp : Tok) (hp : 0 < p ∧ p < 100) (ha : a.length < 2 ^ 20) (hb : b.length < 2 ^ 20) : Tells w mean mg mb 97 3 14 [.ref la, .ref lb, .int p tp] (fun h => IsInts h la a ∧ IsInts h lb b) (GivesL (madd a b p)) := by
  unfold Tells
  k_fill
  intro dp un gd fr s Q X T hdp hun hpre hret
  obtain ⟨⟨va, na, hla, hia⟩, ⟨vb, nb, hlb, hib⟩⟩ := hpre
  have hLa : s.heap.IsList la va.toArray := IsInts.isList hla
  have hLb : s.heap.IsList lb vb.toArray := IsInts.isList hlb
  refine enter_plain X T.nolimit (by k_is) (by k_is) (rm1 hdp) (BindsTo.of_eq rfl) (locs rfl) ?_ rfl rfl rfl (by k_dflt decide)
  intro h₁ F N
  (try dsimp only)
  (try k_fold)
  k_steps
  refine unhold ?_
  (with_reducible rename Fr _ _ _ _ => F)
  refine For_invV s.heap rfl rfl ?_
  k_steps
  refine unhold ?_
  (with_reducible rename Fr _ _ _ _ => F)
  (with_reducible rename News _ _ _ _ => N)
  (with_reducible rename IsRange _ _ _ _ _ _ _ _ => hR)
  refine name_addr N fun D hD => ?_
  subst hD
  have hn : (if (b.length : Int) > a.length then (b.length : Int) else a.length) = (max a.length b.length : Nat) := by split <;> omega
  rw [hn] at hR
  have hmx : max a.length b.length < 2 ^ 20 := by omega
  refine range_core (fun i m nx => m "a" = some (.ref la) ∧ m "b" = some (.ref lb) ∧ (∃ t, m "p" = some (.int p t)) ∧ m "found" = some (.ref D) ∧ ∃ ws c, nx = [(D, listOf (List.toArray ws) c)] ∧ IntsAre ws ((maddL a b p).take i)) rfl hR (small_one (by omega) (by omega) (by omega) (by omega)) ((rangeSize_nat _ _).trans (by rw [Int.sub_zero, Int.toNat_natCast])) F N ⟨rfl, rfl, ⟨_, rfl⟩, rfl, [], _, rfl, .nil⟩ ?_ ?_
  · intro i t m₁ news₁ h tk own hin hadr hoff hJ F₁ N₁
    obtain ⟨hma, hmb, ⟨tp₂, hmp⟩, hmf, ws, c, rfl, hw⟩ := hJ
    replace hoff : OwnOff own [D] := hoff
    rw [show (0 : Int) + (i : Int) * 1 = i by omega] at F₁
    have F₂ := frv F₁ (x := "a") (by ktn_open)
    replace F₂ := frv F₂ (x := "b") (by ktn_open)
    replace F₂ := frv F₂ (x := "p") (by ktn_open)
    replace F₂ := frv F₂ (x := "found") (by ktn_open)
    clear F₁ F hadr N hn
    simp only [List.cons_append, List.nil_append] at N₁
    have hlen := hw.length
    rw [List.length_take, maddL_length] at hlen
    (try k_unmd)
    (try k_fold)
    k_steps
    all_goals first
      | (exfalso; omega)
      | ((with_reducible rename News _ _ _ (_ :: own) => N)
         refine endN (keep := []) (by assumption) (news_push N) (fun _ hq => nomatch hq) (fun q hq => hq) rfl ⟨rfl, rfl, ⟨_, rfl⟩, rfl, _, _, rfl, ints_take_snoc hw (by rw [maddL_length]; exact hin) ?_⟩
         rw [maddL_getD _ _ _ _ hin, Int.toNat_natCast]
         first | done | (rw [getD_out b i (by omega)]; done) | (rw [getD_out a i (by omega)]; done))
  · intro m₁ news₁ h tk hJ _ F₁ N₁
    obtain ⟨hma, hmb, ⟨tp₂, hmp⟩, hmf, ws, c, rfl, hw⟩ := hJ
    rw [List.take_of_length_le (Nat.le_of_eq (maddL_length a b p))] at hw
    have hlen := maddL_length a b p
    have F₂ := frv F₁ (x := "found") (by ktn_open)
    clear F₁ F N
    (try dsimp only)
    k_steps
    exact hret _ _ _ (Fr.keep (by assumption)) (GivesL.of (by assumption) (by k_mem) (by assumption) rfl)
theorem set_Cm2_2 : True := by
  (k_with "call ref" => (k_here; (with_reducible show wpAny _ _ (call (Value.ref 97) [Value.ref _, Value.ref _, Value.int _ _]) _ _ _); refine' useL ?_ (C := madd_tells _ _ _ _ _ _ (by tb_rel) (by tb_rel) (by tb_rel)); k_extra "CallL"))
  (k_with "call ref" => (k_here; (with_reducible show wpAny _ _ (call (Value.ref 102) [Value.ref _, Value.int _ _]) _ _ _); refine' useL ?_ (C := mneg_tells _ _ _ _ (by tb_rel) (by tb_rel)); k_extra "CallL"))
  (k_with "tb_rel" => ((simp only [mneg_length]); first | omega | assumption))
  exact trivial
theorem msub_tells (la : Addr) (a : List Int) (lb : Addr) (b : List Int) (p : Int) (tp : Tok) (hp : 0 < p ∧ p < 100) (ha : a.length < 2 ^ 20) (hb : b.length < 2 ^ 20) : Tells w mean mg mb 109 5 22 [.ref la, .ref lb, .int p tp] (fun h => IsInts h la a ∧ IsInts h lb b) (GivesL (msub a b p)) := by
  unfold Tells
  k_fill
  intro dp un gd fr s Q X T hdp hun hpre hret
  obtain ⟨⟨va, na, hla, hia⟩, ⟨vb, nb, hlb, hib⟩⟩ := hpre
  have hLa : s.heap.IsList la va.toArray := IsInts.isList hla
  have hLb : s.heap.IsList lb vb.toArray := IsInts.isList hlb
  refine enter_plain X T.nolimit (by k_is) (by k_is) (rm1 hdp) (BindsTo.of_eq rfl) (locs rfl) ?_ rfl rfl rfl (by k_dflt decide)
  intro h₁ F N
  (try dsimp only)
  (try k_fold)
  k_steps
  exact hret _ _ _ (Fr.keep (by assumption)) (GivesL.of (by assumption) (by k_mem) (by assumption) rfl)
end Mine
-- Cl1
namespace Mine
theorem top_off_Cl1 : True := by
  w_top off
  exact trivial
variable {w : World} {mean : ExcName → Option Value} {mg mb : Str → Option Value}
theorem set_Cl1_1 : True := by
  (k_with_none)
  (k_with "room" => ((try dsimp only [Ar]); first | exact rm0 (by assumption) (by decide) | exact rm (by assumption) (by decide) | omega))
  (k_with "CallL" => (k_whole; intro l' ws' c' h' tk' F' N' l1 hraw hI'; clear l1; (try k_sweep)))
  (k_with "CallI" => (k_whole; intro t' h' tk' F' N'; (try k_sweep)))
  (k_with "ktn_step" => repeat' (first | (k_unfold; (try dsimp only)) | (k_end; wrow_close) | (walk1; (try dsimp only)) | (dsimp only; walk1) | (leave1; try dsimp only) | fail "no step"))
  (k_with "ktn_open" => (repeat (first | assumption | refine (if_neg (by decide)).trans ?_)))
  (k_with "tb_start" => first | exact IsInts.news (by k_asm) (by k_mem) (by first | with_reducible assumption | exact IntsAre.nil | exact IntsAre.cons _ _ .nil | exact IntsAre.cons _ _ (IntsAre.cons _ _ .nil)) | exact IsInts.base (by k_asm) (by assumption) (by with_reducible assumption) | (refine And.intro ?_ ?_ <;> tb_start) | exact trivial)
  (k_with "tb_rel" => first | omega | assumption | ((simp only [List.length_map, rangeKs_length, List.length_take, List.length_cons, List.length_nil, List.length_replicate]); first | omega | (split <;> omega)))
  (k_with "exec For Name Call cons nil" => (k_here; refine hold ?_))
  (k_with "exec For Name Subscript cons nil" => (k_here; refine hold ?_))
  (k_with "pyIter ref" => (k_here; (with_reducible show wpAny _ _ (pyIter (Value.ref _)) (fun it s₂ => LoopAtV _ _ _ _ _ _ _ _ _ it s₂) _ _); refine hold ?_))
  (k_with "k_ne" => ((try dsimp only); first | exact ne_raw (by assumption) (by k_mem) | exact Ne.symm (ne_raw (by assumption) (by k_mem)) | fail "k_ne"))
  (k_with "FinE" => ((unfold LCg.FinE); intro D' h' tk' F' N' o1'; (replace o1' := off1_raw o1'); (try simp only [List.nil_append, List.cons_append] at N'); (try dsimp only)))
  (k_with "CompSrc" => (k_here; k_dflt (first
  | (refine LCg.CompSrc.range (by rfl) (by k_asm) (by k_asm) (by assumption) (by exact small_one (by omega) (by omega) (by omega) (by omega)) (by exact rangeSize_nat _ _) (by rw [PySem.sizeLine_eq]; omega) ?_; intro g'; (refine' kcf_range _ (fun k' t' I' oI' C' oC' D' m' ys' h' tk' E' hlo' hhi' hC' hx' F' N' off' ne' hMark' => ?_) ?_); (all_goals (try clear ne')); kcf_last)
  | (refine LCg.CompSrc.ledger (by rfl) (by k_asm) (by k_asm) (by k_mem) (by kcf_size) ?_; intro g'; (refine' kcf_list _ (by assumption) (fun k' t' I' oI' C' oC' D' m' ys' h' tk' E' hk' hC' hx' F' N' off' ne' hMark' => ?_) ?_); (all_goals (try clear ne')); kcf_last))))
  (k_with "CompSrcT" => (k_here; k_dflt (first
  | (refine LCt.CompSrcT.range (by rfl) (by k_asm) (by k_asm) (by assumption) (by exact small_one (by omega) (by omega) (by omega) (by omega)) (by exact rangeSize_nat _ _) (by rw [PySem.sizeLine_eq]; omega) ?_; intro g'; (refine' kci_range _ (fun k' t' I' oI' C' oC' D' m' ys' l' h' tk' E' hlo' hhi' hI' hC' hx' F' N' off' ne' => ?_) ?_ ?_); (all_goals (try clear ne')); (all_goals (try ((show KPfMark → _); intro hMark'))); kcf_last)
  | (refine LCt.CompSrcT.ledger (by rfl) (by k_asm) (by k_asm) (by k_mem) (by kcf_size) ?_; intro g'; (refine' kci_list _ (by assumption) (fun k' t' I' oI' C' oC' D' m' ys' l' h' tk' E' hk' hI' hC' hx' F' N' off' ne' => ?_) ?_ ?_); (all_goals (try clear ne')); (all_goals (try (have hb9' := rk_mem hk'))); (all_goals (try ((show KPfMark → _); intro hMark'))); kcf_last))))
  (k_with "CompEnd" => (refine' compEnd (by assumption) (by assumption) (by assumption) (fun q hq => by repeat (first | exact hq | refine List.mem_cons_of_mem _ ?_)) (by first | exact True.intro | lcg_src) ?_))
  exact trivial
def matStep (x p : Int) (f n : Int) : Int := (f * x + n).fmod p
def mat (a : List Int) (x p : Int) : Int := a.reverse.foldl (matStep x p) 0
def worthStep (a x p : Int) (s : Int × Int) (_ : Nat) : Int × Int := (s.2, (x * s.2 - a * s.1).fmod p)
def worth (n a x p : Int) : Int := ((List.range (n - 1).toNat).foldl (worthStep a x p) (Int.fmod 2 p, x.fmod p)).2
def sharedL (one other : Int) : List Int := (rangeKs 1 other.toNat).foldl (fun l k => if one.fmod k = 0 ∧ other.fmod k = 0 then l ++ [k] else l) []
def shared (one other : Int) : Int := (sharedL one other).foldl max 0
theorem mat_tells (la : Addr) (a : List Int) (x : Int) (tx : Tok) (p : Int) (tp : Tok) (hp : 0 < p ∧ p < 100) (ha : a.length < 2 ^ 20) (hx : -2 ^ 62 < x ∧ x < 2 ^ 62) : Tells w mean mg mb 142 1 8 [.ref la, .int x tx, .int p tp] (fun h => IsInts h la a) (GivesI (mat a x p)) := by
  unfold Tells
  k_fill
  intro dp un gd fr s Q X T hdp hun hpre hret
  obtain ⟨va, na, hla, hia⟩ := hpre
  have hLa : s.heap.IsList la va.toArray := IsInts.isList hla
  refine enter_plain X T.nolimit (by k_is) (by k_is) (rm1 hdp) (BindsTo.of_eq rfl) (locs rfl) ?_ rfl rfl rfl (by k_dflt decide)
  intro h₁ F N
  (try dsimp only)
  (try k_fold)
  k_steps
  refine unhold ?_
  (with_reducible rename Fr _ _ _ _ => F)
  refine For_invV s.heap rfl rfl ?_
  k_steps
  refine unhold ?_
  (with_reducible rename Fr _ _ _ _ => F)
  (with_reducible rename News _ _ _ _ => N)
  refine list_core (news := []) (ns := a.reverse) (fun i m nx => nx = [] ∧ (∃ t, m "x" = some (.int x t)) ∧ (∃ t, m "p" = some (.int p t)) ∧ ∃ t, m "found" = some (.int ((a.reverse.take i).foldl (matStep x p) 0) t)) rfl (News.isList N (.head _)) (by assumption) ((N _ (.head _)).2.1) (fun _ hp => nomatch hp) F News.nil ⟨rfl, ⟨_, rfl⟩, ⟨_, rfl⟩, _, rfl⟩ ?_ ?_
  · intro i n t m₁ news₁ h tk own hn hadr hoff hJ F₁ N₁
    obtain ⟨rfl, ⟨tx₂, hmx⟩, ⟨tp₂, hmp⟩, tf, hmf⟩ := hJ
    have F₂ := frv F₁ (x := "x") (by ktn_open)
    replace F₂ := frv F₂ (x := "p") (by ktn_open)
    replace F₂ := frv F₂ (x := "found") (by ktn_open)
    clear F₁ F hadr N
    simp only [List.nil_append] at N₁
    rw [foldl_take_succ _ _ _ _ _ hn]
    (try k_unmd)
    (try k_fold)
    k_steps
    exact endNil (by assumption) (by assumption) (fun q hq => hq) ⟨rfl, ⟨_, rfl⟩, ⟨_, rfl⟩, _, rfl⟩
  · intro m₁ news₁ h tk hJ _ F₁ N₁
    obtain ⟨rfl, _, _, tf, hmf⟩ := hJ
    rw [List.take_of_length_le (Nat.le_refl _)] at hmf
    have F₂ := frv F₁ (x := "found") (by ktn_open)
    clear F₁ F N
    (try dsimp only)
    k_steps
    exact hret _ _ _ (Fr.keep (by assumption)) ⟨_, rfl⟩
theorem worth_tells (n : Int) (tn : Tok) (a : Int) (ta : Tok) (x : Int) (tx : Tok) (p : Int) (tp : Tok) (hp : 0 < p ∧ p < 100) (hn : 0 < n ∧ n < 1000) (hx : -2 ^ 62 < x ∧ x < 2 ^ 62) (ha : -2 ^ 62 < a ∧ a < 2 ^ 62) : Tells w mean mg mb 170 1 8 [.int n tn, .int a ta, .int x tx, .int p tp] (fun h => True) (GivesI (worth n a x p)) := by
  unfold Tells
  k_fill
  intro dp un gd fr s Q X T hdp hun hpre hret
  refine enter_plain X T.nolimit (by k_is) (by k_is) (rm1 hdp) (BindsTo.of_eq rfl) (locs rfl) ?_ rfl rfl rfl (by k_dflt decide)
  intro h₁ F N
  (try dsimp only)
  (try k_fold)
  k_steps
  refine unhold ?_
  (with_reducible rename Fr _ _ _ _ => F)
  refine For_invV s.heap rfl rfl ?_
  k_steps
  refine unhold ?_
  (with_reducible rename Fr _ _ _ _ => F)
  (with_reducible rename News _ _ _ _ => N)
  (with_reducible rename IsRange _ _ _ _ _ _ _ _ => hR)
  refine range_core (fun i m nx => nx = [] ∧ (∃ t, m "x" = some (.int x t)) ∧ (∃ t, m "p" = some (.int p t)) ∧ (∃ t, m "a" = some (.int a t)) ∧ (∃ t, m "before" = some (.int ((List.range i).foldl (worthStep a x p) (Int.fmod 2 p, x.fmod p)).1 t)) ∧ ∃ t, m "found" = some (.int ((List.range i).foldl (worthStep a x p) (Int.fmod 2 p, x.fmod p)).2 t)) rfl hR (small_one (by omega) (by omega) (by omega) (by omega)) ((rangeSize_nat _ _).trans (by rw [Int.sub_zero])) F News.nil ⟨rfl, ⟨_, rfl⟩, ⟨_, rfl⟩, ⟨_, rfl⟩, ⟨_, rfl⟩, _, rfl⟩ ?_ ?_
  · intro i t m₁ news₁ h tk own hin hadr hoff hJ F₁ N₁
    obtain ⟨rfl, ⟨tx₂, hmx⟩, ⟨tp₂, hmp⟩, ⟨ta₂, hma⟩, ⟨tb, hmb⟩, tf, hmf⟩ := hJ
    have F₂ := frv F₁ (x := "x") (by ktn_open)
    replace F₂ := frv F₂ (x := "p") (by ktn_open)
    replace F₂ := frv F₂ (x := "a") (by ktn_open)
    replace F₂ := frv F₂ (x := "before") (by ktn_open)
    replace F₂ := frv F₂ (x := "found") (by ktn_open)
    clear F₁ F hadr N
    simp only [List.nil_append] at N₁
    rw [show (List.range (i + 1)).foldl (worthStep a x p) (Int.fmod 2 p, x.fmod p) = worthStep a x p ((List.range i).foldl (worthStep a x p) (Int.fmod 2 p, x.fmod p)) i by rw [List.range_succ, List.foldl_append]; rfl]
    generalize (List.range i).foldl (worthStep a x p) (Int.fmod 2 p, x.fmod p) = st at F₂ hmb hmf ⊢
    (try k_unmd)
    (try k_fold)
    k_steps
    exact endNil (by assumption) (by assumption) (fun q hq => by repeat (first | exact hq | refine List.mem_cons_of_mem _ ?_)) ⟨rfl, ⟨_, rfl⟩, ⟨_, rfl⟩, ⟨_, rfl⟩, ⟨_, rfl⟩, _, rfl⟩
  · intro m₁ news₁ h tk hJ _ F₁ N₁
    obtain ⟨rfl, _, _, _, _, tf, hmf⟩ := hJ
    have F₂ := frv F₁ (x := "found") (by ktn_open)
    clear F₁ F N
    (try dsimp only)
    k_steps
    exact hret _ _ _ (Fr.keep (by assumption)) ⟨_, rfl⟩
theorem shared_walk (n x : Int) : ∀ l : List Int, ∀ z : List Int, l.foldl (fun l' k' => if n.fmod k' = 0 ∧ x.fmod k' = 0 then l' ++ [k'] else if n.fmod k' = 0 ∧ ¬ x.fmod k' = 0 then l' else l') z = l.foldl (fun l k => if n.fmod k = 0 ∧ x.fmod k = 0 then l ++ [k] else l) z := by
  intro l
  induction l with
  | nil => intro z; rfl
  | cons k r ih =>
    intro z
    rw [List.foldl_cons, List.foldl_cons, ih]
    congr 1
    split <;> simp
theorem sharedL_mem (n x : Int) : ∀ l z : List Int, ∀ k, k ∈ l.foldl (fun l k => if n.fmod k = 0 ∧ x.fmod k = 0 then l ++ [k] else l) z ↔ (k ∈ z ∨ (k ∈ l ∧ n.fmod k = 0 ∧ x.fmod k = 0)) := by
  intro l
  induction l with
  | nil => intro z k; simp
  | cons a r ih =>
    intro z k
    rw [List.foldl_cons, ih]
    by_cases h : n.fmod a = 0 ∧ x.fmod a = 0
    · rw [if_pos h, List.mem_append, List.mem_singleton, List.mem_cons]
      constructor
      · rintro ((h1 | rfl) | h1)
        · exact .inl h1
        · exact .inr ⟨.inl rfl, h⟩
        · exact .inr ⟨.inr h1.1, h1.2⟩
      · rintro (h1 | ⟨rfl | h1, h2⟩)
        · exact .inl (.inl h1)
        · exact .inl (.inr rfl)
        · exact .inr ⟨h1, h2⟩
    · rw [if_neg h, List.mem_cons]
      constructor
      · rintro (h1 | h1)
        · exact .inl h1
        · exact .inr ⟨.inr h1.1, h1.2⟩
      · rintro (h1 | ⟨rfl | h1, h2⟩)
        · exact .inl h1
        · exact absurd h2 h
        · exact .inr ⟨h1, h2⟩
theorem one_shared {n x : Int} (hx : 0 < x) : (1 : Int) ∈ sharedL n x := by
  refine (sharedL_mem n x _ _ _).mpr (.inr ⟨?_, Int.fmod_one _, Int.fmod_one _⟩)
  rw [rangeKs, List.mem_map]
  exact ⟨0, by rw [List.mem_range]; omega, rfl⟩
theorem foldl_max_le (l : List Int) : ∀ z : Int, z ≤ l.foldl max z ∧ (∀ a ∈ l, a ≤ l.foldl max z) ∧ (l.foldl max z = z ∨ l.foldl max z ∈ l) := by
  induction l with
  | nil => intro z; exact ⟨Int.le_refl _, (fun _ h => absurd h List.not_mem_nil), Or.inl rfl⟩
  | cons b r ih =>
    intro z
    obtain ⟨h1, h2, h3⟩ := ih (max z b)
    rw [List.foldl_cons]
    refine ⟨by omega, fun a ha => ?_, ?_⟩
    · rcases List.mem_cons.mp ha with rfl | ha
      · omega
      · exact h2 a ha
    · rcases h3 with h3 | h3
      · rw [h3]
        by_cases c : b ≤ z
        · exact .inl (by omega)
        · exact .inr (by rw [show max z b = b by omega]; exact .head _)
      · exact .inr (.tail _ h3)
theorem shared_max {n x M : Int} (hx : 0 < x) (hM : M ∈ sharedL n x) (hle : ∀ a, a ∈ sharedL n x → a ≤ M) : M = shared n x := by
  obtain ⟨h1, h2, h3⟩ := foldl_max_le (sharedL n x) 0
  have one := h2 _ (one_shared hx)
  have hMl := h2 _ hM
  show M = (sharedL n x).foldl max 0
  rcases h3 with h3 | h3
  · omega
  · have := hle _ h3
    omega
theorem shared_tells (n : Int) (tn : Tok) (x : Int) (tx : Tok) (hn : 0 ≤ n ∧ n < 1000) (hx : 0 < x ∧ x < 1000) : Tells w mean mg mb 175 1 8 [.int n tn, .int x tx] (fun h => True) (GivesI (shared n x)) := by
  unfold Tells
  k_fill
  intro dp un gd fr s Q X T hdp hun hpre hret
  refine enter_cells X T.nolimit (by k_is) (by k_is) (rm1 hdp) (BindsTo.of_eq rfl) rfl (by decide +kernel) ?_ rfl rfl rfl
  intro h₁ tk₁ cells F N Y
  k_cells Y
  (try simp only [List.cons_append, List.nil_append] at N)
  (try dsimp only)
  (try k_fold)
  k_steps
  (with_reducible rename Fr _ _ _ _ => F)
  (with_reducible rename News _ _ _ _ => N)
  (with_reducible rename IntsAre _ _ => hI)
  rw [show x + 1 - 1 = x by omega, shared_walk] at hI
  refine kso_max (ns := sharedL n x) F N (News.isList N (.head _)) hI (List.length_pos_of_mem (one_shared hx.1)) rfl fun h' M t' tk' F' N' hM hle => ?_
  exact hret _ _ _ (Fr.keep (by assumption)) ⟨_, by rw [shared_max hx.1 hM hle]⟩
end Mine
-- Cl2
namespace Mine
theorem top_off_Cl2 : True := by
  w_top off
  exact trivial
variable {w : World} {mean : ExcName → Option Value} {mg mb : Str → Option Value}
theorem set_Cl2_1 : True := by
  (k_with_none)
  (k_with "room" => ((try dsimp only [Ar]); first | exact rm0 (by assumption) (by decide) | exact rm (by assumption) (by decide) | omega))
  (k_with "CallL" => (k_whole; intro l' ws' c' h' tk' F' N' l1 hraw hI'; clear l1; (try k_sweep)))
  (k_with "CallI" => (k_whole; intro t' h' tk' F' N'; (try k_sweep)))
  (k_with "ktn_step" => repeat' (first | (k_unfold; (try dsimp only)) | (k_end; wrow_close) | (walk1; (try dsimp only)) | (dsimp only; walk1) | (leave1; try dsimp only) | fail "no step"))
  (k_with "ktn_open" => (repeat (first | assumption | refine (if_neg (by decide)).trans ?_)))
  (k_with "tb_start" => first | exact IsInts.news (by k_asm) (by k_mem) (by first | with_reducible assumption | exact IntsAre.nil | exact IntsAre.cons _ _ .nil | exact IntsAre.cons _ _ (IntsAre.cons _ _ .nil)) | exact IsInts.base (by k_asm) (by assumption) (by with_reducible assumption) | (refine And.intro ?_ ?_ <;> tb_start) | exact trivial)
  (k_with "tb_rel" => first | omega | assumption | ((simp only [List.length_map, rangeKs_length, List.length_take, List.length_cons, List.length_nil, List.length_replicate]); first | omega | (split <;> omega)))
  (k_with "tb_rel" => first | omega | assumption | (intro x hx; simp only [List.mem_cons, List.not_mem_nil, or_false] at hx; omega) | ((simp only [List.length_cons, List.length_nil]); omega))
  (k_with "exec For Name Call cons nil" => (k_here; refine hold ?_))
  (k_with "pyIter ref" => (k_here; (with_reducible show wpAny _ _ (pyIter (Value.ref _)) (fun it s₂ => LoopAtV _ _ _ _ _ _ _ _ _ it s₂) _ _); refine hold ?_))
  (k_with "call ref" => (k_here; (with_reducible show wpAny _ _ (call (Value.ref 38) [Value.ref _, Value.ref _]) _ _ _); refine' useL ?_ (C := zsub_tells _ _ _ _ (by tb_rel) (by tb_rel)); k_extra "CallL"))
  (k_with "call ref" => (k_here; (with_reducible show wpAny _ _ (call (Value.ref 50) [Value.ref _, Value.ref _]) _ _ _); refine' useL ?_ (C := zmul_tells _ _ _ _ (by tb_rel) (by tb_rel) (by tb_rel)); k_extra "CallL"))
  (k_with "call ref" => (k_here; (with_reducible show wpAny _ _ (call (Value.ref 43) [Value.ref _, Value.int _ _]) _ _ _); refine' useL ?_ (C := zscale_tells _ _ _ _ (by tb_rel) (by tb_rel)); k_extra "CallL"))
  exact trivial
def ofStep (a : Int) (s : List Int × List Int) (_ : Nat) : List Int × List Int := (s.2, zsub (mul [0, 1] s.2) (zscale s.1 a))
def lawOf (n a : Int) : List Int := ((List.range (n - 1).toNat).foldl (ofStep a) ([2], [0, 1])).2
theorem zsub_length_le (a b : List Int) : (zsub a b).length ≤ max a.length b.length := by
  have := zadd_length_le a (zneg b)
  rw [zneg_length] at this
  exact this
theorem lawof_tells (n : Int) (tn : Tok) (a : Int) (ta : Tok) (hn : 0 < n ∧ n < 1000) (ha : -2 ^ 62 < a ∧ a < 2 ^ 62) : Tells w mean mg mb 163 7 30 [.int n tn, .int a ta] (fun h => True) (GivesL (lawOf n a)) := by
  unfold Tells
  k_fill
  intro dp un gd fr s Q X T hdp hun hpre hret
  refine enter_plain X T.nolimit (by k_is) (by k_is) (rm1 hdp) (BindsTo.of_eq rfl) (locs rfl) ?_ rfl rfl rfl (by k_dflt decide)
  intro h₁ F N
  (try dsimp only)
  (try k_fold)
  k_steps
  refine unhold ?_
  (with_reducible rename Fr _ _ _ _ => F)
  refine For_invV s.heap rfl rfl ?_
  k_steps
  refine unhold ?_
  (with_reducible rename Fr _ _ _ _ => F)
  (with_reducible rename News _ _ _ _ => N)
  (with_reducible rename IsRange _ _ _ _ _ _ _ _ => hR)
  refine range_coreW (news := [_, _]) (fun i m nx => (∃ t, m "a" = some (.int a t)) ∧ ∃ Db wb cb Df wf cf, m "before" = some (.ref Db) ∧ m "found" = some (.ref Df) ∧ nx = [(Df, listOf (List.toArray wf) cf), (Db, listOf (List.toArray wb) cb)] ∧ IntsAre wb ((List.range i).foldl (ofStep a) ([2], [0, 1])).1 ∧ IntsAre wf ((List.range i).foldl (ofStep a) ([2], [0, 1])).2 ∧ ((List.range i).foldl (ofStep a) ([2], [0, 1])).1.length ≤ 2 * i + 2 ∧ ((List.range i).foldl (ofStep a) ([2], [0, 1])).2.length ≤ 2 * i + 2) rfl hR (small_one (by omega) (by omega) (by omega) (by omega)) ((rangeSize_nat _ _).trans (by rw [Int.sub_zero])) F (fun p hp => N p (.tail _ hp)) ⟨⟨_, rfl⟩, _, [_], _, _, [_, _], _, rfl, rfl, rfl, .cons _ _ .nil, .cons _ _ (.cons _ _ .nil), (by show ([(2 : Int)]).length ≤ 2; decide), (by show ([(0 : Int), 1]).length ≤ 2; decide)⟩ ?_ ?_
  · intro i t m₁ news₁ h tk own hin hJ hoff F₁ N₁
    obtain ⟨⟨ta₂, hma⟩, Db, wb, cb, Df, wf, cf, hmb, hmf, rfl, hwb, hwf, hlb, hlf⟩ := hJ
    have F₂ := frv F₁ (x := "a") (by ktn_open)
    replace F₂ := frv F₂ (x := "before") (by ktn_open)
    replace F₂ := frv F₂ (x := "found") (by ktn_open)
    clear F₁ F N
    simp only [List.cons_append, List.nil_append] at N₁
    rw [show (List.range (i + 1)).foldl (ofStep a) ([2], [0, 1]) = ofStep a ((List.range i).foldl (ofStep a) ([2], [0, 1])) i by rw [List.range_succ, List.foldl_append]; rfl]
    generalize (List.range i).foldl (ofStep a) ([2], [0, 1]) = st at hwb hwf hlb hlf ⊢
    have l1 := mul_length_le [0, 1] st.2
    have l2 := zscale_length_le st.1 a
    have l3 := zsub_length_le (mul [0, 1] st.2) (zscale st.1 a)
    simp only [List.length_cons, List.length_nil] at l1
    (try k_unmd)
    (try k_fold)
    k_steps
    (with_reducible rename Fr _ _ _ _ => F9)
    (with_reducible rename News _ _ _ _ => N9)
    (rename ∀ p ∈ _, Prod.fst p ≠ _ => raw9)
    exact endW2 F9 N9 raw9 (fun q hq => by repeat (first | exact hq | refine List.mem_cons_of_mem _ ?_)) (fun q hq => hoff (Df, _) (.head _) q hq) ⟨⟨_, rfl⟩, _, _, _, _, _, _, rfl, rfl, rfl, hwf, by assumption, by show st.2.length ≤ _; omega, by show (zsub (mul [0, 1] st.2) (zscale st.1 a)).length ≤ _; omega⟩ (by k_mem) (by k_mem) (fun q hq => by repeat (first | exact hq | refine List.mem_cons_of_mem _ ?_))
  · intro m₁ news₁ h tk hJ F₁ N₁
    obtain ⟨_, Db, wb, cb, Df, wf, cf, hmb, hmf, rfl, hwb, hwf, hlb, hlf⟩ := hJ
    have F₂ := frv F₁ (x := "found") (by ktn_open)
    clear F₁ F N
    (try dsimp only)
    k_steps
    exact hret _ _ _ (Fr.keep (by assumption)) (GivesL.of (by assumption) (by k_mem) hwf rfl)
end Mine
-- Cdm
namespace Mine
theorem top_off_Cdm : True := by
  w_top off
  exact trivial
variable {w : World} {mean : ExcName → Option Value} {mg mb : Str → Option Value}
theorem set_Cdm_1 : True := by
  (k_with_none)
  (k_with "room" => ((try dsimp only [Ar]); first | exact rm0 (by assumption) (by decide) | exact rm (by assumption) (by decide) | omega))
  (k_with "CallL" => (k_whole; intro l' ws' c' h' tk' F' N' l1 hraw hI'; clear l1; (try k_sweep)))
  (k_with "CallI" => (k_whole; intro t' h' tk' F' N'; (try k_sweep)))
  (k_with "ktn_step" => repeat' (first | (k_unfold; (try dsimp only)) | (k_end; wrow_close) | (walk1; (try dsimp only)) | (dsimp only; walk1) | (leave1; try dsimp only) | fail "no step"))
  (k_with "ktn_open" => (repeat (first | assumption | refine (if_neg (by decide)).trans ?_)))
  (k_with "tb_start" => first | exact IsInts.news (by k_asm) (by k_mem) (by first | with_reducible assumption | exact IntsAre.nil | exact IntsAre.cons _ _ .nil | exact IntsAre.cons _ _ (IntsAre.cons _ _ .nil)) | exact IsInts.base (by k_asm) (by assumption) (by with_reducible assumption) | (refine And.intro ?_ ?_ <;> tb_start) | exact trivial)
  (k_with "tb_rel" => first | omega | assumption | ((simp only [List.length_map, rangeKs_length, List.length_take, List.length_cons, List.length_nil, List.length_replicate]); first | omega | (split <;> omega)))
  (k_with "exec For Name Call cons nil" => (k_here; refine hold ?_))
  (k_with "exec For Tuple Call cons nil" => (k_here; refine hold ?_))
  (k_with "call type:enumerate" => (k_here; refine hold ?_))
  (k_with "pyIter ref" => (k_here; (with_reducible show wpAny _ _ (pyIter (Value.ref _)) (fun it s₂ => LoopAtV _ _ _ _ _ _ _ _ _ it s₂) _ _); refine hold ?_))
  (k_with "InvPostN" => (k_here; refine hold ?_))
  (k_with "call ref" => (k_here; (with_reducible show wpAny _ _ (call (Value.ref 78) [Value.ref _]) _ _ _); refine' useL ?_ (C := mtrim_tells _ _ (by tb_rel)); k_extra "CallL"))
  (k_with "call ref" => (k_here; (with_reducible show wpAny _ _ (call (Value.ref 71) [Value.int _ _, Value.int _ _]) _ _ _); refine' useI ?_ (C := inverse_tells _ _ _ _ _ (by tb_rel) (by tb_rel)); k_extra "CallI"))
  exact trivial
def dstep (n : Int) (o : Nat) (p : Int) (f : List Int) (q : Int × Nat) : List Int := f.set (o + q.2) ((f.getD (o + q.2) 0 - n * q.1).fmod p)
def dturn (b : List Int) (v p : Int) (f : List Int) (o : Nat) : List Int :=
  if (f.getD ((o : Int) + b.length - 1).toNat 0 * v).fmod p = 0 then f else b.zipIdx.foldl (dstep ((f.getD ((o : Int) + b.length - 1).toNat 0 * v).fmod p) o p) f
def drest (a b : List Int) (v p : Int) (k : Nat) : List Int := (List.range k).foldl (fun f i => dturn b v p f (a.length - b.length - i)) a
def mrest (a b : List Int) (p : Int) : Option (List Int) := match invF (b.getD (b.length - 1) 0) p with
  | some v => some (trim ((drest a b v p (a.length + 1 - b.length)).take (b.length - 1)))
  | none => none
theorem foldl_dstep_length (n : Int) (o : Nat) (p : Int) (l : List (Int × Nat)) : ∀ f : List Int, (l.foldl (dstep n o p) f).length = f.length := by
  induction l with
  | nil => intro f; rfl
  | cons q r ih => intro f; rw [List.foldl_cons, ih, dstep, List.length_set]
theorem dturn_length (b : List Int) (v p : Int) (f : List Int) (o : Nat) : (dturn b v p f o).length = f.length := by
  unfold dturn
  split
  · rfl
  · exact foldl_dstep_length _ _ _ _ _
theorem drest_length (a b : List Int) (v p : Int) (k : Nat) : (drest a b v p k).length = a.length := by
  induction k with
  | zero => rfl
  | succ k ih =>
    rw [drest, List.range_succ, List.foldl_append]
    show (dturn b v p (drest a b v p k) _).length = _
    rw [dturn_length, ih]
theorem dstep_walk {n r p : Int} {o j : Nat} {f : List Int} {vs : List Value} (h : IntsAre vs (f.set ((o : Int) + j).toNat ((f.getD ((o : Int) + j).toNat 0 - n * r).fmod p))) : IntsAre vs (dstep n o p f (r, j)) := by
  rw [tn_add] at h
  exact h
theorem quo_len (a b : List Int) : (List.replicate (if (a.length : Int) - b.length + 1 > 0 then (a.length : Int) - b.length + 1 else 0).toNat [(0 : Int)]).flatten.length = a.length + 1 - b.length := by
  have e : ∀ n : Nat, (List.replicate n [(0 : Int)]).flatten.length = n := fun n => by
    induction n with
    | zero => rfl
    | succ n ih => rw [List.replicate_succ, List.flatten_cons, List.length_append, ih, List.length_singleton]; omega
  rw [e]
  split <;> omega
/-- a pair of lists, of which the second counts -/
def GivesP (r : List Int) (h h' : Heap) (v : Value) : Prop := ∃ l l₁ l₂, v = .ref l ∧ h.get? l = none ∧ h'.get? l = some { cls := .type "tuple", data := .seq #[.ref l₁, .ref l₂] } ∧ h.get? l₂ = none ∧ IsInts h' l₂ r
theorem mrest_parts {a b r : List Int} {p : Int} (h : mrest a b p = some r) : ∃ v, invF (b.getD (b.length - 1) 0) p = some v ∧ trim ((drest a b v p (a.length + 1 - b.length)).take (b.length - 1)) = r := by
  unfold mrest at h
  cases q : invF (b.getD (b.length - 1) 0) p with
  | none => rw [q] at h; cases h
  | some v =>
    rw [q] at h
    exact ⟨v, rfl, Option.some.inj h⟩
theorem mdivmod_tells (la : Addr) (a : List Int) (lb : Addr) (b : List Int) (p : Int) (tp : Tok) (r : List Int) (hr : mrest a b p = some r) (hp : 0 < p ∧ p < 100) (ha : a.length < 2 ^ 20) (hb : 0 < b.length ∧ b.length < 2 ^ 20) : Tells w mean mg mb 121 5 24 [.ref la, .ref lb, .int p tp] (fun h => IsInts h la a ∧ IsInts h lb b) (GivesP r) := by
  unfold Tells
  k_fill
  intro dp un gd fr s Q X T hdp hun hpre hret
  obtain ⟨⟨va, na, hla, hia⟩, ⟨vb, nb, hlb, hib⟩⟩ := hpre
  have hLa : s.heap.IsList la va.toArray := IsInts.isList hla
  have hLb : s.heap.IsList lb vb.toArray := IsInts.isList hlb
  refine enter_plain X T.nolimit (by k_is) (by k_is) (rm1 hdp) (BindsTo.of_eq rfl) (locs rfl) ?_ rfl rfl rfl (by k_dflt decide)
  intro h₁ F N
  (try dsimp only)
  (try k_fold)
  obtain ⟨v, hv, rfl⟩ := mrest_parts hr
  have hvr := inv_range hv hp.1
  have hv2 : invF (b.getD (-1 + (b.length : Int)).toNat 0) p = some v := by
    rw [tn_neg]
    exact hv
  k_steps
  refine unhold ?_
  (with_reducible rename Fr _ _ _ _ => F)
  refine For_invV s.heap rfl rfl ?_
  k_steps
  refine unhold ?_
  (with_reducible rename Fr _ _ _ _ => F)
  (with_reducible rename News _ _ _ _ => N)
  (with_reducible rename IsRange _ _ _ _ _ _ _ _ => hR)
  (with_reducible rename IntsAre (List.flatten _) _ => iQ)
  refine name_ref F "rest" rfl fun Dr hD => ?_
  subst hD
  refine name_ref F "quotient" rfl fun Dq hD => ?_
  subst hD
  have hneq : @Ne Nat Dr Dq := by omega
  have N2 := news_two (D := Dr) (D' := Dq) N (by k_mem) (by k_mem)
  refine range_core (fun i m nx => m "b" = some (.ref lb) ∧ (∃ t, m "p" = some (.int p t)) ∧ (∃ t, m "turn" = some (.int v t)) ∧ m "rest" = some (.ref Dr) ∧ m "quotient" = some (.ref Dq) ∧ ∃ wr cr wq cq qs, nx = [(Dr, listOf (List.toArray wr) cr), (Dq, listOf (List.toArray wq) cq)] ∧ IntsAre wr (drest a b v p i) ∧ IntsAre wq qs ∧ qs.length = a.length + 1 - b.length) rfl hR (small_down (by omega) (by omega) (by omega) (by omega)) ((rangeSize_downNat _ _).trans (by rw [show ((a.length : Int) - b.length - -1).toNat = a.length + 1 - b.length by omega])) F N2 ⟨rfl, ⟨_, rfl⟩, ⟨_, rfl⟩, rfl, rfl, _, _, _, _, _, rfl, hia, iQ, quo_len a b⟩ ?_ ?_
  · intro i t m₁ news₁ h tk own hin hadr hoff hJ F₁ N₁
    obtain ⟨hmb, ⟨tp₂, hmp⟩, ⟨tv₂, hmv⟩, hmr, hmq, wr, cr, wq, cq, qs, rfl, hwr, hwq, hql⟩ := hJ
    replace hoff : OwnOff own [Dr, Dq] := hoff
    have hla : b.length ≤ a.length := by omega
    rw [show ((a.length : Int) - b.length) + (i : Int) * (-1) = ((a.length - b.length - i : Nat) : Int) by omega] at F₁
    rw [show drest a b v p (i + 1) = dturn b v p (drest a b v p i) (a.length - b.length - i) by rw [drest, List.range_succ, List.foldl_append]; rfl]
    have hfl := drest_length a b v p i
    generalize drest a b v p i = f0 at hwr hfl ⊢
    have ho1 : a.length - b.length - i + b.length ≤ a.length := by omega
    have ho2 : a.length - b.length - i < a.length + 1 - b.length := by omega
    generalize a.length - b.length - i = o at F₁ ho1 ho2 ⊢
    have F₂ := frv F₁ (x := "b") (by ktn_open)
    replace F₂ := frv F₂ (x := "p") (by ktn_open)
    replace F₂ := frv F₂ (x := "turn") (by ktn_open)
    replace F₂ := frv F₂ (x := "rest") (by ktn_open)
    replace F₂ := frv F₂ (x := "quotient") (by ktn_open)
    clear F₁ F hadr N N2
    simp only [List.cons_append, List.nil_append] at N₁
    (try k_unmd)
    (try k_fold)
    ktn_step
    · (with_reducible rename Fr _ _ _ _ => F)
      (with_reducible rename News _ _ _ _ => N)
      (with_reducible rename _ ≠ (0 : Int) => hn0)
      (with_reducible rename IntsAre (List.set _ _ _) _ => hq')
      (with_reducible rename (List.set _ _ _).length = _ => hl')
      have hnr := fmod_range (f0.getD ((o : Int) + b.length - 1).toNat 0 * v) p hp.1
      refine unhold ?_
      refine For_turns F ?_
      ktn_step
      refine unhold ?_
      refine name_tail N fun rst hrst N => ?_
      have hrs : OwnOff rst [Dr] := by
        rw [hrst]
        intro q hq c hc
        rw [List.mem_singleton.mp hc]
        rcases List.mem_cons.mp hq with rfl | hq
        · exact Ne.symm hneq
        · exact hoff q hq Dr (.head _)
      refine enum_core (fun j m nx => m "b" = some (.ref lb) ∧ (∃ t, m "p" = some (.int p t)) ∧ (∃ t, m "turn" = some (.int v t)) ∧ m "rest" = some (.ref Dr) ∧ m "quotient" = some (.ref Dq) ∧ (∃ t, m "at" = some (.int o t)) ∧ (∃ t, m "number" = some (.int ((f0.getD ((o : Int) + b.length - 1).toNat 0 * v).fmod p) t)) ∧ ∃ wr cr, nx = (Dr, listOf (List.toArray wr) cr) :: rst ∧ IntsAre wr ((b.zipIdx.take j).foldl (dstep ((f0.getD ((o : Int) + b.length - 1).toNat 0 * v).fmod p) o p) f0)) rfl rfl rfl rfl hLb hib F N ⟨rfl, ⟨_, rfl⟩, ⟨_, rfl⟩, rfl, rfl, ⟨_, rfl⟩, ⟨_, rfl⟩, _, _, rfl, hwr⟩ ?_ ?_
      · intro j x t₃ t₄ m₂ news₂ h₂ tk₂ own₂ hr hadr₂ hoff₂ hJ₂ F₃ N₃
        obtain ⟨hmb₂, ⟨tp₃, hmp₂⟩, ⟨tv₃, hmv₂⟩, hmr₂, hmq₂, ⟨to₃, hmo₂⟩, ⟨tn₃, hmn₂⟩, ws₂, c₂, rfl, hw₂⟩ := hJ₂
        have hjn : j < b.length := (List.getElem?_eq_some_iff.mp hr).1
        rw [foldl_take_succ _ _ _ _ _ (zipIdx_at hr)]
        have hlen₂ := foldl_dstep_length ((f0.getD ((o : Int) + b.length - 1).toNat 0 * v).fmod p) o p (b.zipIdx.take j) f0
        generalize (b.zipIdx.take j).foldl (dstep ((f0.getD ((o : Int) + b.length - 1).toNat 0 * v).fmod p) o p) f0 = f1 at hw₂ hlen₂ ⊢
        generalize (f0.getD ((o : Int) + b.length - 1).toNat 0 * v).fmod p = nn at hnr hmn₂ ⊢
        have F₄ := frv F₃ (x := "b") (by ktn_open)
        replace F₄ := frv F₄ (x := "p") (by ktn_open)
        replace F₄ := frv F₄ (x := "turn") (by ktn_open)
        replace F₄ := frv F₄ (x := "rest") (by ktn_open)
        replace F₄ := frv F₄ (x := "quotient") (by ktn_open)
        replace F₄ := frv F₄ (x := "at") (by ktn_open)
        replace F₄ := frv F₄ (x := "number") (by ktn_open)
        clear F₃ F hadr₂ N
        obtain ⟨own₃, e₃⟩ : ∃ o, o = rst ++ own₂ := ⟨_, rfl⟩
        have hoff₃ : OwnOff own₃ [Dr] := e₃ ▸ own_app hrs (own_sub hoff₂ fun b hb => by rw [List.mem_singleton.mp hb]; exact .head _)
        simp only [List.cons_append] at N₃
        rw [← e₃] at N₃
        (try k_unmd)
        (try k_fold)
        ktn_step
        exact unhold (endN (keep := rst) (by assumption) (by assumption) (fun q hq => e₃ ▸ List.mem_append_left _ hq) (fun q hq => e₃ ▸ List.mem_append_right _ hq) rfl ⟨rfl, ⟨_, rfl⟩, ⟨_, rfl⟩, rfl, rfl, ⟨_, rfl⟩, ⟨_, rfl⟩, _, _, rfl, dstep_walk (by assumption)⟩)
      · intro m₂ news₂ h₂ tk₂ hJ₂ _ F₃ N₃
        obtain ⟨hmb₂, hmp₂, hmv₂, hmr₂, hmq₂, _, _, ws₂, c₂, rfl, hw₂⟩ := hJ₂
        rw [zip_take] at hw₂
        rw [hrst] at N₃
        clear F N
        (try dsimp only)
        ktn_step
        refine unhold (?_ : InvEndN _ _ _ _ _ _ _)
        refine end2 (by assumption) (by assumption) (fun q hq => hq) ⟨hmb₂, hmp₂, hmv₂, hmr₂, hmq₂, _, _, _, _, _, rfl, by rw [dturn, if_neg hn0]; exact hw₂, hq', hl'.trans hql⟩
    · (with_reducible rename _ = (0 : Int) => hn0)
      (with_reducible rename IntsAre (List.set _ _ _) _ => hq')
      (with_reducible rename (List.set _ _ _).length = _ => hl')
      refine unhold (?_ : InvEndN _ _ _ _ _ _ _)
      refine end2 (by assumption) (by assumption) (fun q hq => hq) ⟨rfl, ⟨_, rfl⟩, ⟨_, rfl⟩, rfl, rfl, _, _, _, _, _, rfl, by rw [dturn, if_pos hn0]; exact hwr, hq', hl'.trans hql⟩
  · intro m₁ news₁ h tk hJ _ F₁ N₁
    obtain ⟨hmb, ⟨tp₂, hmp⟩, ⟨tv₂, hmv⟩, hmr, hmq, wr, cr, wq, cq, qs, rfl, hwr, hwq, hql⟩ := hJ
    have hfl := drest_length a b v p (a.length + 1 - b.length)
    generalize drest a b v p (a.length + 1 - b.length) = f0 at hwr hfl hret hr
    have F₂ := frv F₁ (x := "b") (by ktn_open)
    replace F₂ := frv F₂ (x := "rest") (by ktn_open)
    replace F₂ := frv F₂ (x := "quotient") (by ktn_open)
    clear F₁ F N
    (try dsimp only)
    (try k_unmd)
    (try k_fold)
    k_steps
    (with_reducible rename News _ _ _ _ => N9)
    (with_reducible rename IntsAre _ (trim (List.take _ _)) => hI9)
    rw [tn_pred] at hI9
    exact hret _ _ _ (Fr.keep (by assumption)) ⟨_, _, _, rfl, N9.fresh (.head _), N9.get (.head _), N9.fresh (.tail _ (.head _)), _, _, N9.get (.tail _ (.head _)), hI9⟩
theorem useP {w : World} {mean : ExcName → Option Value} {mg mb : Str → Option Value} {f : Addr} {d u dp un : Nat} {gd : Option (List Code)} {fr : Option (List Env)} {vs : List Value} {pre : Heap → Prop}
    {h₀ : Heap} {L : Addr} {m : Str → Option Value} {news : List (Addr × Obj)} {s : Shared} {Q E : Value → Shared → Prop} {r : List Int} (ret : ∀ l l₁ l₂ ws c h' tk, Fr h₀ L h' m → News h₀ L h' ((l, { cls := .type "tuple", data := .seq #[.ref l₁, .ref l₂] }) :: (l₂, listOf (List.toArray ws) c) :: news) → IntsAre ws r → Q (.ref l) { s with heap := h', toks := tk })
    (F : Fr h₀ L s.heap m := by k_asm) (N : News h₀ L s.heap news := by k_asm) (X : (hd.heap_39 w.params).In h₀ := by k_asm)
    (T : Top hd.view_39 (looseW hd.view_39 []) mean mg mb h₀ := by k_asm) (hp : pre s.heap := by tb_start) (hdp : dp + d < recursionLimit := by k_extra "room") (hun : un + u < cLine := by k_extra "room")
    (C : Tells w mean mg mb f d u vs pre (GivesP r)) :
    wpAny (model PySem.Challenge.rw_xm0118_01.row.prog w) (Ar dp un gd fr) (call (.ref f) vs) Q E s := by
  refine use_any C F N X T hdp hun hp fun v h' tk F' N' k hq => ?_
  obtain ⟨l, l₁, l₂, rfl, hn, hl, hn₂, ws, c, hl₂, hi⟩ := hq
  have N₂ := news_more F N k hn₂ hl₂
  refine ret l l₁ l₂ ws c h' tk F' (fun p hp => ?_) hi
  rcases List.mem_cons.mp hp with rfl | hp
  · exact news_more F N k hn hl _ (.head _)
  · exact N₂ p hp
theorem set_Cdm_2 : True := by
  (k_with "call ref" => (k_here; (with_reducible show wpAny _ _ (call (Value.ref 121) [Value.ref _, Value.ref _, Value.int _ _]) _ _ _); refine' useP ?_ (C := mdivmod_tells _ _ _ _ _ _ _ (by assumption) (by assumption) (by tb_rel) (by assumption)); k_whole; intro l' l₁' l₂' ws' c' h' tk' F' N' hI'; (try k_sweep)))
  exact trivial
theorem mrest_tells (la : Addr) (a : List Int) (lb : Addr) (b : List Int) (p : Int) (tp : Tok) (r : List Int) (hr : mrest a b p = some r) (hp : 0 < p ∧ p < 100) (ha : a.length < 2 ^ 20) (hb : 0 < b.length ∧ b.length < 2 ^ 20) : Tells w mean mg mb 128 7 32 [.ref la, .ref lb, .int p tp] (fun h => IsInts h la a ∧ IsInts h lb b) (GivesL r) := by
  unfold Tells
  k_fill
  intro dp un gd fr s Q X T hdp hun hpre hret
  obtain ⟨⟨va, na, hla, hia⟩, ⟨vb, nb, hlb, hib⟩⟩ := hpre
  have hLa : s.heap.IsList la va.toArray := IsInts.isList hla
  have hLb : s.heap.IsList lb vb.toArray := IsInts.isList hlb
  refine enter_plain X T.nolimit (by k_is) (by k_is) (rm1 hdp) (BindsTo.of_eq rfl) (locs rfl) ?_ rfl rfl rfl (by k_dflt decide)
  intro h₁ F N
  (try dsimp only)
  (try k_fold)
  k_steps
  exact hret _ _ _ (Fr.keep (by assumption)) (GivesL.of (by assumption) (by k_mem) (by assumption) rfl)
end Mine
-- Cgc
namespace Mine
theorem top_off_Cgc : True := by
  w_top off
  exact trivial
variable {w : World} {mean : ExcName → Option Value} {mg mb : Str → Option Value}
theorem set_Cgc_1 : True := by
  (k_with_none)
  (k_with "room" => ((try dsimp only [Ar]); first | exact rm0 (by assumption) (by decide) | exact rm (by assumption) (by decide) | omega))
  (k_with "CallL" => (k_whole; intro l' ws' c' h' tk' F' N' l1 hraw hI'; clear l1; (try k_sweep)))
  (k_with "CallI" => (k_whole; intro t' h' tk' F' N'; (try k_sweep)))
  (k_with "ktn_step" => repeat' (first | (k_unfold; (try dsimp only)) | (k_end; wrow_close) | (walk1; (try dsimp only)) | (dsimp only; walk1) | (leave1; try dsimp only) | fail "no step"))
  (k_with "ktn_open" => (repeat (first | assumption | refine (if_neg (by decide)).trans ?_)))
  (k_with "tb_start" => first | exact IsInts.news (by k_asm) (by k_mem) (by first | with_reducible assumption | exact IntsAre.nil | exact IntsAre.cons _ _ .nil | exact IntsAre.cons _ _ (IntsAre.cons _ _ .nil)) | exact IsInts.base (by k_asm) (by assumption) (by with_reducible assumption) | (refine And.intro ?_ ?_ <;> tb_start) | exact trivial)
  (k_with "tb_rel" => first | omega | assumption | ((simp only [List.length_map, rangeKs_length, List.length_take, List.length_cons, List.length_nil, List.length_replicate]); first | omega | (split <;> omega)))
  (k_with "exec While Compare cons nil" => (k_here; refine hold ?_))
  (k_with "call ref" => (k_here; (with_reducible show wpAny _ _ (call (Value.ref 71) [Value.int _ _, Value.int _ _]) _ _ _); refine' useI ?_ (C := inverse_tells _ _ _ _ _ (by tb_rel) (by tb_rel)); k_extra "CallI"))
  (k_with "call ref" => (k_here; (with_reducible show wpAny _ _ (call (Value.ref 114) [Value.ref _, Value.int _ _, Value.int _ _]) _ _ _); refine' useL ?_ (C := mscale_tells _ _ _ _ _ _ (by tb_rel) (by tb_rel) (by tb_rel)); k_extra "CallL"))
  exact trivial
def mmonic (a : List Int) (p : Int) : Option (List Int) := if a = [] then some [] else match invF (a.getD (a.length - 1) 0) p with
  | some v => some (mscale a v p)
  | none => none
theorem mmonic_parts {a r : List Int} {p : Int} (h : mmonic a p = some r) (ha : a ≠ []) : ∃ v, invF (a.getD (a.length - 1) 0) p = some v ∧ mscale a v p = r := by
  unfold mmonic at h
  rw [if_neg ha] at h
  cases q : invF (a.getD (a.length - 1) 0) p with
  | none => rw [q] at h; cases h
  | some v => rw [q] at h; exact ⟨v, rfl, Option.some.inj h⟩
def mgcd : Nat → List Int → List Int → Int → Option (List Int)
  | 0, _, _, _ => none
  | k + 1, a, b, p => if a.length < 1000 ∧ b.length < 1000 then (if b = [] then mmonic a p else match mrest a b p with
    | some r => mgcd k b r p
    | none => none) else none
theorem mgcd_guard {k : Nat} {a b r : List Int} {p : Int} (h : mgcd (k + 1) a b p = some r) : (a.length < 1000 ∧ b.length < 1000) ∧ (b = [] → mmonic a p = some r) ∧ (b ≠ [] → ∃ r', mrest a b p = some r' ∧ mgcd k b r' p = some r) := by
  unfold mgcd at h
  by_cases c : a.length < 1000 ∧ b.length < 1000
  · rw [if_pos c] at h
    refine ⟨c, fun hb => ?_, fun hb => ?_⟩
    · rwa [if_pos hb] at h
    · rw [if_neg hb] at h
      cases q : mrest a b p with
      | none => rw [q] at h; cases h
      | some r' => rw [q] at h; exact ⟨r', rfl, h⟩
  · rw [if_neg c] at h; cases h
/-- a list of ints, in the base or on the ledger -/
def At (h₀ : Heap) (L : Addr) (h : Heap) (l : Addr) (xs : List Int) : Prop :=
  (∃ (vs : List Value) (n : Nat), h₀.get? l = some (listOf vs.toArray n) ∧ IntsAre vs xs) ∨ ∃ (vs : List Value) (n : Nat), News h₀ L h [(l, listOf vs.toArray n)] ∧ IntsAre vs xs
theorem news_both {h₀ h : Heap} {L : Addr} {p q : Addr × Obj} (N : News h₀ L h [p]) (N' : News h₀ L h [q]) : News h₀ L h [p, q] := fun x hx => by
  rcases List.mem_cons.mp hx with rfl | hx
  · exact N _ (.head _)
  · exact N' _ hx
theorem news_in {h₀ h : Heap} {L l : Addr} {o : Obj} {news : List (Addr × Obj)} (N : News h₀ L h news) (hm : (l, o) ∈ news) : News h₀ L h [(l, o)] := fun x hx => by rw [List.mem_singleton.mp hx]; exact N _ hm
theorem ne_nil_of {a : List Int} (h : (a.length : Int) > 0) : a ≠ [] := fun e => by rw [e] at h; exact absurd h (by decide)
theorem nil_of {a : List Int} (h : ¬ (a.length : Int) > 0) : a = [] := List.eq_nil_of_length_eq_zero (by omega)
theorem mmonic_tells (la : Addr) (a : List Int) (p : Int) (tp : Tok) (r : List Int) (hr : mmonic a p = some r) (hp : 0 < p ∧ p < 100) (ha : a.length < 2 ^ 20) : Tells w mean mg mb 135 7 24 [.ref la, .int p tp] (fun h => IsInts h la a) (GivesL r) := by
  unfold Tells
  k_fill
  intro dp un gd fr s Q X T hdp hun hpre hret
  obtain ⟨va, na, hla, hia⟩ := hpre
  have hLa : s.heap.IsList la va.toArray := IsInts.isList hla
  refine enter_plain X T.nolimit (by k_is) (by k_is) (rm1 hdp) (BindsTo.of_eq rfl) (locs rfl) ?_ rfl rfl rfl (by k_dflt decide)
  intro h₁ F N
  (try dsimp only)
  (try k_fold)
  by_cases hnil : a = []
  · subst hnil
    have hr' : ([] : List Int) = r := by
      unfold mmonic at hr
      rw [if_pos rfl] at hr
      exact Option.some.inj hr
    have h0 : ([] : List Int).length = 0 := rfl
    k_steps
    all_goals first
      | (exfalso; simp at *; done)
      | exact hret _ _ _ (Fr.keep (by assumption)) (GivesL.of (vs := []) (by assumption) (by k_mem) .nil hr')
  · have hl : 0 < a.length := List.length_pos_iff.mpr hnil
    obtain ⟨v, hv, rfl⟩ := mmonic_parts hr hnil
    have hv2 : invF (a.getD (-1 + (a.length : Int)).toNat 0) p = some v := by
      rw [tn_neg]
      exact hv
    have hvr := inv_range hv hp.1
    k_steps
    exact hret _ _ _ (Fr.keep (by assumption)) (GivesL.of (by assumption) (by k_mem) (by assumption) rfl)
theorem set_Cgc_2 : True := by
  (k_with "call ref" => (k_here; (with_reducible show wpAny _ _ (call (Value.ref 135) [Value.ref _, Value.int _ _]) _ _ _); refine' useL ?_ (C := mmonic_tells _ _ _ _ _ (by tb_rel) (by tb_rel) (by tb_rel)); k_extra "CallL"))
  (k_with "call ref" => (k_here; (with_reducible show wpAny _ _ (call (Value.ref 128) [Value.ref _, Value.ref _, Value.int _ _]) _ _ _); refine' useL ?_ (C := mrest_tells _ _ _ _ _ _ _ (by tb_rel) (by tb_rel) (by tb_rel) (by tb_rel)); k_extra "CallL"))
  exact trivial
theorem mgcd_tells (la : Addr) (a : List Int) (lb : Addr) (b : List Int) (p : Int) (tp : Tok) (r : List Int) (hr : mgcd 60 a b p = some r) (hp : 0 < p ∧ p < 100) : Tells w mean mg mb 149 9 40 [.ref la, .ref lb, .int p tp] (fun h => IsInts h la a ∧ IsInts h lb b) (GivesL r) := by
  unfold Tells
  k_fill
  intro dp un gd fr s Q X T hdp hun hpre hret
  obtain ⟨⟨va, na, hla, hia⟩, ⟨vb, nb, hlb, hib⟩⟩ := hpre
  have hLa : s.heap.IsList la va.toArray := IsInts.isList hla
  have hLb : s.heap.IsList lb vb.toArray := IsInts.isList hlb
  refine enter_plain X T.nolimit (by k_is) (by k_is) (rm1 hdp) (BindsTo.of_eq rfl) (locs rfl) ?_ rfl rfl rfl (by k_dflt decide)
  intro h₁ F N
  (try dsimp only)
  (try k_fold)
  k_steps
  refine unhold ?_
  (with_reducible rename Fr _ _ _ _ => F)
  refine while_core (fun k h => ∃ m la lb xs ys, Fr s.heap s.heap.objs.size h m ∧ At s.heap s.heap.objs.size h la xs ∧ At s.heap s.heap.objs.size h lb ys ∧ m "a" = some (.ref la) ∧ m "b" = some (.ref lb) ∧ (∃ t, m "p" = some (.int p t)) ∧ mgcd k xs ys p = some r) PassesOwn.never ?_ 60 ⟨_, _, _, a, b, F, .inl ⟨_, _, hla, hia⟩, .inl ⟨_, _, hlb, hib⟩, rfl, rfl, ⟨_, rfl⟩, hr⟩
  clear F N hr hla hia hLa hlb hib hLb
  intro k h tk hI
  obtain ⟨m, la, lb, xs, ys, F₁, hA, hB, hma, hmb, ⟨tp₂, hmp⟩, hg⟩ := hI
  cases k with
  | zero => exact absurd hg (by unfold mgcd; exact fun h => nomatch h)
  | succ k =>
    obtain ⟨⟨hlx, hly⟩, hg0, hg1⟩ := mgcd_guard hg
    have F₂ := frv F₁ (x := "a") (by ktn_open)
    replace F₂ := frv F₂ (x := "b") (by ktn_open)
    replace F₂ := frv F₂ (x := "p") (by ktn_open)
    clear F₁
    rcases hA with ⟨vx, nx, hlx, hix⟩ | ⟨vx, nx, NA, hix⟩ <;> rcases hB with ⟨vy, ny, hly, hiy⟩ | ⟨vy, ny, NB, hiy⟩
    · have N : News s.heap s.heap.objs.size h [] := News.nil
      have hLx : s.heap.IsList la vx.toArray := IsInts.isList hlx
      have hLy : s.heap.IsList lb vy.toArray := IsInts.isList hly
      (try clear NA)
      (try clear NB)
      k_steps
      refine unhold ?_
      by_cases hnil : ys = []
      · rw [if_neg (by rw [hnil]; decide)]
        have hr9 := hg0 hnil
        (try dsimp only)
        k_steps
        exact hret _ _ _ (Fr.keep (by assumption)) (GivesL.of (by assumption) (by k_mem) (by assumption) rfl)
      · have hpos : 0 < ys.length := List.length_pos_iff.mpr hnil
        rw [if_pos (by simpa using hpos)]
        obtain ⟨r', hr', hg'⟩ := hg1 hnil
        (try k_unmd)
        (try k_fold)
        k_steps
        exact wend (Nat.lt_succ_self k) ⟨_, _, _, ys, r', by assumption, .inl ⟨_, _, hly, hiy⟩, .inr ⟨_, _, news_in (by assumption) (by k_mem), by assumption⟩, rfl, rfl, ⟨_, rfl⟩, hg'⟩
    · have N := NB
      have hLx : s.heap.IsList la vx.toArray := IsInts.isList hlx
      (try clear NA)
      (try clear NB)
      k_steps
      refine unhold ?_
      by_cases hnil : ys = []
      · rw [if_neg (by rw [hnil]; decide)]
        have hr9 := hg0 hnil
        (try dsimp only)
        k_steps
        exact hret _ _ _ (Fr.keep (by assumption)) (GivesL.of (by assumption) (by k_mem) (by assumption) rfl)
      · have hpos : 0 < ys.length := List.length_pos_iff.mpr hnil
        rw [if_pos (by simpa using hpos)]
        obtain ⟨r', hr', hg'⟩ := hg1 hnil
        (try k_unmd)
        (try k_fold)
        k_steps
        exact wend (Nat.lt_succ_self k) ⟨_, _, _, ys, r', by assumption, .inr ⟨_, _, news_in (by assumption) (by k_mem), hiy⟩, .inr ⟨_, _, news_in (by assumption) (by k_mem), by assumption⟩, rfl, rfl, ⟨_, rfl⟩, hg'⟩
    · have N := NA
      have hLy : s.heap.IsList lb vy.toArray := IsInts.isList hly
      (try clear NA)
      (try clear NB)
      k_steps
      refine unhold ?_
      by_cases hnil : ys = []
      · rw [if_neg (by rw [hnil]; decide)]
        have hr9 := hg0 hnil
        (try dsimp only)
        k_steps
        exact hret _ _ _ (Fr.keep (by assumption)) (GivesL.of (by assumption) (by k_mem) (by assumption) rfl)
      · have hpos : 0 < ys.length := List.length_pos_iff.mpr hnil
        rw [if_pos (by simpa using hpos)]
        obtain ⟨r', hr', hg'⟩ := hg1 hnil
        (try k_unmd)
        (try k_fold)
        k_steps
        exact wend (Nat.lt_succ_self k) ⟨_, _, _, ys, r', by assumption, .inl ⟨_, _, hly, hiy⟩, .inr ⟨_, _, news_in (by assumption) (by k_mem), by assumption⟩, rfl, rfl, ⟨_, rfl⟩, hg'⟩
    · have N := news_both NA NB
      (try clear NA)
      (try clear NB)
      k_steps
      refine unhold ?_
      by_cases hnil : ys = []
      · rw [if_neg (by rw [hnil]; decide)]
        have hr9 := hg0 hnil
        (try dsimp only)
        k_steps
        exact hret _ _ _ (Fr.keep (by assumption)) (GivesL.of (by assumption) (by k_mem) (by assumption) rfl)
      · have hpos : 0 < ys.length := List.length_pos_iff.mpr hnil
        rw [if_pos (by simpa using hpos)]
        obtain ⟨r', hr', hg'⟩ := hg1 hnil
        (try k_unmd)
        (try k_fold)
        k_steps
        exact wend (Nat.lt_succ_self k) ⟨_, _, _, ys, r', by assumption, .inr ⟨_, _, news_in (by assumption) (by k_mem), hiy⟩, .inr ⟨_, _, news_in (by assumption) (by k_mem), by assumption⟩, rfl, rfl, ⟨_, rfl⟩, hg'⟩
end Mine
-- Plain
namespace Mine
def insI (x : Int) : List Int → List Int
  | [] => [x]
  | y :: ys => if x ≤ y then x :: y :: ys else y :: insI x ys
def isort : List Int → List Int
  | [] => []
  | x :: xs => insI x (isort xs)
/-- what depends on n, a, m -/
def chk1 (n a m : Int) : Bool :=
  let an := a ^ n.toNat
  decide (-100000 < an) && decide (an < 100000) && decide ((lawOf n a).length < 1000) && decide (compose (lawOf m an) (lawOf n a) = some (lawOf (m * n) a))
def worthsOf (n a p : Int) : List Int := (rangeKs 0 p.toNat).map fun x => mat (mreduce (lawOf n a) p) x p
def wholeOf (a p : Int) : Int := if a = 0 then p - 1 else p * p - 1
def backsOf (n w : Int) : List Int := (rangeKs 1 (w - 1).toNat).filter fun k => (k * n).fmod w = 1
def otherOf (a p u : Int) : Int := (a * u ^ (p - 2).toNat).fmod p
def lowOf (n p : Int) : Int := (p - 1).fdiv (shared n (p - 1))
def highOf (n p : Int) : Int := (p + 1).fdiv (shared n (p + 1))
def gcdOf (n a p : Int) : Option (List Int) := mgcd 60 (msub (mreduce (lawOf n a) p) [0, 1] p) ([0, p - 1] ++ List.replicate (p - 2).toNat 0 ++ [1]) p
def totalOf (n p : Int) : Int := shared (n + -1) (p + -1) + shared (n + -1) (p + 1) + shared (n + 1) (p + -1) + shared (n + 1) (p + 1)
def chk2 (n a p : Int) : Bool :=
  let ws := worthsOf n a p
  let th := rangeKs 0 p.toNat
  ((rangeKs 1 (p - 1).toNat).all fun u => decide (ws.getD ((u + otherOf a p u).fmod p).toNat 0 = (u ^ n.toNat + otherOf a p u ^ n.toNat).fmod p)) &&
  (decide (shared n (wholeOf a p) = 1) == decide (isort ws = th)) &&
  (!decide (shared n (wholeOf a p) = 1) || match backsOf n (wholeOf a p) with
    | b :: _ => decide (ws.map (fun x => worth b (a ^ n.toNat) x p) = th)
    | [] => false) &&
  (!decide (a = 1) || (decide (((th.filter fun x => decide (x ∈ ws)).length : Int) = (lowOf n p + 2).fdiv 2 + (highOf n p + 2).fdiv 2 - 1 - (if (lowOf n p).fmod 2 = 0 ∧ (highOf n p).fmod 2 = 0 then 1 else 0)) &&
    match gcdOf n a p with
    | some g => decide ((g.length : Int) - 1 = ((th.filter fun x => decide (ws.getD x.toNat 0 = x)).length : Int)) && decide (2 * ((g.length : Int) - 1) = totalOf n p - 2 * (1 + n.fmod 2))
    | none => false))
end Mine
-- St0
namespace Mine
variable {w : World} {mean : ExcName → Option Value} {mg mb : Str → Option Value}
def bodyOf (n : Nat) : List Stmt := match PySem.Challenge.pw_xm0118_01.main.body[n]? with
  | some (.FunctionDef _ _ b _ _ _ _ _ _ _) => b
  | _ => []
def scopeOf (n : Nat) : Scope := match PySem.Challenge.pw_xm0118_01.main.body[n]? with
  | some (.FunctionDef _ _ _ _ _ _ s _ _ _) => s
  | _ => default
theorem worthsOf_length (n a p : Int) : (worthsOf n a p).length = p.toNat := by rw [worthsOf, List.length_map, rangeKs_length]
end Mine
-- StA
namespace Mine
theorem top_off_StA : True := by
  w_top off
  exact trivial
variable {w : World} {mean : ExcName → Option Value} {mg mb : Str → Option Value}
theorem set_StA_1 : True := by
  (k_with_none)
  (k_with "room" => ((try dsimp only [Ar]); first | exact rm0 (by assumption) (by decide) | exact rm (by assumption) (by decide) | omega))
  (k_with "CallL" => (k_whole; intro l' ws' c' h' tk' F' N' l1 hraw hI'; clear l1; (try k_sweep)))
  (k_with "CallI" => (k_whole; intro t' h' tk' F' N'; (try k_sweep)))
  (k_with "ktn_step" => repeat' (first | (k_unfold; (try dsimp only)) | (k_end; wrow_close) | (walk1; (try dsimp only)) | (dsimp only; walk1) | (leave1; try dsimp only) | fail "no step"))
  (k_with "ktn_open" => (repeat (first | assumption | refine (if_neg (by decide)).trans ?_)))
  (k_with "tb_start" => first | exact IsInts.news (by k_asm) (by k_mem) (by first | with_reducible assumption | exact IntsAre.nil | exact IntsAre.cons _ _ .nil | exact IntsAre.cons _ _ (IntsAre.cons _ _ .nil)) | exact IsInts.base (by k_asm) (by assumption) (by with_reducible assumption) | (refine And.intro ?_ ?_ <;> tb_start) | exact trivial)
  (k_with "tb_rel" => first | omega | assumption | ((simp only [List.length_map, rangeKs_length, List.length_take, List.length_cons, List.length_nil, List.length_replicate]); first | omega | (split <;> omega)))
  (k_with "k_ne" => ((try dsimp only); first | exact ne_raw (by assumption) (by k_mem) | exact Ne.symm (ne_raw (by assumption) (by k_mem)) | fail "k_ne"))
  (k_with "FinE" => ((unfold LCg.FinE); intro D' h' tk' F' N' o1'; (replace o1' := off1_raw o1'); (try simp only [List.nil_append, List.cons_append] at N'); (try dsimp only)))
  (k_with "CompSrc" => (k_here; k_dflt (first
  | (refine LCg.CompSrc.range (by rfl) (by k_asm) (by k_asm) (by assumption) (by exact small_one (by omega) (by omega) (by omega) (by omega)) (by exact rangeSize_nat _ _) (by rw [PySem.sizeLine_eq]; omega) ?_; intro g'; (refine' kcf_range _ (fun k' t' I' oI' C' oC' D' m' ys' h' tk' E' hlo' hhi' hC' hx' F' N' off' ne' hMark' => ?_) ?_); (all_goals (try clear ne')); kcf_last)
  | (refine LCg.CompSrc.ledger (by rfl) (by k_asm) (by k_asm) (by k_mem) (by kcf_size) ?_; intro g'; (refine' kcf_list _ (by assumption) (fun k' t' I' oI' C' oC' D' m' ys' h' tk' E' hk' hC' hx' F' N' off' ne' hMark' => ?_) ?_); (all_goals (try clear ne')); kcf_last))))
  (k_with "CompSrcT" => (k_here; k_dflt (first
  | (refine LCt.CompSrcT.range (by rfl) (by k_asm) (by k_asm) (by assumption) (by exact small_one (by omega) (by omega) (by omega) (by omega)) (by exact rangeSize_nat _ _) (by rw [PySem.sizeLine_eq]; omega) ?_; intro g'; (refine' kci_range _ (fun k' t' I' oI' C' oC' D' m' ys' l' h' tk' E' hlo' hhi' hI' hC' hx' F' N' off' ne' => ?_) ?_ ?_); (all_goals (try clear ne')); (all_goals (try ((show KPfMark → _); intro hMark'))); kcf_last)
  | (refine LCt.CompSrcT.ledger (by rfl) (by k_asm) (by k_asm) (by k_mem) (by kcf_size) ?_; intro g'; (refine' kci_list _ (by assumption) (fun k' t' I' oI' C' oC' D' m' ys' l' h' tk' E' hk' hI' hC' hx' F' N' off' ne' => ?_) ?_ ?_); (all_goals (try clear ne')); (all_goals (try (have hb9' := rk_mem hk'))); (all_goals (try ((show KPfMark → _); intro hMark'))); kcf_last))))
  (k_with "CompEnd" => (refine' compEnd (by assumption) (by assumption) (by assumption) (fun q hq => by repeat (first | exact hq | refine List.mem_cons_of_mem _ ?_)) (by first | exact True.intro | lcg_src) ?_))
  (k_with "tb_rel" => first | omega | assumption | (constructor <;> omega))
  (k_with "execs cons" => (k_here; (with_reducible show wpAny _ _ (execs (PySem.Stmt.For _ _ _ _ _ :: _) _) _ _ _); refine hold ?_))
  (k_with "call ref" => (k_here; (with_reducible show wpAny _ _ (call (Value.ref 163) [Value.int _ _, Value.int _ _]) _ _ _); refine' useL ?_ (C := lawof_tells _ _ _ _ (by tb_rel) (by tb_rel)); k_extra "CallL"))
  (k_with "call ref" => (k_here; (with_reducible show wpAny _ _ (call (Value.ref 57) [Value.ref _, Value.ref _]) _ _ _); refine' useL ?_ (C := zcompose_tells _ _ _ _ _ (by tb_rel) (by tb_rel)); k_extra "CallL"))
  (k_with "call ref" => (k_here; (with_reducible show wpAny _ _ (call (Value.ref 83) [Value.ref _, Value.int _ _]) _ _ _); refine' useL ?_ (C := mreduce_tells _ _ _ _ (by tb_rel) (by tb_rel)); k_extra "CallL"))
  (k_with "call ref" => (k_here; (with_reducible show wpAny _ _ (call (Value.ref 142) [Value.ref _, Value.int _ _, Value.int _ _]) _ _ _); refine' useI ?_ (C := mat_tells _ _ _ _ _ _ (by tb_rel) (by tb_rel) (by tb_rel)); k_extra "CallI"))
  exact trivial
variable {h₀ : Heap} {L fa : Addr} {cd : Value} {m₀ : Str → Option Value} {dp un : Nat} {gd : Option (List Code)} {fr : Option (List Env)} {s : Shared} {Q : Flow → Shared → Prop} {n a p m : Int} {tn ta tp tm : Tok} {o1 o2 o3 o4 o5 o6 o7 : Obj} {b : List Stmt} {sc : Scope}
theorem stageA (hb : b = (bodyOf 30).drop 3) (hsc : sc = scopeOf 30) (X : (hd.heap_39 w.params).In h₀) (T : Top hd.view_39 (looseW hd.view_39 []) mean mg mb h₀) (hdp : dp + 30 < recursionLimit) (hun : un + 100 < cLine)
    (F : Fr h₀ L s.heap m₀) (N : News h₀ L s.heap [(L + 1 + 1 + 1 + 1 + 1 + 1 + 1, o7), (L + 1 + 1 + 1 + 1 + 1 + 1, o6), (L + 1 + 1 + 1 + 1 + 1, o5), (L + 1 + 1 + 1 + 1, o4), (L + 1 + 1 + 1, o3), (L + 1 + 1, o2), (L + 1, o1)])
    (d1 : o1.data = .cell (some (.int n tn))) (d2 : o2.data = .cell (some (.int a ta))) (d3 : o3.data = .cell (some (.int p tp))) (d4 : o4.data = .cell none) (d5 : o5.data = .cell none) (d6 : o6.data = .cell none) (d7 : o7.data = .cell none)
    (hm : m₀ "m" = some (.int m tm)) (hn : 1 ≤ n ∧ n ≤ 8) (ha : -2 ≤ a ∧ a ≤ 2) (hp : 3 ≤ p ∧ p ≤ 7) (hmm : 1 ≤ m ∧ m ≤ 3)
    (hpw : -100000 < a ^ n.toNat ∧ a ^ n.toNat < 100000) (htl : (lawOf n a).length < 1000) (hcomp : compose (lawOf m (a ^ n.toNat)) (lawOf n a) = some (lawOf (m * n) a)) (hmn : m * n < 1000 ∧ 0 < m * n)
    (next : ∀ (b9 : List Stmt) (h9 : Heap) (tk9 : Nat) (m9 : Str → Option Value) (Dth : Addr) (wth : List Value) (cth : Nat) (Dw : Addr) (ww : List Value) (cw : Nat) (Db : Addr) (wb : List Value) (cb : Nat) (o4x o5x : Obj), b9 = (bodyOf 30).drop 7 → Fr h₀ L h9 m9 → News h₀ L h9 [(Dth, listOf (List.toArray wth) cth), (Dw, listOf (List.toArray ww) cw), (Db, listOf (List.toArray wb) cb), (L + 1 + 1 + 1 + 1 + 1 + 1 + 1, o7), (L + 1 + 1 + 1 + 1 + 1 + 1, o6), (L + 1 + 1 + 1 + 1 + 1, o5x), (L + 1 + 1 + 1 + 1, o4x), (L + 1 + 1 + 1, o3), (L + 1 + 1, o2), (L + 1, o1)] → o4x.data = .cell (some (.ref Db)) → o5x.data = .cell (some (.ref Dw)) → m9 "things" = some (.ref Dth) → IntsAre wth (rangeKs 0 p.toNat) → IntsAre ww (worthsOf n a p) → IntsAre wb (mreduce (lawOf n a) p) → (∀ q ∈ [(L + 1 + 1 + 1 + 1 + 1 + 1 + 1, o7), (L + 1 + 1 + 1 + 1 + 1 + 1, o6), (L + 1 + 1 + 1 + 1 + 1, o5x), (L + 1 + 1 + 1 + 1, o4x), (L + 1 + 1 + 1, o3), (L + 1 + 1, o2), (L + 1, o1)], q.1 ≠ Dth) → (∀ q ∈ [(L + 1 + 1 + 1 + 1 + 1 + 1 + 1, o7), (L + 1 + 1 + 1 + 1 + 1 + 1, o6), (L + 1 + 1 + 1 + 1 + 1, o5x), (L + 1 + 1 + 1 + 1, o4x), (L + 1 + 1 + 1, o3), (L + 1 + 1, o2), (L + 1, o1)], q.1 ≠ Dw) → (∀ q ∈ [(L + 1 + 1 + 1 + 1 + 1 + 1 + 1, o7), (L + 1 + 1 + 1 + 1 + 1 + 1, o6), (L + 1 + 1 + 1 + 1 + 1, o5x), (L + 1 + 1 + 1 + 1, o4x), (L + 1 + 1 + 1, o3), (L + 1 + 1, o2), (L + 1, o1)], q.1 ≠ Db) → wpAny (model PySem.Challenge.rw_xm0118_01.row.prog w) ((Ar dp un gd fr).deeper (envOfC (Str.ofString "law") sc L fa cd)) (execs b9 (envOfC (Str.ofString "law") sc L fa cd)) Q (fun _ _ => False) { s with heap := h9, toks := tk9 }) :
    wpAny (model PySem.Challenge.rw_xm0118_01.row.prog w) ((Ar dp un gd fr).deeper (envOfC (Str.ofString "law") sc L fa cd)) (execs b (envOfC (Str.ofString "law") sc L fa cd)) Q (fun _ _ => False) s := by
  conv at hb => rhs; whnf
  conv at hsc => rhs; whnf
  subst hb
  subst hsc
  replace F := frv F hm
  have hl1 : (lawOf n a).length < 2 ^ 20 := by omega
  have hl2 : (mreduce (lawOf n a) p).length < 2 ^ 20 := Nat.lt_of_le_of_lt (mreduce_length_le _ _) hl1
  have hp2 : 0 < p ∧ p < 100 := ⟨by omega, by omega⟩
  revert X
  k_fill
  intro X
  (try k_unmd)
  k_steps
  have e0 : (p - 0).toNat = p.toNat := by rw [Int.sub_zero]
  (rename IntsAre _ (mreduce (lawOf n a) p) => iB)
  (rename IntsAre _ (List.map _ (rangeKs 0 (p - 0).toNat)) => iW)
  (rename IntsAre _ (rangeKs 0 (p - 0).toNat) => iT)
  rw [e0] at iW iT
  (with_reducible rename Fr _ _ _ _ => F9)
  (with_reducible rename News _ _ _ _ => N9)
  (rename Obj.data _ = Data.cell (some (Value.ref _)) => e5)
  revert e5
  (rename Obj.data _ = Data.cell (some (Value.ref _)) => e4)
  intro e5
  refine name_ref F9 "things" rfl fun Dth hD => ?_
  subst hD
  refine' unhold (next _ _ _ _ _ _ _ _ _ _ _ _ _ _ _ rfl F9 (fun q hq => N9 q (SubL.mem ?S q hq)) e4 e5 rfl iT iW iB ?r1 ?r2 ?r3)
  (case S => k_subL)
  (case r1 => (intro q hq; simp only [List.mem_cons, List.not_mem_nil, or_false] at hq; rcases hq with rfl | rfl | rfl | rfl | rfl | rfl | rfl <;> k_ne))
  (case r2 => (intro q hq; simp only [List.mem_cons, List.not_mem_nil, or_false] at hq; rcases hq with rfl | rfl | rfl | rfl | rfl | rfl | rfl <;> k_ne))
  (case r3 => (intro q hq; simp only [List.mem_cons, List.not_mem_nil, or_false] at hq; rcases hq with rfl | rfl | rfl | rfl | rfl | rfl | rfl <;> k_ne))
end Mine
-- StB
namespace Mine
theorem top_off_StB : True := by
  w_top off
  exact trivial
variable {w : World} {mean : ExcName → Option Value} {mg mb : Str → Option Value}
theorem set_StB_1 : True := by
  (k_with_none)
  (k_with "room" => ((try dsimp only [Ar]); first | exact rm0 (by assumption) (by decide) | exact rm (by assumption) (by decide) | omega))
  (k_with "CallL" => (k_whole; intro l' ws' c' h' tk' F' N' l1 hraw hI'; clear l1; (try k_sweep)))
  (k_with "CallI" => (k_whole; intro t' h' tk' F' N'; (try k_sweep)))
  (k_with "ktn_step" => repeat' (first | (k_unfold; (try dsimp only)) | (k_end; wrow_close) | (walk1; (try dsimp only)) | (dsimp only; walk1) | (leave1; try dsimp only) | fail "no step"))
  (k_with "ktn_open" => (repeat (first | assumption | refine (if_neg (by decide)).trans ?_)))
  (k_with "tb_start" => first | exact IsInts.news (by k_asm) (by k_mem) (by first | with_reducible assumption | exact IntsAre.nil | exact IntsAre.cons _ _ .nil | exact IntsAre.cons _ _ (IntsAre.cons _ _ .nil)) | exact IsInts.base (by k_asm) (by assumption) (by with_reducible assumption) | (refine And.intro ?_ ?_ <;> tb_start) | exact trivial)
  (k_with "tb_rel" => first | omega | assumption | ((simp only [List.length_map, rangeKs_length, List.length_take, List.length_cons, List.length_nil, List.length_replicate]); first | omega | (split <;> omega)))
  (k_with "k_ne" => ((try dsimp only); first | exact ne_raw (by assumption) (by k_mem) | exact Ne.symm (ne_raw (by assumption) (by k_mem)) | fail "k_ne"))
  (k_with "FinE" => ((unfold LCg.FinE); intro D' h' tk' F' N' o1'; (replace o1' := off1_raw o1'); (try simp only [List.nil_append, List.cons_append] at N'); (try dsimp only)))
  (k_with "CompSrc" => (k_here; k_dflt (first
  | (refine LCg.CompSrc.range (by rfl) (by k_asm) (by k_asm) (by assumption) (by exact small_one (by omega) (by omega) (by omega) (by omega)) (by exact rangeSize_nat _ _) (by rw [PySem.sizeLine_eq]; omega) ?_; intro g'; (refine' kcf_range _ (fun k' t' I' oI' C' oC' D' m' ys' h' tk' E' hlo' hhi' hC' hx' F' N' off' ne' hMark' => ?_) ?_); (all_goals (try clear ne')); kcf_last)
  | (refine LCg.CompSrc.ledger (by rfl) (by k_asm) (by k_asm) (by k_mem) (by kcf_size) ?_; intro g'; (refine' kcf_list _ (by assumption) (fun k' t' I' oI' C' oC' D' m' ys' h' tk' E' hk' hC' hx' F' N' off' ne' hMark' => ?_) ?_); (all_goals (try clear ne')); kcf_last))))
  (k_with "CompSrcT" => (k_here; k_dflt (first
  | (refine LCt.CompSrcT.range (by rfl) (by k_asm) (by k_asm) (by assumption) (by exact small_one (by omega) (by omega) (by omega) (by omega)) (by exact rangeSize_nat _ _) (by rw [PySem.sizeLine_eq]; omega) ?_; intro g'; (refine' kci_range _ (fun k' t' I' oI' C' oC' D' m' ys' l' h' tk' E' hlo' hhi' hI' hC' hx' F' N' off' ne' => ?_) ?_ ?_); (all_goals (try clear ne')); (all_goals (try ((show KPfMark → _); intro hMark'))); kcf_last)
  | (refine LCt.CompSrcT.ledger (by rfl) (by k_asm) (by k_asm) (by k_mem) (by kcf_size) ?_; intro g'; (refine' kci_list _ (by assumption) (fun k' t' I' oI' C' oC' D' m' ys' l' h' tk' E' hk' hI' hC' hx' F' N' off' ne' => ?_) ?_ ?_); (all_goals (try clear ne')); (all_goals (try (have hb9' := rk_mem hk'))); (all_goals (try ((show KPfMark → _); intro hMark'))); kcf_last))))
  (k_with "CompEnd" => (refine' compEnd (by assumption) (by assumption) (by assumption) (fun q hq => by repeat (first | exact hq | refine List.mem_cons_of_mem _ ?_)) (by first | exact True.intro | lcg_src) ?_))
  (k_with "exec For Name Call cons nil" => (k_here; refine hold ?_))
  (k_with "InvPostN" => (k_here; refine hold ?_))
  (k_with "pyIter ref" => (k_here; (with_reducible show wpAny _ _ (pyIter (Value.ref _)) (fun it s₂ => LoopAtV _ _ _ _ _ _ _ _ _ it s₂) _ _); refine hold ?_))
  exact trivial
variable {h₀ : Heap} {L fa : Addr} {cd : Value} {m₀ : Str → Option Value} {dp un : Nat} {gd : Option (List Code)} {fr : Option (List Env)} {s : Shared} {Q : Flow → Shared → Prop} {n a p m : Int} {tn ta tp tm : Tok} {o1 o2 o3 o4 o5 o6 o7 : Obj} {b : List Stmt} {sc : Scope}
variable {Dth Dw Db : Addr} {wth ww wb : List Value} {cth cw cb : Nat}
theorem stageB (hb : b = (bodyOf 30).drop 7) (hsc : sc = scopeOf 30) (X : (hd.heap_39 w.params).In h₀) (T : Top hd.view_39 (looseW hd.view_39 []) mean mg mb h₀) (hdp : dp + 30 < recursionLimit) (hun : un + 100 < cLine) (F : Fr h₀ L s.heap m₀) (N : News h₀ L s.heap [(Dth, listOf (List.toArray wth) cth), (Dw, listOf (List.toArray ww) cw), (Db, listOf (List.toArray wb) cb), (L + 1 + 1 + 1 + 1 + 1 + 1 + 1, o7), (L + 1 + 1 + 1 + 1 + 1 + 1, o6), (L + 1 + 1 + 1 + 1 + 1, o5), (L + 1 + 1 + 1 + 1, o4), (L + 1 + 1 + 1, o3), (L + 1 + 1, o2), (L + 1, o1)])
    (d1 : o1.data = .cell (some (.int n tn))) (d2 : o2.data = .cell (some (.int a ta))) (d3 : o3.data = .cell (some (.int p tp))) (d4 : o4.data = .cell (some (.ref Db))) (d5 : o5.data = .cell (some (.ref Dw))) (hth : m₀ "things" = some (.ref Dth)) (iT : IntsAre wth (rangeKs 0 p.toNat)) (iW : IntsAre ww (worthsOf n a p)) (iB : IntsAre wb (mreduce (lawOf n a) p))
    (hn : 1 ≤ n ∧ n ≤ 8) (ha : -2 ≤ a ∧ a ≤ 2) (hp : 3 ≤ p ∧ p ≤ 7)
    (hB : ∀ u : Int, 1 ≤ u → u < p → (worthsOf n a p).getD ((u + otherOf a p u).fmod p).toNat 0 = (u ^ n.toNat + otherOf a p u ^ n.toNat).fmod p)
    (next : ∀ (b9 : List Stmt) (h9 : Heap) (tk9 : Nat) (m9 : Str → Option Value), b9 = (bodyOf 30).drop 8 → Fr h₀ L h9 m9 → News h₀ L h9 [(Dth, listOf (List.toArray wth) cth), (Dw, listOf (List.toArray ww) cw), (Db, listOf (List.toArray wb) cb), (L + 1 + 1 + 1 + 1 + 1 + 1 + 1, o7), (L + 1 + 1 + 1 + 1 + 1 + 1, o6), (L + 1 + 1 + 1 + 1 + 1, o5), (L + 1 + 1 + 1 + 1, o4), (L + 1 + 1 + 1, o3), (L + 1 + 1, o2), (L + 1, o1)] → m9 "things" = some (.ref Dth) → wpAny (model PySem.Challenge.rw_xm0118_01.row.prog w) ((Ar dp un gd fr).deeper (envOfC (Str.ofString "law") sc L fa cd)) (execs b9 (envOfC (Str.ofString "law") sc L fa cd)) Q (fun _ _ => False) { s with heap := h9, toks := tk9 }) :
    wpAny (model PySem.Challenge.rw_xm0118_01.row.prog w) ((Ar dp un gd fr).deeper (envOfC (Str.ofString "law") sc L fa cd)) (execs b (envOfC (Str.ofString "law") sc L fa cd)) Q (fun _ _ => False) s := by
  conv at hb => rhs; whnf
  conv at hsc => rhs; whnf
  subst hb
  subst hsc
  replace F := frv F hth
  have hp2 : 0 < p ∧ p < 100 := ⟨by omega, by omega⟩
  revert X
  k_fill
  intro X
  (try k_unmd)
  k_steps
  refine unhold ?_
  (with_reducible rename Fr _ _ _ _ => F)
  refine For_invV h₀ rfl rfl ?_
  k_steps
  refine unhold ?_
  (with_reducible rename Fr _ _ _ _ => F)
  (with_reducible rename News _ _ _ _ => N)
  (with_reducible rename IsRange _ _ _ _ _ _ _ _ => hR)
  refine range_core (fun i m nx => nx = [(Dth, listOf (List.toArray wth) cth), (Dw, listOf (List.toArray ww) cw), (Db, listOf (List.toArray wb) cb), (L + 1 + 1 + 1 + 1 + 1 + 1 + 1, o7), (L + 1 + 1 + 1 + 1 + 1 + 1, o6), (L + 1 + 1 + 1 + 1 + 1, o5), (L + 1 + 1 + 1 + 1, o4), (L + 1 + 1 + 1, o3), (L + 1 + 1, o2), (L + 1, o1)] ∧ m "things" = some (.ref Dth)) rfl hR (small_one (by omega) (by omega) (by omega) (by omega)) (rangeSize_nat _ _) F N ⟨rfl, rfl⟩ ?_ ?_
  · intro i t m₁ news₁ h tk own hin hadr hoff hJ F₁ N₁
    obtain ⟨rfl, hmt⟩ := hJ
    have hu := hB (1 + (i : Int)) (by omega) (by omega)
    rw [show (1 : Int) + (i : Int) * 1 = 1 + i by omega] at F₁
    have hr := fmod_range ((1 + (i : Int)) + otherOf a p (1 + i)) p hp2.1
    have hr2 := fmod_range (a * (1 + (i : Int)) ^ (p - 2).toNat) p hp2.1
    have hwl := worthsOf_length n a p
    unfold otherOf at hu hr
    have F₂ := frv F₁ (x := "things") (by ktn_open)
    clear F₁ F N hadr hoff
    simp only [List.cons_append, List.nil_append] at N₁
    (try k_unmd)
    (try k_fold)
    ktn_step
    · exact absurd hu (by assumption)
    · refine unhold (?_ : InvEndN _ _ _ _ _ _ _)
      exact InvEndN.intro (by assumption) (by assumption) ⟨rfl, rfl⟩ rfl (fun q hq => List.mem_append_left own hq) (fun q hq => List.mem_append_right [(Dth, listOf (List.toArray wth) cth), (Dw, listOf (List.toArray ww) cw), (Db, listOf (List.toArray wb) cb), (L + 1 + 1 + 1 + 1 + 1 + 1 + 1, o7), (L + 1 + 1 + 1 + 1 + 1 + 1, o6), (L + 1 + 1 + 1 + 1 + 1, o5), (L + 1 + 1 + 1 + 1, o4), (L + 1 + 1 + 1, o3), (L + 1 + 1, o2), (L + 1, o1)] hq)
  · intro m₁ news₁ h tk hJ _ F₁ N₁
    obtain ⟨rfl, hmt⟩ := hJ
    clear F N
    (try dsimp only)
    exact next _ _ _ _ rfl F₁ N₁ hmt
end Mine
-- StC
namespace Mine
theorem top_off_StC : True := by
  w_top off
  exact trivial
variable {w : World} {mean : ExcName → Option Value} {mg mb : Str → Option Value}
theorem set_StC_1 : True := by
  (k_with_none)
  (k_with "room" => ((try dsimp only [Ar]); first | exact rm0 (by assumption) (by decide) | exact rm (by assumption) (by decide) | omega))
  (k_with "CallL" => (k_whole; intro l' ws' c' h' tk' F' N' l1 hraw hI'; clear l1; (try k_sweep)))
  (k_with "CallI" => (k_whole; intro t' h' tk' F' N'; (try k_sweep)))
  (k_with "ktn_step" => repeat' (first | (k_unfold; (try dsimp only)) | (k_end; wrow_close) | (walk1; (try dsimp only)) | (dsimp only; walk1) | (leave1; try dsimp only) | fail "no step"))
  (k_with "ktn_open" => (repeat (first | assumption | refine (if_neg (by decide)).trans ?_)))
  (k_with "tb_start" => first | exact IsInts.news (by k_asm) (by k_mem) (by first | with_reducible assumption | exact IntsAre.nil | exact IntsAre.cons _ _ .nil | exact IntsAre.cons _ _ (IntsAre.cons _ _ .nil)) | exact IsInts.base (by k_asm) (by assumption) (by with_reducible assumption) | (refine And.intro ?_ ?_ <;> tb_start) | exact trivial)
  (k_with "tb_rel" => first | omega | assumption | ((simp only [List.length_map, rangeKs_length, List.length_take, List.length_cons, List.length_nil, List.length_replicate]); first | omega | (split <;> omega)))
  (k_with "k_ne" => ((try dsimp only); first | exact ne_raw (by assumption) (by k_mem) | exact Ne.symm (ne_raw (by assumption) (by k_mem)) | fail "k_ne"))
  (k_with "FinE" => ((unfold LCg.FinE); intro D' h' tk' F' N' o1'; (replace o1' := off1_raw o1'); (try simp only [List.nil_append, List.cons_append] at N'); (try dsimp only)))
  (k_with "CompSrc" => (k_here; k_dflt (first
  | (refine LCg.CompSrc.range (by rfl) (by k_asm) (by k_asm) (by assumption) (by exact small_one (by omega) (by omega) (by omega) (by omega)) (by exact rangeSize_nat _ _) (by rw [PySem.sizeLine_eq]; omega) ?_; intro g'; (refine' kcf_range _ (fun k' t' I' oI' C' oC' D' m' ys' h' tk' E' hlo' hhi' hC' hx' F' N' off' ne' hMark' => ?_) ?_); (all_goals (try clear ne')); kcf_last)
  | (refine LCg.CompSrc.ledger (by rfl) (by k_asm) (by k_asm) (by k_mem) (by kcf_size) ?_; intro g'; (refine' kcf_list _ (by assumption) (fun k' t' I' oI' C' oC' D' m' ys' h' tk' E' hk' hC' hx' F' N' off' ne' hMark' => ?_) ?_); (all_goals (try clear ne')); kcf_last))))
  (k_with "CompSrcT" => (k_here; k_dflt (first
  | (refine LCt.CompSrcT.range (by rfl) (by k_asm) (by k_asm) (by assumption) (by exact small_one (by omega) (by omega) (by omega) (by omega)) (by exact rangeSize_nat _ _) (by rw [PySem.sizeLine_eq]; omega) ?_; intro g'; (refine' kci_range _ (fun k' t' I' oI' C' oC' D' m' ys' l' h' tk' E' hlo' hhi' hI' hC' hx' F' N' off' ne' => ?_) ?_ ?_); (all_goals (try clear ne')); (all_goals (try ((show KPfMark → _); intro hMark'))); kcf_last)
  | (refine LCt.CompSrcT.ledger (by rfl) (by k_asm) (by k_asm) (by k_mem) (by kcf_size) ?_; intro g'; (refine' kci_list _ (by assumption) (fun k' t' I' oI' C' oC' D' m' ys' l' h' tk' E' hk' hI' hC' hx' F' N' off' ne' => ?_) ?_ ?_); (all_goals (try clear ne')); (all_goals (try (have hb9' := rk_mem hk'))); (all_goals (try ((show KPfMark → _); intro hMark'))); kcf_last))))
  (k_with "CompEnd" => (refine' compEnd (by assumption) (by assumption) (by assumption) (fun q hq => by repeat (first | exact hq | refine List.mem_cons_of_mem _ ?_)) (by first | exact True.intro | lcg_src) ?_))
  (k_with "execs cons" => (k_here; (with_reducible show wpAny _ _ (execs (PySem.Stmt.If (PySem.Expr.Name _ _) _ _ _ :: _) _) _ _ _); refine hold ?_))
  (k_with "tb_rel" => first | omega | assumption | (constructor <;> omega))
  exact trivial
theorem insI_perm (x : Int) : ∀ l : List Int, (insI x l).Perm (x :: l)
  | [] => .refl _
  | y :: ys => by
    unfold insI
    split
    · exact .refl _
    · exact ((insI_perm x ys).cons y).trans (.swap x y ys)
theorem isort_perm : ∀ l : List Int, (isort l).Perm l
  | [] => .refl _
  | x :: xs => (insI_perm x (isort xs)).trans ((isort_perm xs).cons x)
theorem insI_mem {x y : Int} {l : List Int} (h : y ∈ insI x l) : y = x ∨ y ∈ l := by
  have := (insI_perm x l).mem_iff.mp h
  exact List.mem_cons.mp this
theorem insI_sorted (x : Int) : ∀ l : List Int, l.Pairwise (· ≤ ·) → (insI x l).Pairwise (· ≤ ·)
  | [], _ => by simp [insI]
  | y :: ys, h => by
    unfold insI
    rw [List.pairwise_cons] at h
    split
    · rename_i c
      refine List.pairwise_cons.mpr ⟨fun z hz => ?_, List.pairwise_cons.mpr h⟩
      rcases List.mem_cons.mp hz with rfl | hz
      · exact c
      · exact Int.le_trans c (h.1 z hz)
    · rename_i c
      refine List.pairwise_cons.mpr ⟨fun z hz => ?_, insI_sorted x ys h.2⟩
      rcases insI_mem hz with rfl | hz
      · omega
      · exact h.1 z hz
theorem isort_sorted : ∀ l : List Int, (isort l).Pairwise (· ≤ ·)
  | [] => List.Pairwise.nil
  | x :: xs => insI_sorted x _ (isort_sorted xs)
theorem sorted_is {l l' : List Int} (p : l'.Perm l) (h : l'.Pairwise (· ≤ ·)) : l' = isort l :=
  (p.trans (isort_perm l).symm).eq_of_pairwise (fun _ _ _ _ a b => Int.le_antisymm a b) h (isort_sorted l)
theorem once_same {x : Int} {l l' th : List Int} (hC : x = 1 ↔ isort l = th) (p : l'.Perm l) (h : l'.Pairwise (· ≤ ·)) : ((x == 1) != decide (l' = th)) = false := by
  rw [sorted_is p h]
  by_cases c : x = 1
  · have := hC.mp c
    simp [c, this]
  · have : ¬ isort l = th := fun e => c (hC.mpr e)
    simp [c, this]
theorem set_StC_2 : True := by
  (k_with "call ref" => (k_here; (with_reducible show wpAny _ _ (call (Value.ref 175) [Value.int _ _, Value.int _ _]) _ _ _); refine' useI ?_ (C := shared_tells _ _ _ _ (by tb_rel) (by tb_rel)); k_extra "CallI"))
  exact trivial
variable {h₀ : Heap} {L fa : Addr} {cd : Value} {m₀ : Str → Option Value} {dp un : Nat} {gd : Option (List Code)} {fr : Option (List Env)} {s : Shared} {Q : Flow → Shared → Prop} {n a p m : Int} {tn ta tp tm : Tok} {o1 o2 o3 o4 o5 o6 o7 : Obj} {b : List Stmt} {sc : Scope}
variable {Dth Dw Db : Addr} {wth ww wb : List Value} {cth cw cb : Nat}
theorem stageC (hb : b = (bodyOf 30).drop 8) (hsc : sc = scopeOf 30) (X : (hd.heap_39 w.params).In h₀) (T : Top hd.view_39 (looseW hd.view_39 []) mean mg mb h₀) (hdp : dp + 30 < recursionLimit) (hun : un + 100 < cLine) (F : Fr h₀ L s.heap m₀) (N : News h₀ L s.heap [(Dth, listOf (List.toArray wth) cth), (Dw, listOf (List.toArray ww) cw), (Db, listOf (List.toArray wb) cb), (L + 1 + 1 + 1 + 1 + 1 + 1 + 1, o7), (L + 1 + 1 + 1 + 1 + 1 + 1, o6), (L + 1 + 1 + 1 + 1 + 1, o5), (L + 1 + 1 + 1 + 1, o4), (L + 1 + 1 + 1, o3), (L + 1 + 1, o2), (L + 1, o1)])
    (d1 : o1.data = .cell (some (.int n tn))) (d2 : o2.data = .cell (some (.int a ta))) (d3 : o3.data = .cell (some (.int p tp))) (d4 : o4.data = .cell (some (.ref Db))) (d5 : o5.data = .cell (some (.ref Dw))) (hth : m₀ "things" = some (.ref Dth)) (iT : IntsAre wth (rangeKs 0 p.toNat)) (iW : IntsAre ww (worthsOf n a p)) (iB : IntsAre wb (mreduce (lawOf n a) p))
    (hn : 1 ≤ n ∧ n ≤ 8) (ha : -2 ≤ a ∧ a ≤ 2) (hp : 3 ≤ p ∧ p ≤ 7) (r1 : (∀ q ∈ [(L + 1 + 1 + 1 + 1 + 1 + 1 + 1, o7), (L + 1 + 1 + 1 + 1 + 1 + 1, o6), (L + 1 + 1 + 1 + 1 + 1, o5), (L + 1 + 1 + 1 + 1, o4), (L + 1 + 1 + 1, o3), (L + 1 + 1, o2), (L + 1, o1)], q.1 ≠ Dth)) (r2 : (∀ q ∈ [(L + 1 + 1 + 1 + 1 + 1 + 1 + 1, o7), (L + 1 + 1 + 1 + 1 + 1 + 1, o6), (L + 1 + 1 + 1 + 1 + 1, o5), (L + 1 + 1 + 1 + 1, o4), (L + 1 + 1 + 1, o3), (L + 1 + 1, o2), (L + 1, o1)], q.1 ≠ Dw)) (r3 : (∀ q ∈ [(L + 1 + 1 + 1 + 1 + 1 + 1 + 1, o7), (L + 1 + 1 + 1 + 1 + 1 + 1, o6), (L + 1 + 1 + 1 + 1 + 1, o5), (L + 1 + 1 + 1 + 1, o4), (L + 1 + 1 + 1, o3), (L + 1 + 1, o2), (L + 1, o1)], q.1 ≠ Db))
    (d6 : o6.data = .cell none) (d7 : o7.data = .cell none)
    (hC : shared n (wholeOf a p) = 1 ↔ isort (worthsOf n a p) = rangeKs 0 p.toNat)
    (next : ∀ (b9 : List Stmt) (h9 : Heap) (tk9 : Nat) (m9 : Str → Option Value) (o6x : Obj) (t6 : Tok), b9 = (bodyOf 30).drop 11 → Fr h₀ L h9 m9 → News h₀ L h9 [(Dth, listOf (List.toArray wth) cth), (Dw, listOf (List.toArray ww) cw), (Db, listOf (List.toArray wb) cb), (L + 1 + 1 + 1 + 1 + 1 + 1 + 1, o7), (L + 1 + 1 + 1 + 1 + 1 + 1, o6x), (L + 1 + 1 + 1 + 1 + 1, o5), (L + 1 + 1 + 1 + 1, o4), (L + 1 + 1 + 1, o3), (L + 1 + 1, o2), (L + 1, o1)] → o6x.data = .cell (some (.int (wholeOf a p) t6)) → m9 "things" = some (.ref Dth) → m9 "is_once" = some (.bool (shared n (wholeOf a p) == 1)) → wpAny (model PySem.Challenge.rw_xm0118_01.row.prog w) ((Ar dp un gd fr).deeper (envOfC (Str.ofString "law") sc L fa cd)) (execs b9 (envOfC (Str.ofString "law") sc L fa cd)) Q (fun _ _ => False) { s with heap := h9, toks := tk9 }) :
    wpAny (model PySem.Challenge.rw_xm0118_01.row.prog w) ((Ar dp un gd fr).deeper (envOfC (Str.ofString "law") sc L fa cd)) (execs b (envOfC (Str.ofString "law") sc L fa cd)) Q (fun _ _ => False) s := by
  conv at hb => rhs; whnf
  conv at hsc => rhs; whnf
  subst hb
  subst hsc
  replace F := frv F hth
  have hp2 : 0 < p ∧ p < 100 := ⟨by omega, by omega⟩
  have hpp : 9 ≤ p * p ∧ p * p ≤ 49 := ⟨Int.le_trans (by decide : (9 : Int) ≤ 3 * 3) (Int.mul_le_mul hp.1 hp.1 (by decide) (by omega)), Int.le_trans (Int.mul_le_mul hp.2 hp.2 (by omega) (by decide)) (by decide)⟩
  have hwl := worthsOf_length n a p
  revert X
  k_fill
  intro X
  (try k_unmd)
  ktn_step
  all_goals (with_reducible rename Fr _ _ _ _ => F9)
  all_goals (with_reducible rename News _ _ _ _ => N9)
  all_goals (rename List.Perm _ _ => hP9)
  all_goals (rename List.Pairwise _ _ => hS9)
  all_goals (rename Obj.data _ = Data.cell (some (Value.int _ _)) => e6)
  · have hw : wholeOf a p = p - 1 := if_pos (by assumption)
    rw [hw] at hC
    exact absurd (once_same hC hP9 hS9) (by rw [Bool.not_eq_false]; assumption)
  · have hw : wholeOf a p = p - 1 := if_pos (by assumption)
    rw [← hw] at e6 F9
    refine' unhold (next _ _ _ _ _ _ rfl F9 (fun q hq => N9 q (SubL.mem ?S q hq)) e6 rfl rfl)
    (case S => k_subL)
  · have hw : wholeOf a p = p * p - 1 := if_neg (by assumption)
    rw [hw] at hC
    exact absurd (once_same hC hP9 hS9) (by rw [Bool.not_eq_false]; assumption)
  · have hw : wholeOf a p = p * p - 1 := if_neg (by assumption)
    rw [← hw] at e6 F9
    refine' unhold (next _ _ _ _ _ _ rfl F9 (fun q hq => N9 q (SubL.mem ?S q hq)) e6 rfl rfl)
    (case S => k_subL)
end Mine
-- StD
namespace Mine
theorem top_off_StD : True := by
  w_top off
  exact trivial
variable {w : World} {mean : ExcName → Option Value} {mg mb : Str → Option Value}
theorem set_StD_1 : True := by
  (k_with_none)
  (k_with "room" => ((try dsimp only [Ar]); first | exact rm0 (by assumption) (by decide) | exact rm (by assumption) (by decide) | omega))
  (k_with "CallL" => (k_whole; intro l' ws' c' h' tk' F' N' l1 hraw hI'; clear l1; (try k_sweep)))
  (k_with "CallI" => (k_whole; intro t' h' tk' F' N'; (try k_sweep)))
  (k_with "ktn_step" => repeat' (first | (k_unfold; (try dsimp only)) | (k_end; wrow_close) | (walk1; (try dsimp only)) | (dsimp only; walk1) | (leave1; try dsimp only) | fail "no step"))
  (k_with "ktn_open" => (repeat (first | assumption | refine (if_neg (by decide)).trans ?_)))
  (k_with "tb_start" => first | exact IsInts.news (by k_asm) (by k_mem) (by first | with_reducible assumption | exact IntsAre.nil | exact IntsAre.cons _ _ .nil | exact IntsAre.cons _ _ (IntsAre.cons _ _ .nil)) | exact IsInts.base (by k_asm) (by assumption) (by with_reducible assumption) | (refine And.intro ?_ ?_ <;> tb_start) | exact trivial)
  (k_with "tb_rel" => first | omega | assumption | ((simp only [List.length_map, rangeKs_length, List.length_take, List.length_cons, List.length_nil, List.length_replicate]); first | omega | (split <;> omega)))
  (k_with "k_ne" => ((try dsimp only); first | exact ne_raw (by assumption) (by k_mem) | exact Ne.symm (ne_raw (by assumption) (by k_mem)) | fail "k_ne"))
  (k_with "FinE" => ((unfold LCg.FinE); intro D' h' tk' F' N' o1'; (replace o1' := off1_raw o1'); (try simp only [List.nil_append, List.cons_append] at N'); (try dsimp only)))
  (k_with "CompSrc" => (k_here; k_dflt (first
  | (refine LCg.CompSrc.range (by rfl) (by k_asm) (by k_asm) (by assumption) (by exact small_one (by omega) (by omega) (by omega) (by omega)) (by exact rangeSize_nat _ _) (by rw [PySem.sizeLine_eq]; omega) ?_; intro g'; (refine' kcf_range _ (fun k' t' I' oI' C' oC' D' m' ys' h' tk' E' hlo' hhi' hC' hx' F' N' off' ne' hMark' => ?_) ?_); (all_goals (try clear ne')); kcf_last)
  | (refine LCg.CompSrc.ledger (by rfl) (by k_asm) (by k_asm) (by k_mem) (by kcf_size) ?_; intro g'; (refine' kcf_list _ (by assumption) (fun k' t' I' oI' C' oC' D' m' ys' h' tk' E' hk' hC' hx' F' N' off' ne' hMark' => ?_) ?_); (all_goals (try clear ne')); kcf_last))))
  (k_with "CompSrcT" => (k_here; k_dflt (first
  | (refine LCt.CompSrcT.range (by rfl) (by k_asm) (by k_asm) (by assumption) (by exact small_one (by omega) (by omega) (by omega) (by omega)) (by exact rangeSize_nat _ _) (by rw [PySem.sizeLine_eq]; omega) ?_; intro g'; (refine' kci_range _ (fun k' t' I' oI' C' oC' D' m' ys' l' h' tk' E' hlo' hhi' hI' hC' hx' F' N' off' ne' => ?_) ?_ ?_); (all_goals (try clear ne')); (all_goals (try ((show KPfMark → _); intro hMark'))); kcf_last)
  | (refine LCt.CompSrcT.ledger (by rfl) (by k_asm) (by k_asm) (by k_mem) (by kcf_size) ?_; intro g'; (refine' kci_list _ (by assumption) (fun k' t' I' oI' C' oC' D' m' ys' l' h' tk' E' hk' hI' hC' hx' F' N' off' ne' => ?_) ?_ ?_); (all_goals (try clear ne')); (all_goals (try (have hb9' := rk_mem hk'))); (all_goals (try ((show KPfMark → _); intro hMark'))); kcf_last))))
  (k_with "CompEnd" => (refine' compEnd (by assumption) (by assumption) (by assumption) (fun q hq => by repeat (first | exact hq | refine List.mem_cons_of_mem _ ?_)) (by first | exact True.intro | lcg_src) ?_))
  (k_with "execs cons" => (k_here; (with_reducible show wpAny _ _ (execs (PySem.Stmt.If (PySem.Expr.Compare (PySem.Expr.Name _ _) _ _ _) _ _ _ :: _) _) _ _ _); refine hold ?_))
  (k_with "tb_rel" => first | omega | assumption | (constructor <;> omega))
  exact trivial
theorem mem_bound {l : List Int} {x : Int} (h : ∀ y ∈ l, -2 ^ 62 < y ∧ y < 2 ^ 62) (hx : x ∈ l) : -2 ^ 62 < x ∧ x < 2 ^ 62 := h x hx
theorem set_StD_2 : True := by
  (k_with "tb_rel" => first | omega | assumption | exact mem_bound (by assumption) (by assumption) | (constructor <;> omega))
  (k_with "call ref" => (k_here; (with_reducible show wpAny _ _ (call (Value.ref 170) [Value.int _ _, Value.int _ _, Value.int _ _, Value.int _ _]) _ _ _); refine' useI ?_ (C := worth_tells _ _ _ _ _ _ _ _ (by tb_rel) (by tb_rel) (by tb_rel) (by tb_rel)); k_extra "CallI"))
  exact trivial
variable {h₀ : Heap} {L fa : Addr} {cd : Value} {m₀ : Str → Option Value} {dp un : Nat} {gd : Option (List Code)} {fr : Option (List Env)} {s : Shared} {Q : Flow → Shared → Prop} {n a p m : Int} {tn ta tp tm : Tok} {o1 o2 o3 o4 o5 o6 o7 : Obj} {b : List Stmt} {sc : Scope}
variable {Dth Dw Db : Addr} {wth ww wb : List Value} {cth cw cb : Nat}
variable {wv kb : Int} {t6 : Tok}
theorem stageD (hb : b = (bodyOf 30).drop 11) (hsc : sc = scopeOf 30) (X : (hd.heap_39 w.params).In h₀) (T : Top hd.view_39 (looseW hd.view_39 []) mean mg mb h₀) (hdp : dp + 30 < recursionLimit) (hun : un + 100 < cLine) (F : Fr h₀ L s.heap m₀) (N : News h₀ L s.heap [(Dth, listOf (List.toArray wth) cth), (Dw, listOf (List.toArray ww) cw), (Db, listOf (List.toArray wb) cb), (L + 1 + 1 + 1 + 1 + 1 + 1 + 1, o7), (L + 1 + 1 + 1 + 1 + 1 + 1, o6), (L + 1 + 1 + 1 + 1 + 1, o5), (L + 1 + 1 + 1 + 1, o4), (L + 1 + 1 + 1, o3), (L + 1 + 1, o2), (L + 1, o1)])
    (d1 : o1.data = .cell (some (.int n tn))) (d2 : o2.data = .cell (some (.int a ta))) (d3 : o3.data = .cell (some (.int p tp))) (d4 : o4.data = .cell (some (.ref Db))) (d5 : o5.data = .cell (some (.ref Dw))) (hth : m₀ "things" = some (.ref Dth)) (iT : IntsAre wth (rangeKs 0 p.toNat)) (iW : IntsAre ww (worthsOf n a p)) (iB : IntsAre wb (mreduce (lawOf n a) p))
    (hn : 1 ≤ n ∧ n ≤ 8) (ha : -2 ≤ a ∧ a ≤ 2) (hp : 3 ≤ p ∧ p ≤ 7) (r1 : (∀ q ∈ [(L + 1 + 1 + 1 + 1 + 1 + 1 + 1, o7), (L + 1 + 1 + 1 + 1 + 1 + 1, o6), (L + 1 + 1 + 1 + 1 + 1, o5), (L + 1 + 1 + 1 + 1, o4), (L + 1 + 1 + 1, o3), (L + 1 + 1, o2), (L + 1, o1)], q.1 ≠ Dth)) (r2 : (∀ q ∈ [(L + 1 + 1 + 1 + 1 + 1 + 1 + 1, o7), (L + 1 + 1 + 1 + 1 + 1 + 1, o6), (L + 1 + 1 + 1 + 1 + 1, o5), (L + 1 + 1 + 1 + 1, o4), (L + 1 + 1 + 1, o3), (L + 1 + 1, o2), (L + 1, o1)], q.1 ≠ Dw)) (r3 : (∀ q ∈ [(L + 1 + 1 + 1 + 1 + 1 + 1 + 1, o7), (L + 1 + 1 + 1 + 1 + 1 + 1, o6), (L + 1 + 1 + 1 + 1 + 1, o5), (L + 1 + 1 + 1 + 1, o4), (L + 1 + 1 + 1, o3), (L + 1 + 1, o2), (L + 1, o1)], q.1 ≠ Db))
    (d6 : o6.data = .cell (some (.int wv t6))) (d7 : o7.data = .cell none) (hon : m₀ "is_once" = some (.bool (shared n wv == 1))) (hwv : 2 ≤ wv ∧ wv < 49)
    (hD : shared n wv = 1 → 0 < (List.foldl (fun (l' : List Int) (k' : Int) => if (k' * n).fmod wv = 1 then l' ++ [k'] else l') [] (rangeKs 1 (wv - 1).toNat)).length ∧ (0 < (List.foldl (fun (l' : List Int) (k' : Int) => if (k' * n).fmod wv = 1 then l' ++ [k'] else l') [] (rangeKs 1 (wv - 1).toNat)).getD (Int.toNat 0) 0 ∧ (List.foldl (fun (l' : List Int) (k' : Int) => if (k' * n).fmod wv = 1 then l' ++ [k'] else l') [] (rangeKs 1 (wv - 1).toNat)).getD (Int.toNat 0) 0 < 1000) ∧ (worthsOf n a p).map (fun k => worth ((List.foldl (fun (l' : List Int) (k' : Int) => if (k' * n).fmod wv = 1 then l' ++ [k'] else l') [] (rangeKs 1 (wv - 1).toNat)).getD (Int.toNat 0) 0) (a ^ n.toNat) k p) = rangeKs 0 p.toNat)
    (hwr : ∀ x ∈ worthsOf n a p, -2 ^ 62 < x ∧ x < 2 ^ 62) (hpw : -100000 < a ^ n.toNat ∧ a ^ n.toNat < 100000)
    (next : ∀ (b9 : List Stmt) (h9 : Heap) (tk9 : Nat) (m9 : Str → Option Value) (o7x : Obj), b9 = (bodyOf 30).drop 12 → Fr h₀ L h9 m9 → News h₀ L h9 [(Dth, listOf (List.toArray wth) cth), (Dw, listOf (List.toArray ww) cw), (Db, listOf (List.toArray wb) cb), (L + 1 + 1 + 1 + 1 + 1 + 1 + 1, o7x), (L + 1 + 1 + 1 + 1 + 1 + 1, o6), (L + 1 + 1 + 1 + 1 + 1, o5), (L + 1 + 1 + 1 + 1, o4), (L + 1 + 1 + 1, o3), (L + 1 + 1, o2), (L + 1, o1)] → m9 "things" = some (.ref Dth) → wpAny (model PySem.Challenge.rw_xm0118_01.row.prog w) ((Ar dp un gd fr).deeper (envOfC (Str.ofString "law") sc L fa cd)) (execs b9 (envOfC (Str.ofString "law") sc L fa cd)) Q (fun _ _ => False) { s with heap := h9, toks := tk9 }) :
    wpAny (model PySem.Challenge.rw_xm0118_01.row.prog w) ((Ar dp un gd fr).deeper (envOfC (Str.ofString "law") sc L fa cd)) (execs b (envOfC (Str.ofString "law") sc L fa cd)) Q (fun _ _ => False) s := by
  conv at hb => rhs; whnf
  conv at hsc => rhs; whnf
  subst hb
  subst hsc
  replace F := frv F hth
  replace F := frv F (x := "is_once") (by ktn_open)
  have hp2 : 0 < p ∧ p < 100 := ⟨by omega, by omega⟩
  have hwl := worthsOf_length n a p
  revert X
  k_fill
  intro X
  (try k_unmd)
  by_cases hon1 : shared n wv = 1
  · obtain ⟨hl1, hb1, hm1⟩ := hD hon1
    clear hD
    have hpw2 : -2 ^ 62 < a ^ n.toNat ∧ a ^ n.toNat < 2 ^ 62 := ⟨by omega, by omega⟩
    have hbo : (shared n wv == 1) = true := by rw [hon1]; rfl
    rw [hbo] at F hon
    ktn_step
    (with_reducible rename Fr _ _ _ _ => F9)
    (with_reducible rename News _ _ _ _ => N9)
    refine' unhold (next _ _ _ _ _ rfl F9 (fun q hq => N9 q (SubL.mem ?S q hq)) rfl)
    (case S => k_subL)
  · clear hD
    have hbo : (shared n wv == 1) = false := by simpa using hon1
    rw [hbo] at F hon
    ktn_step
    (with_reducible rename Fr _ _ _ _ => F9)
    (with_reducible rename News _ _ _ _ => N9)
    refine' unhold (next _ _ _ _ _ rfl F9 (fun q hq => N9 q (SubL.mem ?S q hq)) rfl)
    (case S => k_subL)
end Mine
-- StE
namespace Mine
theorem top_off_StE : True := by
  w_top off
  exact trivial
variable {w : World} {mean : ExcName → Option Value} {mg mb : Str → Option Value}
theorem set_StE_1 : True := by
  (k_with_none)
  (k_with "room" => ((try dsimp only [Ar]); first | exact rm0 (by assumption) (by decide) | exact rm (by assumption) (by decide) | omega))
  (k_with "CallL" => (k_whole; intro l' ws' c' h' tk' F' N' l1 hraw hI'; clear l1; (try k_sweep)))
  (k_with "CallI" => (k_whole; intro t' h' tk' F' N'; (try k_sweep)))
  (k_with "ktn_step" => repeat' (first | (k_unfold; (try dsimp only)) | (k_end; wrow_close) | (walk1; (try dsimp only)) | (dsimp only; walk1) | (leave1; try dsimp only) | fail "no step"))
  (k_with "ktn_open" => (repeat (first | assumption | refine (if_neg (by decide)).trans ?_)))
  (k_with "tb_start" => first | exact IsInts.news (by k_asm) (by k_mem) (by first | with_reducible assumption | exact IntsAre.nil | exact IntsAre.cons _ _ .nil | exact IntsAre.cons _ _ (IntsAre.cons _ _ .nil)) | exact IsInts.base (by k_asm) (by assumption) (by with_reducible assumption) | (refine And.intro ?_ ?_ <;> tb_start) | exact trivial)
  (k_with "tb_rel" => first | omega | assumption | ((simp only [List.length_map, rangeKs_length, List.length_take, List.length_cons, List.length_nil, List.length_replicate]); first | omega | (split <;> omega)))
  (k_with "k_ne" => ((try dsimp only); first | exact ne_raw (by assumption) (by k_mem) | exact Ne.symm (ne_raw (by assumption) (by k_mem)) | fail "k_ne"))
  (k_with "FinE" => ((unfold LCg.FinE); intro D' h' tk' F' N' o1'; (replace o1' := off1_raw o1'); (try simp only [List.nil_append, List.cons_append] at N'); (try dsimp only)))
  (k_with "CompSrc" => (k_here; k_dflt (first
  | (refine LCg.CompSrc.range (by rfl) (by k_asm) (by k_asm) (by assumption) (by exact small_one (by omega) (by omega) (by omega) (by omega)) (by exact rangeSize_nat _ _) (by rw [PySem.sizeLine_eq]; omega) ?_; intro g'; (refine' kcf_range _ (fun k' t' I' oI' C' oC' D' m' ys' h' tk' E' hlo' hhi' hC' hx' F' N' off' ne' hMark' => ?_) ?_); (all_goals (try clear ne')); kcf_last)
  | (refine LCg.CompSrc.ledger (by rfl) (by k_asm) (by k_asm) (by k_mem) (by kcf_size) ?_; intro g'; (refine' kcf_list _ (by assumption) (fun k' t' I' oI' C' oC' D' m' ys' h' tk' E' hk' hC' hx' F' N' off' ne' hMark' => ?_) ?_); (all_goals (try clear ne')); kcf_last))))
  (k_with "CompSrcT" => (k_here; k_dflt (first
  | (refine LCt.CompSrcT.range (by rfl) (by k_asm) (by k_asm) (by assumption) (by exact small_one (by omega) (by omega) (by omega) (by omega)) (by exact rangeSize_nat _ _) (by rw [PySem.sizeLine_eq]; omega) ?_; intro g'; (refine' kci_range _ (fun k' t' I' oI' C' oC' D' m' ys' l' h' tk' E' hlo' hhi' hI' hC' hx' F' N' off' ne' => ?_) ?_ ?_); (all_goals (try clear ne')); (all_goals (try ((show KPfMark → _); intro hMark'))); kcf_last)
  | (refine LCt.CompSrcT.ledger (by rfl) (by k_asm) (by k_asm) (by k_mem) (by kcf_size) ?_; intro g'; (refine' kci_list _ (by assumption) (fun k' t' I' oI' C' oC' D' m' ys' l' h' tk' E' hk' hI' hC' hx' F' N' off' ne' => ?_) ?_ ?_); (all_goals (try clear ne')); (all_goals (try (have hb9' := rk_mem hk'))); (all_goals (try ((show KPfMark → _); intro hMark'))); kcf_last))))
  (k_with "CompEnd" => (refine' compEnd (by assumption) (by assumption) (by assumption) (fun q hq => by repeat (first | exact hq | refine List.mem_cons_of_mem _ ?_)) (by first | exact True.intro | lcg_src) ?_))
  (k_with "KCiNo" => (refine kci_no (if_neg (ne_true_of_eq_false (by assumption))) (by with_unfolding_all rfl)))
  (k_with "execs cons" => (k_here; (with_reducible show wpAny _ _ (execs (PySem.Stmt.Assign [PySem.Expr.Name (PySem.Str.ofString "kept") _] _ _ :: _) _) _ _ _); refine hold ?_))
  (k_with "tb_rel" => first | omega | assumption | (constructor <;> omega))
  exact trivial
def keptIn (n a p : Int) : List Int := List.foldl (fun l' k' => if ((worthsOf n a p).any fun x => x == k') = true then l' ++ [k'] else l') [] (rangeKs 0 p.toNat)
def EFact (n a p : Int) : Prop := ((keptIn n a p).length : Int) = ((p - 1).fdiv (shared n (p - 1)) + 2).fdiv 2 + ((p + 1).fdiv (shared n (p + 1)) + 2).fdiv 2 - 1 - (if ((p - 1).fdiv (shared n (p - 1))).fmod 2 = 0 ∧ ((p + 1).fdiv (shared n (p + 1))).fmod 2 = 0 then 1 else 0)
theorem fdiv_bound {x k : Int} (hx : 0 ≤ x) (hk : 1 ≤ k) : 0 ≤ x.fdiv k ∧ x.fdiv k ≤ x := by
  rw [Int.fdiv_eq_ediv_of_nonneg _ (by omega)]
  exact ⟨Int.ediv_nonneg hx (by omega), Int.ediv_le_self _ hx⟩
theorem set_StE_2 : True := by
  (k_with "execs cons" => (k_here; (with_reducible show wpAny _ _ (execs (PySem.Stmt.If (PySem.Expr.Compare (PySem.Expr.Call _ _ _ _) _ _ _) _ _ _ :: _) _) _ _ _); refine hold ?_))
  (k_with "call ref" => (k_here; (with_reducible show wpAny _ _ (call (Value.ref 175) [Value.int _ _, Value.int _ _]) _ _ _); refine' useI ?_ (C := shared_tells _ _ _ _ (by tb_rel) (by tb_rel)); k_extra "CallI"))
  exact trivial
variable {h₀ : Heap} {L fa : Addr} {cd : Value} {m₀ : Str → Option Value} {dp un : Nat} {gd : Option (List Code)} {fr : Option (List Env)} {s : Shared} {Q : Flow → Shared → Prop} {n a p m : Int} {tn ta tp tm : Tok} {o1 o2 o3 o4 o5 o6 o7 : Obj} {b : List Stmt} {sc : Scope}
variable {Dth Dw Db : Addr} {wth ww wb : List Value} {cth cw cb : Nat}
theorem stageE1 (hb : b = (bodyOf 30).drop 12) (hsc : sc = scopeOf 30) (X : (hd.heap_39 w.params).In h₀) (T : Top hd.view_39 (looseW hd.view_39 []) mean mg mb h₀) (hdp : dp + 30 < recursionLimit) (hun : un + 100 < cLine) (F : Fr h₀ L s.heap m₀) (N : News h₀ L s.heap [(Dth, listOf (List.toArray wth) cth), (Dw, listOf (List.toArray ww) cw), (Db, listOf (List.toArray wb) cb), (L + 1 + 1 + 1 + 1 + 1 + 1 + 1, o7), (L + 1 + 1 + 1 + 1 + 1 + 1, o6), (L + 1 + 1 + 1 + 1 + 1, o5), (L + 1 + 1 + 1 + 1, o4), (L + 1 + 1 + 1, o3), (L + 1 + 1, o2), (L + 1, o1)])
    (d1 : o1.data = .cell (some (.int n tn))) (d2 : o2.data = .cell (some (.int a ta))) (d3 : o3.data = .cell (some (.int p tp))) (d4 : o4.data = .cell (some (.ref Db))) (d5 : o5.data = .cell (some (.ref Dw))) (hth : m₀ "things" = some (.ref Dth)) (iT : IntsAre wth (rangeKs 0 p.toNat)) (iW : IntsAre ww (worthsOf n a p)) (iB : IntsAre wb (mreduce (lawOf n a) p))
    (hn : 1 ≤ n ∧ n ≤ 8) (ha : -2 ≤ a ∧ a ≤ 2) (hp : 3 ≤ p ∧ p ≤ 7) (r1 : (∀ q ∈ [(L + 1 + 1 + 1 + 1 + 1 + 1 + 1, o7), (L + 1 + 1 + 1 + 1 + 1 + 1, o6), (L + 1 + 1 + 1 + 1 + 1, o5), (L + 1 + 1 + 1 + 1, o4), (L + 1 + 1 + 1, o3), (L + 1 + 1, o2), (L + 1, o1)], q.1 ≠ Dth)) (r2 : (∀ q ∈ [(L + 1 + 1 + 1 + 1 + 1 + 1 + 1, o7), (L + 1 + 1 + 1 + 1 + 1 + 1, o6), (L + 1 + 1 + 1 + 1 + 1, o5), (L + 1 + 1 + 1 + 1, o4), (L + 1 + 1 + 1, o3), (L + 1 + 1, o2), (L + 1, o1)], q.1 ≠ Dw)) (r3 : (∀ q ∈ [(L + 1 + 1 + 1 + 1 + 1 + 1 + 1, o7), (L + 1 + 1 + 1 + 1 + 1 + 1, o6), (L + 1 + 1 + 1 + 1 + 1, o5), (L + 1 + 1 + 1 + 1, o4), (L + 1 + 1 + 1, o3), (L + 1 + 1, o2), (L + 1, o1)], q.1 ≠ Db))
    (hret : ∀ h' tk m', Fr h₀ L h' m' → Q (.ret (.bool true)) { s with heap := h', toks := tk })
    (hs : (1 ≤ shared n (p - 1) ∧ shared n (p - 1) ≤ 8) ∧ (1 ≤ shared n (p + 1) ∧ shared n (p + 1) ≤ 8))
    (next : ∀ (b9 : List Stmt) (h9 : Heap) (tk9 : Nat) (m9 : Str → Option Value) (bo : Int) (t1 t2 t3 : Tok), a = 1 → bo = (if ((p - 1).fdiv (shared n (p - 1))).fmod 2 = 0 ∧ ((p + 1).fdiv (shared n (p + 1))).fmod 2 = 0 then 1 else 0) → b9 = (bodyOf 30).drop 15 → Fr h₀ L h9 m9 → News h₀ L h9 [(Dth, listOf (List.toArray wth) cth), (Dw, listOf (List.toArray ww) cw), (Db, listOf (List.toArray wb) cb), (L + 1 + 1 + 1 + 1 + 1 + 1 + 1, o7), (L + 1 + 1 + 1 + 1 + 1 + 1, o6), (L + 1 + 1 + 1 + 1 + 1, o5), (L + 1 + 1 + 1 + 1, o4), (L + 1 + 1 + 1, o3), (L + 1 + 1, o2), (L + 1, o1)] → m9 "things" = some (.ref Dth) → m9 "low" = some (.int ((p - 1).fdiv (shared n (p - 1))) t1) → m9 "high" = some (.int ((p + 1).fdiv (shared n (p + 1))) t2) → m9 "both" = some (.int bo t3) → wpAny (model PySem.Challenge.rw_xm0118_01.row.prog w) ((Ar dp un gd fr).deeper (envOfC (Str.ofString "law") sc L fa cd)) (execs b9 (envOfC (Str.ofString "law") sc L fa cd)) Q (fun _ _ => False) { s with heap := h9, toks := tk9 }) :
    wpAny (model PySem.Challenge.rw_xm0118_01.row.prog w) ((Ar dp un gd fr).deeper (envOfC (Str.ofString "law") sc L fa cd)) (execs b (envOfC (Str.ofString "law") sc L fa cd)) Q (fun _ _ => False) s := by
  conv at hb => rhs; whnf
  conv at hsc => rhs; whnf
  subst hb
  subst hsc
  replace F := frv F hth
  have hp2 : 0 < p ∧ p < 100 := ⟨by omega, by omega⟩
  obtain ⟨hs1, hs2⟩ := hs
  have hq1 := fdiv_bound (x := p - 1) (by omega) hs1.1
  have hq2 := fdiv_bound (x := p + 1) (by omega) hs2.1
  revert X
  k_fill
  intro X
  (try k_unmd)
  ktn_step
  all_goals (with_reducible rename Fr _ _ _ _ => F9)
  all_goals (with_reducible rename News _ _ _ _ => N9)
  all_goals first
    | exact hret _ _ _ F9
    | (refine' unhold (next _ _ _ _ _ _ _ _ (by omega) (by first | exact (if_pos ⟨by assumption, by assumption⟩).symm | exact (if_neg fun c => absurd c.1 (by assumption)).symm | exact (if_neg fun c => absurd c.2 (by assumption)).symm | fail "bo") rfl F9 (fun q hq => N9 q (SubL.mem ?S q hq)) rfl rfl rfl rfl); (case S => k_subL))
    | fail "E"
theorem stageE2 {lo hi bo : Int} {t1 t2 t3 : Tok} (hb : b = (bodyOf 30).drop 15) (hsc : sc = scopeOf 30) (X : (hd.heap_39 w.params).In h₀) (T : Top hd.view_39 (looseW hd.view_39 []) mean mg mb h₀) (hdp : dp + 30 < recursionLimit) (hun : un + 100 < cLine) (F : Fr h₀ L s.heap m₀) (N : News h₀ L s.heap [(Dth, listOf (List.toArray wth) cth), (Dw, listOf (List.toArray ww) cw), (Db, listOf (List.toArray wb) cb), (L + 1 + 1 + 1 + 1 + 1 + 1 + 1, o7), (L + 1 + 1 + 1 + 1 + 1 + 1, o6), (L + 1 + 1 + 1 + 1 + 1, o5), (L + 1 + 1 + 1 + 1, o4), (L + 1 + 1 + 1, o3), (L + 1 + 1, o2), (L + 1, o1)])
    (d1 : o1.data = .cell (some (.int n tn))) (d2 : o2.data = .cell (some (.int a ta))) (d3 : o3.data = .cell (some (.int p tp))) (d4 : o4.data = .cell (some (.ref Db))) (d5 : o5.data = .cell (some (.ref Dw))) (hth : m₀ "things" = some (.ref Dth)) (iT : IntsAre wth (rangeKs 0 p.toNat)) (iW : IntsAre ww (worthsOf n a p)) (iB : IntsAre wb (mreduce (lawOf n a) p))
    (hn : 1 ≤ n ∧ n ≤ 8) (ha : -2 ≤ a ∧ a ≤ 2) (hp : 3 ≤ p ∧ p ≤ 7) (r1 : (∀ q ∈ [(L + 1 + 1 + 1 + 1 + 1 + 1 + 1, o7), (L + 1 + 1 + 1 + 1 + 1 + 1, o6), (L + 1 + 1 + 1 + 1 + 1, o5), (L + 1 + 1 + 1 + 1, o4), (L + 1 + 1 + 1, o3), (L + 1 + 1, o2), (L + 1, o1)], q.1 ≠ Dth)) (r2 : (∀ q ∈ [(L + 1 + 1 + 1 + 1 + 1 + 1 + 1, o7), (L + 1 + 1 + 1 + 1 + 1 + 1, o6), (L + 1 + 1 + 1 + 1 + 1, o5), (L + 1 + 1 + 1 + 1, o4), (L + 1 + 1 + 1, o3), (L + 1 + 1, o2), (L + 1, o1)], q.1 ≠ Dw)) (r3 : (∀ q ∈ [(L + 1 + 1 + 1 + 1 + 1 + 1 + 1, o7), (L + 1 + 1 + 1 + 1 + 1 + 1, o6), (L + 1 + 1 + 1 + 1 + 1, o5), (L + 1 + 1 + 1 + 1, o4), (L + 1 + 1 + 1, o3), (L + 1 + 1, o2), (L + 1, o1)], q.1 ≠ Db))
    (hlo : m₀ "low" = some (.int lo t1)) (hhi : m₀ "high" = some (.int hi t2)) (hbo : m₀ "both" = some (.int bo t3)) (hl : -1000 < lo ∧ lo < 1000) (hh : -1000 < hi ∧ hi < 1000) (hb2 : 0 ≤ bo ∧ bo ≤ 1)
    (hE : ((keptIn n a p).length : Int) = (lo + 2).fdiv 2 + (hi + 2).fdiv 2 - 1 - bo)
    (next : ∀ (b9 : List Stmt) (h9 : Heap) (tk9 : Nat) (m9 : Str → Option Value), b9 = (bodyOf 30).drop 16 → Fr h₀ L h9 m9 → News h₀ L h9 [(Dth, listOf (List.toArray wth) cth), (Dw, listOf (List.toArray ww) cw), (Db, listOf (List.toArray wb) cb), (L + 1 + 1 + 1 + 1 + 1 + 1 + 1, o7), (L + 1 + 1 + 1 + 1 + 1 + 1, o6), (L + 1 + 1 + 1 + 1 + 1, o5), (L + 1 + 1 + 1 + 1, o4), (L + 1 + 1 + 1, o3), (L + 1 + 1, o2), (L + 1, o1)] → m9 "things" = some (.ref Dth) → wpAny (model PySem.Challenge.rw_xm0118_01.row.prog w) ((Ar dp un gd fr).deeper (envOfC (Str.ofString "law") sc L fa cd)) (execs b9 (envOfC (Str.ofString "law") sc L fa cd)) Q (fun _ _ => False) { s with heap := h9, toks := tk9 }) :
    wpAny (model PySem.Challenge.rw_xm0118_01.row.prog w) ((Ar dp un gd fr).deeper (envOfC (Str.ofString "law") sc L fa cd)) (execs b (envOfC (Str.ofString "law") sc L fa cd)) Q (fun _ _ => False) s := by
  conv at hb => rhs; whnf
  conv at hsc => rhs; whnf
  subst hb
  subst hsc
  replace F := frv F hth
  replace F := frv F ((if_neg (by decide)).trans hlo)
  replace F := frv F ((if_neg (by decide)).trans ((if_neg (by decide)).trans hhi))
  replace F := frv F ((if_neg (by decide)).trans ((if_neg (by decide)).trans ((if_neg (by decide)).trans hbo)))
  have hp2 : 0 < p ∧ p < 100 := ⟨by omega, by omega⟩
  have hwl := worthsOf_length n a p
  have hsz : wth.toArray.size = p.toNat := by rw [List.size_toArray, iT.length, rangeKs_length]
  revert X
  k_fill
  intro X
  (try k_unmd)
  (with_reducible refine wpAny_execs_cons ?_)
  ktn_step
  all_goals (with_reducible rename Fr _ _ _ _ => F9)
  all_goals (with_reducible rename News _ _ _ _ => N9)
  all_goals first
    | (refine' unhold (next _ _ _ _ rfl F9 (fun q hq => N9 q (SubL.mem ?S q hq)) rfl); (case S => k_subL))
    | exact absurd hE (by assumption)
    | fail "E2"
theorem stageE (hb : b = (bodyOf 30).drop 12) (hsc : sc = scopeOf 30) (X : (hd.heap_39 w.params).In h₀) (T : Top hd.view_39 (looseW hd.view_39 []) mean mg mb h₀) (hdp : dp + 30 < recursionLimit) (hun : un + 100 < cLine) (F : Fr h₀ L s.heap m₀) (N : News h₀ L s.heap [(Dth, listOf (List.toArray wth) cth), (Dw, listOf (List.toArray ww) cw), (Db, listOf (List.toArray wb) cb), (L + 1 + 1 + 1 + 1 + 1 + 1 + 1, o7), (L + 1 + 1 + 1 + 1 + 1 + 1, o6), (L + 1 + 1 + 1 + 1 + 1, o5), (L + 1 + 1 + 1 + 1, o4), (L + 1 + 1 + 1, o3), (L + 1 + 1, o2), (L + 1, o1)])
    (d1 : o1.data = .cell (some (.int n tn))) (d2 : o2.data = .cell (some (.int a ta))) (d3 : o3.data = .cell (some (.int p tp))) (d4 : o4.data = .cell (some (.ref Db))) (d5 : o5.data = .cell (some (.ref Dw))) (hth : m₀ "things" = some (.ref Dth)) (iT : IntsAre wth (rangeKs 0 p.toNat)) (iW : IntsAre ww (worthsOf n a p)) (iB : IntsAre wb (mreduce (lawOf n a) p))
    (hn : 1 ≤ n ∧ n ≤ 8) (ha : -2 ≤ a ∧ a ≤ 2) (hp : 3 ≤ p ∧ p ≤ 7) (r1 : (∀ q ∈ [(L + 1 + 1 + 1 + 1 + 1 + 1 + 1, o7), (L + 1 + 1 + 1 + 1 + 1 + 1, o6), (L + 1 + 1 + 1 + 1 + 1, o5), (L + 1 + 1 + 1 + 1, o4), (L + 1 + 1 + 1, o3), (L + 1 + 1, o2), (L + 1, o1)], q.1 ≠ Dth)) (r2 : (∀ q ∈ [(L + 1 + 1 + 1 + 1 + 1 + 1 + 1, o7), (L + 1 + 1 + 1 + 1 + 1 + 1, o6), (L + 1 + 1 + 1 + 1 + 1, o5), (L + 1 + 1 + 1 + 1, o4), (L + 1 + 1 + 1, o3), (L + 1 + 1, o2), (L + 1, o1)], q.1 ≠ Dw)) (r3 : (∀ q ∈ [(L + 1 + 1 + 1 + 1 + 1 + 1 + 1, o7), (L + 1 + 1 + 1 + 1 + 1 + 1, o6), (L + 1 + 1 + 1 + 1 + 1, o5), (L + 1 + 1 + 1 + 1, o4), (L + 1 + 1 + 1, o3), (L + 1 + 1, o2), (L + 1, o1)], q.1 ≠ Db))
    (hret : ∀ h' tk m', Fr h₀ L h' m' → Q (.ret (.bool true)) { s with heap := h', toks := tk })
    (hs : (1 ≤ shared n (p - 1) ∧ shared n (p - 1) ≤ 8) ∧ (1 ≤ shared n (p + 1) ∧ shared n (p + 1) ≤ 8))
    (hE : a = 1 → EFact n a p)
    (next : ∀ (b9 : List Stmt) (h9 : Heap) (tk9 : Nat) (m9 : Str → Option Value), a = 1 → b9 = (bodyOf 30).drop 16 → Fr h₀ L h9 m9 → News h₀ L h9 [(Dth, listOf (List.toArray wth) cth), (Dw, listOf (List.toArray ww) cw), (Db, listOf (List.toArray wb) cb), (L + 1 + 1 + 1 + 1 + 1 + 1 + 1, o7), (L + 1 + 1 + 1 + 1 + 1 + 1, o6), (L + 1 + 1 + 1 + 1 + 1, o5), (L + 1 + 1 + 1 + 1, o4), (L + 1 + 1 + 1, o3), (L + 1 + 1, o2), (L + 1, o1)] → m9 "things" = some (.ref Dth) → wpAny (model PySem.Challenge.rw_xm0118_01.row.prog w) ((Ar dp un gd fr).deeper (envOfC (Str.ofString "law") sc L fa cd)) (execs b9 (envOfC (Str.ofString "law") sc L fa cd)) Q (fun _ _ => False) { s with heap := h9, toks := tk9 }) :
    wpAny (model PySem.Challenge.rw_xm0118_01.row.prog w) ((Ar dp un gd fr).deeper (envOfC (Str.ofString "law") sc L fa cd)) (execs b (envOfC (Str.ofString "law") sc L fa cd)) Q (fun _ _ => False) s := by
  have hq1 := fdiv_bound (x := p - 1) (by omega) hs.1.1
  have hq2 := fdiv_bound (x := p + 1) (by omega) hs.2.1
  refine stageE1 hb hsc X T hdp hun F N d1 d2 d3 d4 d5 hth iT iW iB hn ha hp r1 r2 r3 hret hs fun b9 h9 tk9 m9 bo t1 t2 t3 a1 ebo eb F9 N9 th9 lo9 hi9 bo9 => ?_
  refine stageE2 eb hsc X T hdp hun F9 N9 d1 d2 d3 d4 d5 th9 iT iW iB hn ha hp r1 r2 r3 lo9 hi9 bo9 ⟨by omega, by omega⟩ ⟨by omega, by omega⟩ (by rw [ebo]; split <;> decide) (by rw [ebo]; exact hE a1) fun b h tk m e F' N' t' => next b h tk m a1 e F' N' t'
end Mine
-- StF
namespace Mine
theorem top_off_StF : True := by
  w_top off
  exact trivial
variable {w : World} {mean : ExcName → Option Value} {mg mb : Str → Option Value}
theorem set_StF_1 : True := by
  (k_with_none)
  (k_with "room" => ((try dsimp only [Ar]); first | exact rm0 (by assumption) (by decide) | exact rm (by assumption) (by decide) | omega))
  (k_with "CallL" => (k_whole; intro l' ws' c' h' tk' F' N' l1 hraw hI'; clear l1; (try k_sweep)))
  (k_with "CallI" => (k_whole; intro t' h' tk' F' N'; (try k_sweep)))
  (k_with "ktn_step" => repeat' (first | (k_unfold; (try dsimp only)) | (k_end; wrow_close) | (walk1; (try dsimp only)) | (dsimp only; walk1) | (leave1; try dsimp only) | fail "no step"))
  (k_with "ktn_open" => (repeat (first | assumption | refine (if_neg (by decide)).trans ?_)))
  (k_with "tb_start" => first | exact IsInts.news (by k_asm) (by k_mem) (by first | with_reducible assumption | exact IntsAre.nil | exact IntsAre.cons _ _ .nil | exact IntsAre.cons _ _ (IntsAre.cons _ _ .nil)) | exact IsInts.base (by k_asm) (by assumption) (by with_reducible assumption) | (refine And.intro ?_ ?_ <;> tb_start) | exact trivial)
  (k_with "tb_rel" => first | omega | assumption | ((simp only [List.length_map, rangeKs_length, List.length_take, List.length_cons, List.length_nil, List.length_replicate]); first | omega | (split <;> omega)))
  (k_with "k_ne" => ((try dsimp only); first | exact ne_raw (by assumption) (by k_mem) | exact Ne.symm (ne_raw (by assumption) (by k_mem)) | fail "k_ne"))
  (k_with "FinE" => ((unfold LCg.FinE); intro D' h' tk' F' N' o1'; (replace o1' := off1_raw o1'); (try simp only [List.nil_append, List.cons_append] at N'); (try dsimp only)))
  (k_with "CompSrc" => (k_here; k_dflt (first
  | (refine LCg.CompSrc.range (by rfl) (by k_asm) (by k_asm) (by assumption) (by exact small_one (by omega) (by omega) (by omega) (by omega)) (by exact rangeSize_nat _ _) (by rw [PySem.sizeLine_eq]; omega) ?_; intro g'; (refine' kcf_range _ (fun k' t' I' oI' C' oC' D' m' ys' h' tk' E' hlo' hhi' hC' hx' F' N' off' ne' hMark' => ?_) ?_); (all_goals (try clear ne')); kcf_last)
  | (refine LCg.CompSrc.ledger (by rfl) (by k_asm) (by k_asm) (by k_mem) (by kcf_size) ?_; intro g'; (refine' kcf_list _ (by assumption) (fun k' t' I' oI' C' oC' D' m' ys' h' tk' E' hk' hC' hx' F' N' off' ne' hMark' => ?_) ?_); (all_goals (try clear ne')); kcf_last))))
  (k_with "CompSrcT" => (k_here; k_dflt (first
  | (refine LCt.CompSrcT.range (by rfl) (by k_asm) (by k_asm) (by assumption) (by exact small_one (by omega) (by omega) (by omega) (by omega)) (by exact rangeSize_nat _ _) (by rw [PySem.sizeLine_eq]; omega) ?_; intro g'; (refine' kci_range _ (fun k' t' I' oI' C' oC' D' m' ys' l' h' tk' E' hlo' hhi' hI' hC' hx' F' N' off' ne' => ?_) ?_ ?_); (all_goals (try clear ne')); (all_goals (try ((show KPfMark → _); intro hMark'))); kcf_last)
  | (refine LCt.CompSrcT.ledger (by rfl) (by k_asm) (by k_asm) (by k_mem) (by kcf_size) ?_; intro g'; (refine' kci_list _ (by assumption) (fun k' t' I' oI' C' oC' D' m' ys' l' h' tk' E' hk' hI' hC' hx' F' N' off' ne' => ?_) ?_ ?_); (all_goals (try clear ne')); (all_goals (try (have hb9' := rk_mem hk'))); (all_goals (try ((show KPfMark → _); intro hMark'))); kcf_last))))
  (k_with "CompEnd" => (refine' compEnd (by assumption) (by assumption) (by assumption) (fun q hq => by repeat (first | exact hq | refine List.mem_cons_of_mem _ ?_)) (by first | exact True.intro | lcg_src) ?_))
  (k_with "execs cons" => (k_here; (with_reducible show wpAny _ _ (execs (PySem.Stmt.Assign [PySem.Expr.Name (PySem.Str.ofString "total") _] _ _ :: _) _) _ _ _); refine hold ?_))
  (k_with "tb_rel" => first | omega | assumption | (constructor <;> omega) | (simp only [List.length_append, List.length_replicate, List.length_cons, List.length_nil]; omega))
  (k_with "call ref" => (k_here; (with_reducible show wpAny _ _ (call (Value.ref 90) [Value.ref _]) _ _ _); refine' useI ?_ (C := mdegree_tells _ _ (by tb_rel)); k_extra "CallI"))
  (k_with "call ref" => (k_here; (with_reducible show wpAny _ _ (call (Value.ref 149) [Value.ref _, Value.ref _, Value.int _ _]) _ _ _); refine' useL ?_ (C := mgcd_tells _ _ _ _ _ _ _ (by tb_rel) (by tb_rel)); k_extra "CallL"))
  (k_with "call ref" => (k_here; (with_reducible show wpAny _ _ (call (Value.ref 109) [Value.ref _, Value.ref _, Value.int _ _]) _ _ _); refine' useL ?_ (C := msub_tells _ _ _ _ _ _ (by tb_rel) (by tb_rel) (by tb_rel)); k_extra "CallL"))
  exact trivial
variable {h₀ : Heap} {L fa : Addr} {cd : Value} {m₀ : Str → Option Value} {dp un : Nat} {gd : Option (List Code)} {fr : Option (List Env)} {s : Shared} {Q : Flow → Shared → Prop} {n a p m : Int} {tn ta tp tm : Tok} {o1 o2 o3 o4 o5 o6 o7 : Obj} {b : List Stmt} {sc : Scope}
variable {Dth Dw Db : Addr} {wth ww wb : List Value} {cth cw cb : Nat}
variable {g : List Int}
theorem stageF (hb : b = (bodyOf 30).drop 16) (hsc : sc = scopeOf 30) (X : (hd.heap_39 w.params).In h₀) (T : Top hd.view_39 (looseW hd.view_39 []) mean mg mb h₀) (hdp : dp + 30 < recursionLimit) (hun : un + 100 < cLine) (F : Fr h₀ L s.heap m₀) (N : News h₀ L s.heap [(Dth, listOf (List.toArray wth) cth), (Dw, listOf (List.toArray ww) cw), (Db, listOf (List.toArray wb) cb), (L + 1 + 1 + 1 + 1 + 1 + 1 + 1, o7), (L + 1 + 1 + 1 + 1 + 1 + 1, o6), (L + 1 + 1 + 1 + 1 + 1, o5), (L + 1 + 1 + 1 + 1, o4), (L + 1 + 1 + 1, o3), (L + 1 + 1, o2), (L + 1, o1)])
    (d1 : o1.data = .cell (some (.int n tn))) (d2 : o2.data = .cell (some (.int a ta))) (d3 : o3.data = .cell (some (.int p tp))) (d4 : o4.data = .cell (some (.ref Db))) (d5 : o5.data = .cell (some (.ref Dw))) (hth : m₀ "things" = some (.ref Dth)) (iT : IntsAre wth (rangeKs 0 p.toNat)) (iW : IntsAre ww (worthsOf n a p)) (iB : IntsAre wb (mreduce (lawOf n a) p))
    (hn : 1 ≤ n ∧ n ≤ 8) (ha : -2 ≤ a ∧ a ≤ 2) (hp : 3 ≤ p ∧ p ≤ 7) (r1 : (∀ q ∈ [(L + 1 + 1 + 1 + 1 + 1 + 1 + 1, o7), (L + 1 + 1 + 1 + 1 + 1 + 1, o6), (L + 1 + 1 + 1 + 1 + 1, o5), (L + 1 + 1 + 1 + 1, o4), (L + 1 + 1 + 1, o3), (L + 1 + 1, o2), (L + 1, o1)], q.1 ≠ Dth)) (r2 : (∀ q ∈ [(L + 1 + 1 + 1 + 1 + 1 + 1 + 1, o7), (L + 1 + 1 + 1 + 1 + 1 + 1, o6), (L + 1 + 1 + 1 + 1 + 1, o5), (L + 1 + 1 + 1 + 1, o4), (L + 1 + 1 + 1, o3), (L + 1 + 1, o2), (L + 1, o1)], q.1 ≠ Dw)) (r3 : (∀ q ∈ [(L + 1 + 1 + 1 + 1 + 1 + 1 + 1, o7), (L + 1 + 1 + 1 + 1 + 1 + 1, o6), (L + 1 + 1 + 1 + 1 + 1, o5), (L + 1 + 1 + 1 + 1, o4), (L + 1 + 1 + 1, o3), (L + 1 + 1, o2), (L + 1, o1)], q.1 ≠ Db))
    (hg : mgcd 60 (msub (mreduce (lawOf n a) p) [0, 1] p) ([0, p - 1] ++ (List.replicate (p - 2).toNat [0]).flatten ++ [1]) p = some g) (hgl : g.length < 100)
    (hbl : (mreduce (lawOf n a) p).length < 1000) 
    (next : ∀ (b9 : List Stmt) (h9 : Heap) (tk9 : Nat) (m9 : Str → Option Value) (t9 : Tok), b9 = (bodyOf 30).drop 17 → Fr h₀ L h9 m9 → News h₀ L h9 [(Dth, listOf (List.toArray wth) cth), (Dw, listOf (List.toArray ww) cw), (Db, listOf (List.toArray wb) cb), (L + 1 + 1 + 1 + 1 + 1 + 1 + 1, o7), (L + 1 + 1 + 1 + 1 + 1 + 1, o6), (L + 1 + 1 + 1 + 1 + 1, o5), (L + 1 + 1 + 1 + 1, o4), (L + 1 + 1 + 1, o3), (L + 1 + 1, o2), (L + 1, o1)] → m9 "things" = some (.ref Dth) → m9 "kept" = some (.int (g.length - 1) t9) → wpAny (model PySem.Challenge.rw_xm0118_01.row.prog w) ((Ar dp un gd fr).deeper (envOfC (Str.ofString "law") sc L fa cd)) (execs b9 (envOfC (Str.ofString "law") sc L fa cd)) Q (fun _ _ => False) { s with heap := h9, toks := tk9 }) :
    wpAny (model PySem.Challenge.rw_xm0118_01.row.prog w) ((Ar dp un gd fr).deeper (envOfC (Str.ofString "law") sc L fa cd)) (execs b (envOfC (Str.ofString "law") sc L fa cd)) Q (fun _ _ => False) s := by
  conv at hb => rhs; whnf
  conv at hsc => rhs; whnf
  subst hb
  subst hsc
  replace F := frv F hth
  have hp2 : 0 < p ∧ p < 100 := ⟨by omega, by omega⟩
  revert X
  k_fill
  intro X
  (try k_unmd)
  ktn_step
  all_goals (with_reducible rename Fr _ _ _ _ => F9)
  all_goals (with_reducible rename News _ _ _ _ => N9)
  refine' unhold (next _ _ _ _ _ rfl F9 (fun q hq => N9 q (SubL.mem ?S q hq)) rfl rfl)
  (case S => k_subL)
end Mine
-- Two
namespace Mine
section
variable {prog : Program} {w : World} {A : Around} {s : Shared} {h₀ : Heap} {L : Addr} {m : Str → Option Value} {R : Result → Shared → Prop}
abbrev No : Value → Shared → Prop := fun _ _ => False
theorem no_mono {α : Type} {t : Sem α} {Q : α → Shared → Prop} {E : Value → Shared → Prop} (h : wpAny (model prog w) A t Q No s) : wpAny (model prog w) A t Q E s := wpAny_mono h (fun _ _ q => q) fun _ _ x => x.elim
abbrev twoE (elt t1 i1 t2 i2 : Expr) (scope : Scope) (pos : Pos) : Expr := .ListComp elt [⟨t1, i1, [], 0⟩, ⟨t2, i2, [], 0⟩] scope pos
theorem two_turn0_eq (elt t1 i1 t2 i2 : Expr) (scope : Scope) (pos : Pos) (it acc : Value) (env : Env) :
    compTurn (twoE elt t1 i1 t2 i2 scope pos) 0 it acc env = (standAt i1.pos >>= fun _ => pyNext it >>= fun r => match r with
      | none => pure (.done .next)
      | some v => letOwnedTupleGo t1 it v >>= fun _ => assign t1 env v >>= fun _ =>
        eval i2 env >>= fun x => standAt i2.pos >>= fun _ => foldedSetIterable i2 env x >>= fun x => holding [x] (pyIter x) >>= fun it2 => runOwn (.compStart (twoE elt t1 i1 t2 i2 scope pos) 1 it2 acc env) env >>= fun _ =>
          again (.compLoop (twoE elt t1 i1 t2 i2 scope pos) 0 it acc env)) := by rfl
theorem two_turn1_eq (elt t1 i1 t2 i2 : Expr) (scope : Scope) (pos : Pos) (it acc : Value) (env : Env) :
    compTurn (twoE elt t1 i1 t2 i2 scope pos) 1 it acc env = (standAt i2.pos >>= fun _ => pyNext it >>= fun r => match r with
      | none => pure (.done .next)
      | some v => letOwnedTupleGo t2 it v >>= fun _ => assign t2 env v >>= fun _ =>
        (eval elt env >>= fun x => call (.builtin "list.append") [acc, x] >>= fun _ => pure ()) >>= fun _ =>
          again (.compLoop (twoE elt t1 i1 t2 i2 scope pos) 1 it acc env)) := by rfl
theorem two_turn0 {elt t1 i1 t2 i2 : Expr} {scope : Scope} {pos : Pos} {it acc : Value} {env : Env}
    (h : wpAny (model prog w) A (pyNext it) (fun r s₁ => match r with
      | none => R (.ok .next) s₁
      | some v => wpAny (model prog w) A (assign t1 env v) (fun _ s₂ => wpAny (model prog w) A (eval i2 env) (fun x s₃ => wpAny (model prog w) A (pyIter x) (fun it2 s₄ =>
          codeAny (model prog w) A (.compStart (twoE elt t1 i1 t2 i2 scope pos) 1 it2 acc env) (fun r s₅ => ∃ f, r = .ok f ∧ codeAny (model prog w) A (.compLoop (twoE elt t1 i1 t2 i2 scope pos) 0 it acc env) R s₅) s₄) No s₃) No s₂) No s₁) No s)
    (ht : ∀ v, letOwnedTupleGo t1 it v = pure () := by intro _; rfl) (hs : ∀ x, foldedSetIterable i2 env x = pure x := by intro _; rfl) :
    codeAny (model prog w) A (.compLoop (twoE elt t1 i1 t2 i2 scope pos) 0 it acc env) R s := by
  refine codeAny_of_tree ?_
  show wpAny _ A ((compTurn (twoE elt t1 i1 t2 i2 scope pos) 0 it acc env).onRaise (fun x => do noteFrame x env; theTreesLotGoes x)) _ _ s
  refine wpAny_noted ?_
  rw [two_turn0_eq]
  refine wpAny_bind (wpAny_standAt (wpAny_bind (wpAny_mono h (fun r s₁ h₁ => ?_) fun _ _ x => x.elim)))
  cases r with
  | none => exact wpAny_pure h₁
  | some v =>
    refine wpAny_bind (wpAny_of_eq (ht v) ?_)
    refine wpAny_bind (wpAny_mono h₁ (fun _ s₂ h₂ => ?_) fun _ _ x => x.elim)
    refine wpAny_bind (wpAny_mono h₂ (fun x s₃ h₃ => ?_) fun _ _ x => x.elim)
    refine wpAny_bind (wpAny_standAt (wpAny_bind (wpAny_of_eq (hs x) ?_)))
    refine wpAny_bind (wpAny_holding (wpAny_mono h₃ (fun it2 s₄ h₄ => ?_) fun _ _ x => x.elim))
    refine wpAny_bind (wpAny_runOwn (codeAny_mono h₄ fun r s₅ hr => ?_))
    obtain ⟨f, rfl, hc⟩ := hr
    exact wpAny_pure ⟨rfl, hc⟩
theorem two_turn1 {elt t1 i1 t2 i2 : Expr} {scope : Scope} {pos : Pos} {it acc : Value} {env : Env}
    (h : wpAny (model prog w) A (pyNext it) (fun r s₁ => match r with
      | none => R (.ok .next) s₁
      | some v => wpAny (model prog w) A (assign t2 env v) (fun _ s₂ => wpAny (model prog w) A (eval elt env) (fun x s₃ => wpAny (model prog w) A (call (.builtin "list.append") [acc, x]) (fun _ s₄ =>
          codeAny (model prog w) A (.compLoop (twoE elt t1 i1 t2 i2 scope pos) 1 it acc env) R s₄) No s₃) No s₂) No s₁) No s)
    (ht : ∀ v, letOwnedTupleGo t2 it v = pure () := by intro _; rfl) :
    codeAny (model prog w) A (.compLoop (twoE elt t1 i1 t2 i2 scope pos) 1 it acc env) R s := by
  refine codeAny_of_tree ?_
  show wpAny _ A ((compTurn (twoE elt t1 i1 t2 i2 scope pos) 1 it acc env).onRaise (fun x => do noteFrame x env; theTreesLotGoes x)) _ _ s
  refine wpAny_noted ?_
  rw [two_turn1_eq]
  refine wpAny_bind (wpAny_standAt (wpAny_bind (wpAny_mono h (fun r s₁ h₁ => ?_) fun _ _ x => x.elim)))
  cases r with
  | none => exact wpAny_pure h₁
  | some v =>
    refine wpAny_bind (wpAny_of_eq (ht v) ?_)
    refine wpAny_bind (wpAny_mono h₁ (fun _ s₂ h₂ => ?_) fun _ _ x => x.elim)
    refine wpAny_bind (wpAny_bind (wpAny_mono h₂ (fun x s₃ h₃ => ?_) fun _ _ x => x.elim))
    exact wpAny_bind (wpAny_mono h₃ (fun _ s₄ h₄ => wpAny_pure (wpAny_pure ⟨rfl, h₄⟩)) fun _ _ x => x.elim)
theorem two_start1 {elt t1 i1 t2 i2 : Expr} {scope : Scope} {pos : Pos} {it acc : Value} {env : Env}
    (h0 : codeAny (model prog w) A (.compLoop (twoE elt t1 i1 t2 i2 scope pos) 1 it acc env) R s)
    (h : wpAny (model prog w) A (pyIter it) (fun it' s' => codeAny (model prog w) A (.compLoop (twoE elt t1 i1 t2 i2 scope pos) 1 it' acc env) R s') No s) :
    codeAny (model prog w) A (.compStart (twoE elt t1 i1 t2 i2 scope pos) 1 it acc env) R s := by
  refine codeAny_of_tree ?_
  show wpAny _ _ ((compStart (twoE elt t1 i1 t2 i2 scope pos) 1 it acc env).onRaise (fun x => do noteFrame x env; standAt theWindowsPlace)) _ _ s
  refine wpAny_notedAt ?_
  unfold compStart
  show wpAny _ _ (ask >>= _) _ _ s
  refine wpAny_bind (wpAny_askSetting (wpAny_ite ?_))
  split
  · first
      | exact wpAny_bind (wpAny_pure (wpAny_pure (And.intro rfl h0)))
      | exact wpAny_pure (And.intro rfl h0)
  · first
      | exact wpAny_bind (wpAny_rule (wpAny_bind (wpAny_standAt (wpAny_bind (wpAny_mono h (fun it' s' h' => wpAny_pure (And.intro rfl h')) fun _ _ x => x.elim)))))
      | (refine wpAny_bind (wpAny_rule ?_); show wpAny _ _ (standAt i2.pos >>= _) _ _ s; exact wpAny_bind (wpAny_standAt (wpAny_bind (wpAny_mono h (fun it' s' h' => wpAny_pure (And.intro rfl h')) fun _ _ x => x.elim))))
/-- the address stands apart from the frame, the base and the ledger -/
structure Ap (h₀ : Heap) (L : Addr) (news : List (Addr × Obj)) (X : Addr) : Prop where
  ne : X ≠ L
  no : h₀.get? X = none
  off : ∀ q ∈ news, q.1 ≠ X
theorem Ap.fr {news : List (Addr × Obj)} {X : Addr} {h h' : Heap} (a : Ap h₀ L news X) (F : Fr h₀ L h m) (k : ∀ b o, b ≠ X → h.get? b = some o → h'.get? b = some o) : Fr h₀ L h' m :=
  ⟨F.ns.at' fun o e => k L o a.ne.symm e, fun b o e => k b o (fun q => by rw [q, a.no] at e; cases e) (F.keep b o e), F.above⟩
theorem Ap.nw {news : List (Addr × Obj)} {X : Addr} {h h' : Heap} (a : Ap h₀ L news X) (N : News h₀ L h news) (k : ∀ b o, b ≠ X → h.get? b = some o → h'.get? b = some o) : News h₀ L h' news :=
  fun q hq => ⟨k _ _ (a.off q hq) (N q hq).1, (N q hq).2⟩
theorem Ap.fresh {news : List (Addr × Obj)} {h : Heap} {X : Addr} (F : Fr h₀ L h m) (N : News h₀ L h news) (hX : h.objs.size ≤ X) : Ap h₀ L news X :=
  ⟨Nat.ne_of_gt (Nat.lt_of_lt_of_le F.ns.lt hX), Heap.get?_none_of_le (Nat.le_trans F.above (Nat.le_trans (Nat.le_of_lt F.ns.lt) hX)), fun q hq => Nat.ne_of_lt (Nat.lt_of_lt_of_le (Heap.lt_size (N q hq).1) hX)⟩
theorem Ap.cons {news : List (Addr × Obj)} {X Y : Addr} {o : Obj} (a : Ap h₀ L news X) (h : Y ≠ X) : Ap h₀ L ((Y, o) :: news) X :=
  ⟨a.ne, a.no, fun q hq => (List.mem_cons.mp hq).elim (fun e => e ▸ h) (a.off q)⟩
/-- the inner block's state -/
structure In2 (h₀ : Heap) (L : Addr) (m : Str → Option Value) (news : List (Addr × Obj)) (C D T I : Addr) (its : Array Value) (h : Heap) (mC : Str → Option Value) (ys : List Value) (i : Nat) : Prop where
  F : Fr h₀ L h m
  N : News h₀ L h news
  c : h.Ns C mC
  d : h.get? D = some (LCg.lst ys)
  t : h.IsTuple T its
  it : h.IsTupleIter I T i
theorem in2_turn {elt i1 i2 : Expr} {x y : Str} {py : Pos} {t1 : Expr} {scope scope' : Scope} {cl : List (Str × Addr)} {pos : Pos} {env : Env} {news : List (Addr × Obj)} {C D T I : Addr} {its : Array Value} {h : Heap} {mC : Str → Option Value} {ys : List Value} {i : Nat} {tk : Nat} {xv ov : Value} {P : Value → Prop}
    (S : In2 h₀ L m news C D T I its h mC ys i) (aC : Ap h₀ L news C) (aD : Ap h₀ L news D) (aT : Ap h₀ L news T) (aI : Ap h₀ L news I) (n1 : C ≠ D) (n2 : T ≠ C) (n3 : T ≠ D) (n4 : I ≠ C) (n5 : I ≠ D) (n6 : T ≠ I)
    (hx : mC x = some ov) (hxy : x ≠ y) (hi : its[i]? = some xv) (hlen : ys.length ≤ sizeLine)
    (hky : (compEnvC scope cl C env).kindOf y = some .local) (hkind : scope.kind = .function)
    (hbody : ∀ (oC : Obj) (mC' : Str → Option Value) (oD oT oI : Obj) (h : Heap) (tk : Nat) (Pq : Value → Shared → Prop), LCg.NsObj oC mC' → mC' x = some ov → mC' y = some xv → Fr h₀ L h m → News h₀ L h ((C, oC) :: (D, oD) :: (T, oT) :: (I, oI) :: news) →
      (∀ v h' tk', P v → Fr h₀ L h' m → News h₀ L h' ((C, oC) :: (D, oD) :: (T, oT) :: (I, oI) :: news) → Pq v { s with heap := h', toks := tk' }) → wpAny (model prog w) A (eval elt (compEnvC scope cl C env)) Pq No { s with heap := h, toks := tk })
    (next : ∀ h' tk' mC' v, P v → In2 h₀ L m news C D T I its h' mC' (ys ++ [v]) (i + 1) → mC' x = some ov → codeAny (model prog w) A (.compLoop (twoE elt t1 i1 (.Name y py) i2 scope' pos) 1 (.ref I) (.ref D) (compEnvC scope cl C env)) R { s with heap := h', toks := tk' }) :
    codeAny (model prog w) A (.compLoop (twoE elt t1 i1 (.Name y py) i2 scope' pos) 1 (.ref I) (.ref D) (compEnvC scope cl C env)) R { s with heap := h, toks := tk } := by
  refine two_turn1 ?_
  refine wpAny_pyNext_tuple_item S.it S.t hi fun h1 hit1 hs1 => ?_
  have k1 : ∀ b o, b ≠ I → h.get? b = some o → h1.get? b = some o := hs1.extBut
  refine wpAny_assign_Name (wpAny_storeName_local hky (S.c.at' fun o e => k1 C o n4.symm e) (fun h2 hn2 hs2 => ?_) (by simp [compEnvC, relabel, hkind]))
  have k2 : ∀ b o, b ≠ C → h1.get? b = some o → h2.get? b = some o := hs2.extBut
  obtain ⟨oC, eC, hoC⟩ := LCg.ns_obj hn2
  obtain ⟨oT, eT, hT⟩ := S.t
  obtain ⟨oI, eI, hI⟩ := hit1
  have F2 := aC.fr (aI.fr S.F k1) k2
  have N2 := aC.nw (aI.nw S.N k1) k2
  have dI : h2.get? I = some oI := k2 _ _ n4 eI
  have dT : h2.get? T = some oT := k2 _ _ n2 (k1 _ _ n6 eT)
  have dD : h2.get? D = some (LCg.lst ys) := k2 _ _ n1.symm (k1 _ _ n5.symm S.d)
  refine hbody oC _ (LCg.lst ys) oT oI h2 _ _ hoC (by show (if x = y then some xv else mC x) = _; rw [if_neg hxy]; exact hx) (if_pos rfl) F2 (fun q hq => ?_) fun v h3 tk3 hP F3 N3 => ?_
  · rcases List.mem_cons.mp hq with rfl | hq
    · exact ⟨eC, aC.ne, aC.no⟩
    · rcases List.mem_cons.mp hq with rfl | hq
      · exact ⟨dD, aD.ne, aD.no⟩
      · rcases List.mem_cons.mp hq with rfl | hq
        · exact ⟨dT, aT.ne, aT.no⟩
        · rcases List.mem_cons.mp hq with rfl | hq
          · exact ⟨dI, aI.ne, aI.no⟩
          · exact N2 q hq
  · have zC := (N3 _ (List.mem_cons_self)).1
    have zD := (N3 _ (List.mem_cons_of_mem _ List.mem_cons_self)).1
    have zT := (N3 _ (List.mem_cons_of_mem _ (List.mem_cons_of_mem _ List.mem_cons_self))).1
    have zI := (N3 _ (List.mem_cons_of_mem _ (List.mem_cons_of_mem _ (List.mem_cons_of_mem _ List.mem_cons_self)))).1
    have N3' : News h₀ L h3 news := fun q hq => N3 q (List.mem_cons_of_mem _ (List.mem_cons_of_mem _ (List.mem_cons_of_mem _ (List.mem_cons_of_mem _ hq))))
    refine append_at (hsz := by rw [List.size_toArray]; exact hlen) zD fun h4 hs4 hD4 => ?_
    have k4 : ∀ b o, b ≠ D → h3.get? b = some o → h4.get? b = some o := hs4.extBut
    refine next h4 _ _ v hP ⟨aD.fr F3 k4, aD.nw N3' k4, (hoC.ns zC).at' fun o e => k4 _ _ n1 e, hD4.trans (congrArg some (LCg.lst_snoc ys v)), ⟨oT, k4 _ _ n3 zT, hT⟩, ⟨oI, k4 _ _ n5 zI, hI⟩⟩ ?_
    show (if x = y then some xv else mC x) = _
    rw [if_neg hxy]; exact hx
theorem tup11 {E : Value → Shared → Prop} {p1 p2 p3 p4 : Pos} {env : Env} {Q : Value → Shared → Prop}
    (h : ∀ t1 t2 tk, Q (.ref s.heap.objs.size) { s with heap := s.heap.push { cls := .type "tuple", data := .seq ([.int (-1) t1, .int 1 t2] : List Value).toArray }, toks := tk }) :
    wpAny (model prog w) A (eval (.Tuple [.UnaryOp .USub (.Constant (.int 1) 0 p1) p2, .Constant (.int 1) 0 p3] 0 p4) env) Q E s := by
  refine wpAny_Tuple ?_
  repeat walk1
  exact h _ _ _
abbrev tup2 (p1 p2 p3 p4 : Pos) : Expr := .Tuple [.UnaryOp .USub (.Constant (.int 1) 0 p1) p2, .Constant (.int 1) 0 p3] 0 p4
theorem two_inner {elt i1 : Expr} {x y : Str} {py p1 p2 p3 p4 : Pos} {t1 : Expr} {scope scope' : Scope} {cl : List (Str × Addr)} {pos : Pos} {env : Env} {news : List (Addr × Obj)} {C D : Addr} {h : Heap} {mC : Str → Option Value} {ys : List Value} {tk : Nat} {ov : Value} {P : Int → Value → Prop} {Z : Shared → Prop}
    (hh : A.handled = none) (F : Fr h₀ L h m) (N : News h₀ L h news) (c : h.Ns C mC) (d : h.get? D = some (LCg.lst ys)) (aC : Ap h₀ L news C) (aD : Ap h₀ L news D) (n1 : C ≠ D)
    (hx : mC x = some ov) (hxy : x ≠ y) (hlen : ys.length + 2 ≤ sizeLine)
    (hky : (compEnvC scope cl C env).kindOf y = some .local) (hkind : scope.kind = .function)
    (hbody : ∀ (dd : Int) (td : Tok) (oC : Obj) (mC' : Str → Option Value) (oD : Obj) (T : Addr) (oT : Obj) (I : Addr) (oI : Obj) (h : Heap) (tk : Nat) (Pq : Value → Shared → Prop), (dd = -1 ∨ dd = 1) → LCg.NsObj oC mC' → mC' x = some ov → mC' y = some (.int dd td) → Fr h₀ L h m → News h₀ L h ((C, oC) :: (D, oD) :: (T, oT) :: (I, oI) :: news) →
      (∀ v h' tk', P dd v → Fr h₀ L h' m → News h₀ L h' ((C, oC) :: (D, oD) :: (T, oT) :: (I, oI) :: news) → Pq v { s with heap := h', toks := tk' }) → wpAny (model prog w) A (eval elt (compEnvC scope cl C env)) Pq No { s with heap := h, toks := tk })
    (hZ : ∀ h' tk' mC' v1 v2, P (-1) v1 → P 1 v2 → Fr h₀ L h' m → News h₀ L h' news → h'.Ns C mC' → h'.get? D = some (LCg.lst (ys ++ [v1] ++ [v2])) → Z { s with heap := h', toks := tk' }) :
    wpAny (model prog w) A (eval (tup2 p1 p2 p3 p4) (compEnvC scope cl C env)) (fun xv s₃ => wpAny (model prog w) A (pyIter xv) (fun it2 s₄ =>
      codeAny (model prog w) A (.compStart (twoE elt t1 i1 (.Name y py) (tup2 p1 p2 p3 p4) scope' pos) 1 it2 (.ref D) (compEnvC scope cl C env)) (fun r s₅ => ∃ f, r = .ok f ∧ Z s₅) s₄) No s₃) No { s with heap := h, toks := tk } := by
  refine tup11 fun ta tb tk1 => ?_
  dsimp only
  have kT : ∀ b o, h.get? b = some o → (h.push { cls := .type "tuple", data := .seq ([.int (-1) ta, .int 1 tb] : List Value).toArray }).get? b = some o := fun b o e => Heap.get?_push_of_some _ e
  have gT := Heap.get?_push_size h (o := { cls := .type "tuple", data := .seq ([.int (-1) ta, .int 1 tb] : List Value).toArray }) rfl
  have sT := Heap.size_push h { cls := .type "tuple", data := .seq ([.int (-1) ta, .int 1 tb] : List Value).toArray }
  generalize h.push { cls := .type "tuple", data := .seq ([.int (-1) ta, .int 1 tb] : List Value).toArray } = hT at kT gT sT
  have iT : hT.IsTuple h.objs.size ([.int (-1) ta, .int 1 tb] : List Value).toArray := ⟨_, gT, rfl, _, rfl⟩
  refine wpAny_pyIter_tuple (s := { s with heap := hT, toks := tk1 }) iT ?_
  dsimp only
  have kI : ∀ b o, hT.get? b = some o → (hT.push { cls := .type "tuple_iterator", data := .fields #[.ref h.objs.size, .int 0 0] }).get? b = some o := fun b o e => Heap.get?_push_of_some _ e
  have gI := Heap.get?_push_size hT (o := { cls := .type "tuple_iterator", data := .fields #[.ref h.objs.size, .int 0 0] }) rfl
  generalize hT.push { cls := .type "tuple_iterator", data := .fields #[.ref h.objs.size, .int 0 0] } = hI at kI gI
  have iI : hI.IsTupleIter hT.objs.size h.objs.size 0 := ⟨_, gI, rfl, rfl⟩
  have ltC : C < h.objs.size := c.lt
  have ltD : D < h.objs.size := Heap.lt_size d
  have aT : Ap h₀ L news h.objs.size := Ap.fresh F N (Nat.le_refl _)
  have aI : Ap h₀ L news hT.objs.size := Ap.fresh F N (by rw [sT]; exact Nat.le_succ _)
  have S0 : In2 h₀ L m news C D h.objs.size hT.objs.size ([.int (-1) ta, .int 1 tb] : List Value).toArray hI mC ys 0 :=
    ⟨(F.keeps kT).keeps kI, (N.grown kT).grown kI, (c.at' fun o e => kT _ _ e).at' fun o e => kI _ _ e, kI _ _ (kT _ _ d), ⟨_, kI _ _ gT, rfl, _, rfl⟩, iI⟩
  have n2 : h.objs.size ≠ C := Nat.ne_of_gt ltC
  have n3 : h.objs.size ≠ D := Nat.ne_of_gt ltD
  have n4 : hT.objs.size ≠ C := by rw [sT]; exact Nat.ne_of_gt (Nat.lt_succ_of_lt ltC)
  have n5 : hT.objs.size ≠ D := by rw [sT]; exact Nat.ne_of_gt (Nat.lt_succ_of_lt ltD)
  have n6 : h.objs.size ≠ hT.objs.size := by rw [sT]; exact Nat.ne_of_lt (Nat.lt_succ_self _)
  have loop : codeAny (model prog w) A (.compLoop (twoE elt t1 i1 (.Name y py) (tup2 p1 p2 p3 p4) scope' pos) 1 (.ref hT.objs.size) (.ref D) (compEnvC scope cl C env)) (fun r s₅ => ∃ f, r = .ok f ∧ Z s₅) { s with heap := hI, toks := tk1 } := by
    refine in2_turn (P := P (-1)) S0 aC aD aT aI n1 n2 n3 n4 n5 n6 hx hxy (xv := .int (-1) ta) rfl (by omega) hky hkind (fun oC mC' oD oT oI h tk Pq a b c d e f => hbody (-1) ta oC mC' oD _ oT _ oI h tk Pq (.inl rfl) a b c d e f) fun h1 tk1' mC1 v1 P1 S1 hx1 => ?_
    refine in2_turn (P := P 1) S1 aC aD aT aI n1 n2 n3 n4 n5 n6 hx1 hxy (xv := .int 1 tb) rfl (by rw [List.length_append, List.length_singleton]; omega) hky hkind (fun oC mC' oD oT oI h tk Pq a b c d e f => hbody 1 tb oC mC' oD _ oT _ oI h tk Pq (.inr rfl) a b c d e f) fun h2 tk2 mC2 v2 P2 S2 hx2 => ?_
    refine two_turn1 ?_
    refine wpAny_pyNext_tuple_end hh S2.it S2.t rfl fun h3 e3 => ⟨_, rfl, ?_⟩
    have k3 : ∀ b o, b ≠ hT.objs.size → h2.get? b = some o → h3.get? b = some o := e3
    exact hZ h3 _ mC2 v1 v2 P1 P2 (aI.fr S2.F k3) (aI.nw S2.N k3) (S2.c.at' fun o e => k3 _ _ n4.symm e) (k3 _ _ n5.symm S2.d)
  exact two_start1 loop (wpAny_pyIter_tupleiter iI loop)
theorem two_outer {elt : Expr} {x y : Str} {px py p1 p2 p3 p4 : Pos} {i1 : Expr} {scope scope' : Scope} {cl : List (Str × Addr)} {pos : Pos} {env : Env} {news : List (Addr × Obj)} {C D T I : Addr} {its : Array Value} {i : Nat} {h : Heap} {mC : Str → Option Value} {ys : List Value} {tk : Nat} {oo : Int} {to : Tok} {P : Int → Int → Value → Prop}
    (hh : A.handled = none) (S : In2 h₀ L m news C D T I its h mC ys i) (aC : Ap h₀ L news C) (aD : Ap h₀ L news D) (aI : Ap h₀ L news I) (n1 : C ≠ D) (n4 : I ≠ C) (n5 : I ≠ D) (hTn : ∀ h', News h₀ L h' news → h'.IsTuple T its)
    (hi : its[i]? = some (.int oo to)) (hoo : oo = -1 ∨ oo = 1) (hxy : x ≠ y) (hlen : ys.length + 2 ≤ sizeLine)
    (hkx : (compEnvC scope cl C env).kindOf x = some .local) (hky : (compEnvC scope cl C env).kindOf y = some .local) (hkind : scope.kind = .function)
    (hbody : ∀ (oo : Int) (to : Tok) (dd : Int) (td : Tok) (oC : Obj) (mC' : Str → Option Value) (oD : Obj) (T' : Addr) (oT : Obj) (I' : Addr) (oI : Obj) (oI1 : Obj) (h : Heap) (tk : Nat) (Pq : Value → Shared → Prop), (oo = -1 ∨ oo = 1) → (dd = -1 ∨ dd = 1) → LCg.NsObj oC mC' → mC' x = some (.int oo to) → mC' y = some (.int dd td) → Fr h₀ L h m → News h₀ L h ((C, oC) :: (D, oD) :: (T', oT) :: (I', oI) :: (I, oI1) :: news) →
      (∀ v h' tk', P oo dd v → Fr h₀ L h' m → News h₀ L h' ((C, oC) :: (D, oD) :: (T', oT) :: (I', oI) :: (I, oI1) :: news) → Pq v { s with heap := h', toks := tk' }) → wpAny (model prog w) A (eval elt (compEnvC scope cl C env)) Pq No { s with heap := h, toks := tk })
    (next : ∀ h' tk' mC' v1 v2, P oo (-1) v1 → P oo 1 v2 → In2 h₀ L m news C D T I its h' mC' (ys ++ [v1] ++ [v2]) (i + 1) → codeAny (model prog w) A (.compLoop (twoE elt (.Name x px) i1 (.Name y py) (tup2 p1 p2 p3 p4) scope' pos) 0 (.ref I) (.ref D) (compEnvC scope cl C env)) R { s with heap := h', toks := tk' }) :
    codeAny (model prog w) A (.compLoop (twoE elt (.Name x px) i1 (.Name y py) (tup2 p1 p2 p3 p4) scope' pos) 0 (.ref I) (.ref D) (compEnvC scope cl C env)) R { s with heap := h, toks := tk } := by
  refine two_turn0 ?_
  refine wpAny_pyNext_tuple_item S.it S.t hi fun h1 hit1 hs1 => ?_
  have k1 : ∀ b o, b ≠ I → h.get? b = some o → h1.get? b = some o := hs1.extBut
  refine wpAny_assign_Name (wpAny_storeName_local hkx (S.c.at' fun o e => k1 C o n4.symm e) (fun h2 hn2 hs2 => ?_) (by simp [compEnvC, relabel, hkind]))
  have k2 : ∀ b o, b ≠ C → h1.get? b = some o → h2.get? b = some o := hs2.extBut
  obtain ⟨oI, eI, hI⟩ := hit1
  have dI : h2.get? I = some oI := k2 _ _ n4 eI
  have N2 := aC.nw (aI.nw S.N k1) k2
  refine two_inner (news := (I, oI) :: news) (P := P oo) hh (aC.fr (aI.fr S.F k1) k2) (fun q hq => ?_) hn2 (k2 _ _ n1.symm (k1 _ _ n5.symm S.d)) (aC.cons n4) (aD.cons n5) n1 (if_pos rfl) hxy hlen hky hkind
    (fun dd td oC mC' oD T' oT I' oI' h tk Pq hd a b c d e f => hbody oo to dd td oC mC' oD T' oT I' oI' oI h tk Pq hoo hd a b c d e f) fun h3 tk3 mC3 v1 v2 P1 P2 F3 N3 c3 d3 => ?_
  · rcases List.mem_cons.mp hq with rfl | hq
    · exact ⟨dI, aI.ne, aI.no⟩
    · exact N2 q hq
  · have N3' : News h₀ L h3 news := fun q hq => N3 q (List.mem_cons_of_mem _ hq)
    exact next h3 tk3 mC3 v1 v2 P1 P2 ⟨F3, N3', c3, d3, hTn _ N3', ⟨oI, (N3 _ List.mem_cons_self).1, hI⟩⟩
theorem ListComp_two {elt : Expr} {x y : Str} {px py p1 p2 p3 p4 q1 q2 q3 q4 : Pos} {scope : Scope} {cl : List (Str × Addr)} {pos : Pos} {env : Env} {news : List (Addr × Obj)} {P : Int → Int → Value → Prop} {Q : Value → Shared → Prop} {E : Value → Shared → Prop}
    (hh : A.handled = none) (F : Fr h₀ L s.heap m) (N : News h₀ L s.heap news)
    (hclos : closureFor scope env = pure cl) (hcell : ∀ y ∈ scope.names, y.2 ≠ .cell) (hkind : scope.kind = .function)
    (hnames : ∀ y ∈ scope.names, y.2 = .local → scope.names.lookup y.1 = some .local) (hx : scope.names.lookup x = some .local) (hy : scope.names.lookup y = some .local) (hxy : x ≠ y)
    (hbody : ∀ (oo : Int) (to : Tok) (dd : Int) (td : Tok) (C : Addr) (oC : Obj) (mC' : Str → Option Value) (D : Addr) (oD : Obj) (T' : Addr) (oT : Obj) (I' : Addr) (oI : Obj) (I : Addr) (oI1 : Obj) (T : Addr) (oT1 : Obj) (h : Heap) (tk : Nat) (Pq : Value → Shared → Prop), (oo = -1 ∨ oo = 1) → (dd = -1 ∨ dd = 1) → LCg.NsObj oC mC' → mC' x = some (.int oo to) → mC' y = some (.int dd td) → Fr h₀ L h m → News h₀ L h ((C, oC) :: (D, oD) :: (T', oT) :: (I', oI) :: (I, oI1) :: (T, oT1) :: news) →
      (∀ v h' tk', P oo dd v → Fr h₀ L h' m → News h₀ L h' ((C, oC) :: (D, oD) :: (T', oT) :: (I', oI) :: (I, oI1) :: (T, oT1) :: news) → Pq v { s with heap := h', toks := tk' }) → wpAny (model prog w) A (eval elt (compEnvC scope cl C env)) Pq No { s with heap := h, toks := tk })
    (fin : ∀ (D : Addr) v1 v2 v3 v4 h tk, P (-1) (-1) v1 → P (-1) 1 v2 → P 1 (-1) v3 → P 1 1 v4 → Fr h₀ L h m → News h₀ L h ((D, LCg.lst [v1, v2, v3, v4]) :: news) → (∀ q ∈ news, q.1 ≠ D) → Q (.ref D) { s with heap := h, toks := tk }) :
    wpAny (model prog w) A (eval (.ListComp elt [⟨.Name x px, tup2 q1 q2 q3 q4, [], 0⟩, ⟨.Name y py, tup2 p1 p2 p3 p4, [], 0⟩] scope pos) env) Q E s := by
  rw [eval_ListComp]
  refine wpAny_comprehension_free (use := none) rfl (by intro _; rfl) hclos hkind hnames (tup11 fun ta tb tk1 => ?_)
  have kT : ∀ b o, s.heap.get? b = some o → (s.heap.push { cls := .type "tuple", data := .seq ([.int (-1) ta, .int 1 tb] : List Value).toArray }).get? b = some o := fun b o e => Heap.get?_push_of_some _ e
  have gT := Heap.get?_push_size s.heap (o := { cls := .type "tuple", data := .seq ([.int (-1) ta, .int 1 tb] : List Value).toArray }) rfl
  have sT := Heap.size_push s.heap { cls := .type "tuple", data := .seq ([.int (-1) ta, .int 1 tb] : List Value).toArray }
  generalize s.heap.push { cls := .type "tuple", data := .seq ([.int (-1) ta, .int 1 tb] : List Value).toArray } = hT at kT gT sT
  have iT : hT.IsTuple s.heap.objs.size ([.int (-1) ta, .int 1 tb] : List Value).toArray := ⟨_, gT, rfl, _, rfl⟩
  refine wpAny_pyIter_tuple (s := { s with heap := hT, toks := tk1 }) iT ?_
  dsimp only
  have kI : ∀ b o, hT.get? b = some o → (hT.push { cls := .type "tuple_iterator", data := .fields #[.ref s.heap.objs.size, .int 0 0] }).get? b = some o := fun b o e => Heap.get?_push_of_some _ e
  have gI := Heap.get?_push_size hT (o := { cls := .type "tuple_iterator", data := .fields #[.ref s.heap.objs.size, .int 0 0] }) rfl
  have sI := Heap.size_push hT { cls := .type "tuple_iterator", data := .fields #[.ref s.heap.objs.size, .int 0 0] }
  generalize hT.push { cls := .type "tuple_iterator", data := .fields #[.ref s.heap.objs.size, .int 0 0] } = hI at kI gI sI
  refine wpAny_newObj_type (wpAny_newFunctionEnv hcell (by intro y hy; simp at hy) (fun h₁ hns₁ hsb₁ => ?_) hkind)
  dsimp only at hns₁ hsb₁ ⊢
  generalize hH2 : hI.push { cls := .type "list", dict := none, data := .seq ([] : List Value).toArray } = H2 at hns₁ hsb₁ ⊢
  have sD : H2.objs.size = hI.objs.size + 1 := by rw [← hH2, Heap.size_push]
  have old : ∀ b o, hI.get? b = some o → h₁.get? b = some o := fun b o e => hsb₁.extBut b o (Nat.ne_of_lt (by have := Heap.lt_size e; rw [sD]; exact Nat.lt_succ_of_lt this)) (Heap.get?_push_of_some _ (hH2 ▸ Heap.get?_push_of_some _ e))
  have gD : h₁.get? hI.objs.size = some (LCg.lst []) := hsb₁.extBut _ _ (by rw [sD]; exact Nat.ne_of_lt (Nat.lt_succ_self _)) (Heap.get?_push_of_some _ (hH2 ▸ Heap.get?_push_size _ rfl))
  have F1 : Fr h₀ L h₁ m := ((F.keeps kT).keeps kI).keeps old
  have N0 : News h₀ L hI news := (N.grown kT).grown kI
  have aT0 : Ap h₀ L news s.heap.objs.size := Ap.fresh F N (Nat.le_refl _)
  have aI : Ap h₀ L ((s.heap.objs.size, { cls := .type "tuple", data := .seq ([.int (-1) ta, .int 1 tb] : List Value).toArray }) :: news) hT.objs.size := (Ap.fresh F N (by rw [sT]; exact Nat.le_succ _)).cons (by rw [sT]; exact Nat.ne_of_lt (Nat.lt_succ_self _))
  have N1 : News h₀ L h₁ ((s.heap.objs.size, { cls := .type "tuple", data := .seq ([.int (-1) ta, .int 1 tb] : List Value).toArray }) :: news) := fun q hq => by
    rcases List.mem_cons.mp hq with rfl | hq
    · exact ⟨old _ _ (kI _ _ gT), aT0.ne, aT0.no⟩
    · exact (N0.grown old) q hq
  have zD : s.heap.objs.size < hI.objs.size := by rw [sI, sT]; omega
  have zC : s.heap.objs.size < H2.objs.size := by rw [sD, sI, sT]; omega
  have aD : Ap h₀ L ((s.heap.objs.size, { cls := .type "tuple", data := .seq ([.int (-1) ta, .int 1 tb] : List Value).toArray }) :: news) hI.objs.size := (Ap.fresh F N (Nat.le_of_lt zD)).cons (Nat.ne_of_lt zD)
  have aC : Ap h₀ L ((s.heap.objs.size, { cls := .type "tuple", data := .seq ([.int (-1) ta, .int 1 tb] : List Value).toArray }) :: news) H2.objs.size := (Ap.fresh F N (Nat.le_of_lt zC)).cons (Nat.ne_of_lt zC)
  have n1 : H2.objs.size ≠ hI.objs.size := by omega
  have n4 : hT.objs.size ≠ H2.objs.size := by omega
  have n5 : hT.objs.size ≠ hI.objs.size := by omega
  have hTn : ∀ h', News h₀ L h' ((s.heap.objs.size, { cls := .type "tuple", data := .seq ([.int (-1) ta, .int 1 tb] : List Value).toArray }) :: news) → h'.IsTuple s.heap.objs.size ([.int (-1) ta, .int 1 tb] : List Value).toArray := fun h' N' => ⟨_, (N' _ List.mem_cons_self).1, rfl, _, rfl⟩
  have iI : h₁.IsTupleIter hT.objs.size s.heap.objs.size 0 := ⟨_, old _ _ gI, rfl, rfl⟩
  have S0 : In2 h₀ L m ((s.heap.objs.size, { cls := .type "tuple", data := .seq ([.int (-1) ta, .int 1 tb] : List Value).toArray }) :: news) H2.objs.size hI.objs.size s.heap.objs.size hT.objs.size ([.int (-1) ta, .int 1 tb] : List Value).toArray h₁ _ [] 0 :=
    ⟨F1, N1, hns₁, gD, hTn _ N1, iI⟩
  have hkx : (compEnvC scope cl H2.objs.size env).kindOf x = some .local := lookup_relabel_local hx
  have hky : (compEnvC scope cl H2.objs.size env).kindOf y = some .local := lookup_relabel_local hy
  have big : 100 ≤ sizeLine := by rw [PySem.sizeLine_eq]; decide
  have loop : ∀ s₃ : Shared, s₃ = { s with heap := h₁, toks := tk1 + ([] : List (Str × Value)).length } →
      codeAny (model prog w) A (.compLoop (twoE elt (.Name x px) (tup2 q1 q2 q3 q4) (.Name y py) (tup2 p1 p2 p3 p4) scope pos) 0 (.ref hT.objs.size) (.ref hI.objs.size) (compEnvC scope cl H2.objs.size env))
        (compPost (model prog w) A E none Q (.ref hI.objs.size) H2.objs.size) s₃ := by
    rintro s₃ rfl
    refine two_outer (P := P) (oo := -1) (to := ta) hh S0 aC aD aI n1 n4 n5 hTn rfl (.inl rfl) hxy (by simp only [List.length_nil]; omega) hkx hky hkind (fun oo to dd td oC mC' oD T' oT I' oI oI1 h tk Pq a b c d e f g k => hbody oo to dd td _ oC mC' _ oD T' oT I' oI _ oI1 _ _ h tk Pq a b c d e f g k) fun h2 tk2 mC2 v1 v2 P1 P2 S1 => ?_
    refine two_outer (P := P) (oo := 1) (to := tb) hh S1 aC aD aI n1 n4 n5 hTn rfl (.inr rfl) hxy (by simp only [List.length_append, List.length_singleton, List.length_nil]; omega) hkx hky hkind (fun oo to dd td oC mC' oD T' oT I' oI oI1 h tk Pq a b c d e f g k => hbody oo to dd td _ oC mC' _ oD T' oT I' oI _ oI1 _ _ h tk Pq a b c d e f g k) fun h3 tk3 mC3 v3 v4 P3 P4 S2 => ?_
    refine two_turn0 ?_
    refine wpAny_pyNext_tuple_end hh S2.it S2.t rfl fun h4 e4 => ?_
    have k4 : ∀ b o, b ≠ hT.objs.size → h3.get? b = some o → h4.get? b = some o := e4
    refine ⟨mC3, S2.c.at' fun o e => k4 _ _ n4.symm e, fun h5 hs5 => ?_⟩
    have k5 : ∀ b o, b ≠ H2.objs.size → h4.get? b = some o → h5.get? b = some o := hs5.extBut
    have N5 := aC.nw (aI.nw S2.N k4) k5
    refine fin _ v1 v2 v3 v4 h5 _ P1 P2 P3 P4 (aC.fr (aI.fr S2.F k4) k5) (fun q hq => ?_) (fun q hq => aD.off q (List.mem_cons_of_mem _ hq))
    rcases List.mem_cons.mp hq with rfl | hq
    · exact ⟨k5 _ _ n1.symm (k4 _ _ n5.symm S2.d), aD.ne, aD.no⟩
    · exact N5 q (List.mem_cons_of_mem _ hq)
  exact codeAny_compStart_list (loop _ rfl) (wpAny_pyIter_tupleiter iI (loop _ rfl))
end
end Mine
-- StG
namespace Mine
theorem top_off_StG : True := by
  w_top off
  exact trivial
variable {w : World} {mean : ExcName → Option Value} {mg mb : Str → Option Value}
theorem rk_mem {k : Int} {n : Nat} (h : k ∈ rangeKs 0 n) : 0 ≤ k ∧ k < (n : Int) := by
  simp only [rangeKs, List.mem_map, List.mem_range] at h
  obtain ⟨i, hi, rfl⟩ := h
  omega
theorem set_StG_1 : True := by
  (k_with_none)
  (k_with "room" => ((try dsimp only [Ar]); first | exact rm0 (by assumption) (by decide) | exact rm (by assumption) (by decide) | omega))
  (k_with "CallL" => (k_whole; intro l' ws' c' h' tk' F' N' l1 hraw hI'; clear l1; (try k_sweep)))
  (k_with "CallI" => (k_whole; intro t' h' tk' F' N'; (try k_sweep)))
  (k_with "ktn_step" => repeat' (first | (k_unfold; (try dsimp only)) | (k_end; wrow_close) | (walk1; (try dsimp only)) | (dsimp only; walk1) | (leave1; try dsimp only) | fail "no step"))
  (k_with "ktn_open" => (repeat (first | assumption | refine (if_neg (by decide)).trans ?_)))
  (k_with "tb_start" => first | exact IsInts.news (by k_asm) (by k_mem) (by first | with_reducible assumption | exact IntsAre.nil | exact IntsAre.cons _ _ .nil | exact IntsAre.cons _ _ (IntsAre.cons _ _ .nil)) | exact IsInts.base (by k_asm) (by assumption) (by with_reducible assumption) | (refine And.intro ?_ ?_ <;> tb_start) | exact trivial)
  (k_with "tb_rel" => first | omega | assumption | ((simp only [List.length_map, rangeKs_length, List.length_take, List.length_cons, List.length_nil, List.length_replicate]); first | omega | (split <;> omega)))
  (k_with "k_ne" => ((try dsimp only); first | exact ne_raw (by assumption) (by k_mem) | exact Ne.symm (ne_raw (by assumption) (by k_mem)) | fail "k_ne"))
  (k_with "FinE" => ((unfold LCg.FinE); intro D' h' tk' F' N' o1'; (replace o1' := off1_raw o1'); (try simp only [List.nil_append, List.cons_append] at N'); (try dsimp only)))
  (k_with "CompSrc" => (k_here; k_dflt (first
  | (refine LCg.CompSrc.range (by rfl) (by k_asm) (by k_asm) (by assumption) (by exact small_one (by omega) (by omega) (by omega) (by omega)) (by exact rangeSize_nat _ _) (by rw [PySem.sizeLine_eq]; omega) ?_; intro g'; (refine' kcf_range _ (fun k' t' I' oI' C' oC' D' m' ys' h' tk' E' hlo' hhi' hC' hx' F' N' off' ne' hMark' => ?_) ?_); (all_goals (try clear ne')); kcf_last)
  | (refine LCg.CompSrc.ledger (by rfl) (by k_asm) (by k_asm) (by k_mem) (by kcf_size) ?_; intro g'; (refine' kcf_list _ (by assumption) (fun k' t' I' oI' C' oC' D' m' ys' h' tk' E' hk' hC' hx' F' N' off' ne' hMark' => ?_) ?_); (all_goals (try clear ne')); kcf_last))))
  (k_with "CompSrcT" => (k_here; k_dflt (first
  | (refine LCt.CompSrcT.range (by rfl) (by k_asm) (by k_asm) (by assumption) (by exact small_one (by omega) (by omega) (by omega) (by omega)) (by exact rangeSize_nat _ _) (by rw [PySem.sizeLine_eq]; omega) ?_; intro g'; (refine' kci_range _ (fun k' t' I' oI' C' oC' D' m' ys' l' h' tk' E' hlo' hhi' hI' hC' hx' F' N' off' ne' => ?_) ?_ ?_); (all_goals (try clear ne')); (all_goals (try ((show KPfMark → _); intro hMark'))); kcf_last)
  | (refine LCt.CompSrcT.ledger (by rfl) (by k_asm) (by k_asm) (by k_mem) (by kcf_size) ?_; intro g'; (refine' kci_list _ (by assumption) (fun k' t' I' oI' C' oC' D' m' ys' l' h' tk' E' hk' hI' hC' hx' F' N' off' ne' => ?_) ?_ ?_); (all_goals (try clear ne')); (all_goals (try (have hb9' := rk_mem hk'))); (all_goals (try ((show KPfMark → _); intro hMark'))); kcf_last))))
  (k_with "CompEnd" => (refine' compEnd (by assumption) (by assumption) (by assumption) (fun q hq => by repeat (first | exact hq | refine List.mem_cons_of_mem _ ?_)) (by first | exact True.intro | lcg_src) ?_))
  (k_with "eval ListComp" => (k_here; (with_reducible show wpAny _ _ (eval (PySem.Expr.ListComp _ [_, _] _ _) _) _ _ _); refine hold ?_))
  (k_with "tb_rel" => first | omega | assumption | (constructor <;> omega))
  exact trivial
def GFact (n a p kv : Int) : Prop := kv = ((List.foldl (fun l' k' => if (worthsOf n a p).getD k'.toNat 0 = k' then l' ++ [k'] else l') [] (rangeKs 0 p.toNat)).length : Int) ∧ 2 * kv = shared (n + -1) (p + -1) + (shared (n + -1) (p + 1) + (shared (n + 1) (p + -1) + (shared (n + 1) (p + 1) + 0))) - 2 * (1 + n.fmod 2)
theorem set_StG_2 : True := by
  (k_with "call ref" => (k_here; (with_reducible show wpAny _ _ (call (Value.ref 175) [Value.int _ _, Value.int _ _]) _ _ _); refine' useI ?_ (C := shared_tells _ _ _ _ (by tb_rel) (by tb_rel)); k_extra "CallI"))
  exact trivial
variable {h₀ : Heap} {L fa : Addr} {cd : Value} {m₀ : Str → Option Value} {dp un : Nat} {gd : Option (List Code)} {fr : Option (List Env)} {s : Shared} {Q : Flow → Shared → Prop} {n a p m : Int} {tn ta tp tm : Tok} {o1 o2 o3 o4 o5 o6 o7 : Obj} {b : List Stmt} {sc : Scope}
variable {Dth Dw Db : Addr} {wth ww wb : List Value} {cth cw cb : Nat}
variable {kv : Int} {tkv : Tok}
theorem stageG (hb : b = (bodyOf 30).drop 17) (hsc : sc = scopeOf 30) (X : (hd.heap_39 w.params).In h₀) (T : Top hd.view_39 (looseW hd.view_39 []) mean mg mb h₀) (hdp : dp + 30 < recursionLimit) (hun : un + 100 < cLine) (F : Fr h₀ L s.heap m₀) (N : News h₀ L s.heap [(Dth, listOf (List.toArray wth) cth), (Dw, listOf (List.toArray ww) cw), (Db, listOf (List.toArray wb) cb), (L + 1 + 1 + 1 + 1 + 1 + 1 + 1, o7), (L + 1 + 1 + 1 + 1 + 1 + 1, o6), (L + 1 + 1 + 1 + 1 + 1, o5), (L + 1 + 1 + 1 + 1, o4), (L + 1 + 1 + 1, o3), (L + 1 + 1, o2), (L + 1, o1)])
    (d1 : o1.data = .cell (some (.int n tn))) (d2 : o2.data = .cell (some (.int a ta))) (d3 : o3.data = .cell (some (.int p tp))) (d4 : o4.data = .cell (some (.ref Db))) (d5 : o5.data = .cell (some (.ref Dw))) (hth : m₀ "things" = some (.ref Dth)) (iT : IntsAre wth (rangeKs 0 p.toNat)) (iW : IntsAre ww (worthsOf n a p)) (iB : IntsAre wb (mreduce (lawOf n a) p))
    (hn : 1 ≤ n ∧ n ≤ 8) (ha : -2 ≤ a ∧ a ≤ 2) (hp : 3 ≤ p ∧ p ≤ 7) (r1 : (∀ q ∈ [(L + 1 + 1 + 1 + 1 + 1 + 1 + 1, o7), (L + 1 + 1 + 1 + 1 + 1 + 1, o6), (L + 1 + 1 + 1 + 1 + 1, o5), (L + 1 + 1 + 1 + 1, o4), (L + 1 + 1 + 1, o3), (L + 1 + 1, o2), (L + 1, o1)], q.1 ≠ Dth)) (r2 : (∀ q ∈ [(L + 1 + 1 + 1 + 1 + 1 + 1 + 1, o7), (L + 1 + 1 + 1 + 1 + 1 + 1, o6), (L + 1 + 1 + 1 + 1 + 1, o5), (L + 1 + 1 + 1 + 1, o4), (L + 1 + 1 + 1, o3), (L + 1 + 1, o2), (L + 1, o1)], q.1 ≠ Dw)) (r3 : (∀ q ∈ [(L + 1 + 1 + 1 + 1 + 1 + 1 + 1, o7), (L + 1 + 1 + 1 + 1 + 1 + 1, o6), (L + 1 + 1 + 1 + 1 + 1, o5), (L + 1 + 1 + 1 + 1, o4), (L + 1 + 1 + 1, o3), (L + 1 + 1, o2), (L + 1, o1)], q.1 ≠ Db))
    (hk : m₀ "kept" = some (.int kv tkv)) (hG : GFact n a p kv)
    (hret : ∀ h' tk m', Fr h₀ L h' m' → Q (.ret (.bool true)) { s with heap := h', toks := tk }) :
    wpAny (model PySem.Challenge.rw_xm0118_01.row.prog w) ((Ar dp un gd fr).deeper (envOfC (Str.ofString "law") sc L fa cd)) (execs b (envOfC (Str.ofString "law") sc L fa cd)) Q (fun _ _ => False) s := by
  conv at hb => rhs; whnf
  conv at hsc => rhs; whnf
  subst hb
  subst hsc
  replace F := frv F hth
  replace F := frv F (x := "kept") (by ktn_open)
  have hp2 : 0 < p ∧ p < 100 := ⟨by omega, by omega⟩
  have hwl := worthsOf_length n a p
  have hsz : wth.toArray.size = p.toNat := by rw [List.size_toArray, iT.length, rangeKs_length]
  revert X
  k_fill
  intro X
  (try k_unmd)
  ktn_step
  refine' unhold (ListComp_two (P := fun o d v => ∃ t, v = .int (shared (n + o) (p + d)) t) ?hh ?F ?N ?hclos ?hcell ?hkind ?hnames ?hx ?hy ?hxy ?hbody ?fin)
  (case hh => rfl)
  (case F => k_asm)
  (case N => k_asm)
  (case hclos => with_unfolding_all rfl)
  (case hcell => decide)
  (case hkind => rfl)
  (case hnames => decide)
  (case hx => rfl)
  (case hy => rfl)
  (case hxy => decide)
  case hbody =>
    intro oo to dd td C oC mC' D oD T' oT I' oI I oI1 T9 oT1 h' tk' Pq hoo hdd hC' hx' hy' F' N' hP
    ktn_step
    all_goals (with_reducible rename Fr _ _ _ _ => F9)
    all_goals (with_reducible rename News _ _ _ _ => N9)
    exact hP _ _ _ ⟨_, rfl⟩ F9 N9
  case fin =>
    intro D v1 v2 v3 v4 h' tk' P1 P2 P3 P4 F' N' o1'
    obtain ⟨t1, rfl⟩ := P1
    obtain ⟨t2, rfl⟩ := P2
    obtain ⟨t3, rfl⟩ := P3
    obtain ⟨t4, rfl⟩ := P4
    ktn_step
    all_goals (with_reducible rename Fr _ _ _ _ => F9)
    · rw [beq_iff_eq.mpr hG.2]
      exact hret _ _ _ F9
    · rw [beq_iff_eq.mpr hG.1]
      exact hret _ _ _ F9
end Mine
-- Fact
namespace Mine
variable {w : World} {mean : ExcName → Option Value} {mg mb : Str → Option Value}
def eqA (n a p : Int) : Bool := decide (((keptIn n a p).length : Int) = ((p - 1).fdiv (shared n (p - 1)) + 2).fdiv 2 + ((p + 1).fdiv (shared n (p + 1)) + 2).fdiv 2 - 1 - (if ((p - 1).fdiv (shared n (p - 1))).fmod 2 = 0 ∧ ((p + 1).fdiv (shared n (p + 1))).fmod 2 = 0 then 1 else 0))
def fixL (n a p : Int) : List Int := List.foldl (fun l' k' => if (worthsOf n a p).getD k'.toNat 0 = k' then l' ++ [k'] else l') [] (rangeKs 0 p.toNat)
def eqG (n a p kv : Int) : Bool := decide (kv = ((fixL n a p).length : Int)) && decide (2 * kv = shared (n + -1) (p + -1) + (shared (n + -1) (p + 1) + (shared (n + 1) (p + -1) + (shared (n + 1) (p + 1) + 0))) - 2 * (1 + n.fmod 2))
def gcdE (n a p : Int) : Option (List Int) := mgcd 60 (msub (mreduce (lawOf n a) p) [0, 1] p) ([0, p - 1] ++ (List.replicate (p - 2).toNat [0]).flatten ++ [1]) p
def backL (n wv : Int) : List Int := List.foldl (fun (l' : List Int) (k' : Int) => if (k' * n).fmod wv = 1 then l' ++ [k'] else l') [] (rangeKs 1 (wv - 1).toNat)
def cB (n a p : Int) : Bool := (rangeKs 1 (p - 1).toNat).all fun u => decide ((worthsOf n a p).getD ((u + otherOf a p u).fmod p).toNat 0 = (u ^ n.toNat + otherOf a p u ^ n.toNat).fmod p)
def cC (n a p : Int) : Bool := decide (shared n (wholeOf a p) = 1) == decide (isort (worthsOf n a p) = rangeKs 0 p.toNat)
def cD (n a p : Int) : Bool := !decide (shared n (wholeOf a p) = 1) || (decide (0 < (backL n (wholeOf a p)).length) && decide (0 < (backL n (wholeOf a p)).getD (Int.toNat 0) 0) && decide ((backL n (wholeOf a p)).getD (Int.toNat 0) 0 < 1000) && decide ((worthsOf n a p).map (fun k => worth ((backL n (wholeOf a p)).getD (Int.toNat 0) 0) (a ^ n.toNat) k p) = rangeKs 0 p.toNat))
def cE (n a p : Int) : Bool := !decide (a = 1) || eqA n a p
def cF (n a p : Int) : Bool := !decide (a = 1) || match gcdE n a p with
  | some g => decide (g.length < 100) && eqG n a p (g.length - 1)
  | none => false
def cW (n a p : Int) : Bool := (worthsOf n a p).all fun x => decide (-2 ^ 62 < x) && decide (x < 2 ^ 62)
def cS (n p : Int) : Bool := decide (1 ≤ shared n (p - 1)) && decide (shared n (p - 1) ≤ 8) && decide (1 ≤ shared n (p + 1)) && decide (shared n (p + 1) ≤ 8)
def fact2 (n a p : Int) : Bool := cB n a p && (cC n a p && (cD n a p && (cE n a p && (cF n a p && (cW n a p && cS n p)))))
theorem m1 : ([-2, -1, 0, 1, 2].all fun a => [1, 2, 3].all fun m => chk1 1 a m) = true := by decide +kernel
theorem p1 : ([-2, -1, 0, 1, 2].all fun a => [3, 5, 7].all fun p => fact2 1 a p) = true := by decide +kernel
theorem m2 : ([-2, -1, 0, 1, 2].all fun a => [1, 2, 3].all fun m => chk1 2 a m) = true := by decide +kernel
theorem p2 : ([-2, -1, 0, 1, 2].all fun a => [3, 5, 7].all fun p => fact2 2 a p) = true := by decide +kernel
theorem m3 : ([-2, -1, 0, 1, 2].all fun a => [1, 2, 3].all fun m => chk1 3 a m) = true := by decide +kernel
theorem p3 : ([-2, -1, 0, 1, 2].all fun a => [3, 5, 7].all fun p => fact2 3 a p) = true := by decide +kernel
theorem m4 : ([-2, -1, 0, 1, 2].all fun a => [1, 2, 3].all fun m => chk1 4 a m) = true := by decide +kernel
theorem p4 : ([-2, -1, 0, 1, 2].all fun a => [3, 5, 7].all fun p => fact2 4 a p) = true := by decide +kernel
theorem m5 : ([-2, -1, 0, 1, 2].all fun a => [1, 2, 3].all fun m => chk1 5 a m) = true := by decide +kernel
theorem p5 : ([-2, -1, 0, 1, 2].all fun a => [3, 5, 7].all fun p => fact2 5 a p) = true := by decide +kernel
theorem m6 : ([-2, -1, 0, 1, 2].all fun a => [1, 2, 3].all fun m => chk1 6 a m) = true := by decide +kernel
theorem p6 : ([-2, -1, 0, 1, 2].all fun a => [3, 5, 7].all fun p => fact2 6 a p) = true := by decide +kernel
theorem m7 : ([-2, -1, 0, 1, 2].all fun a => [1, 2, 3].all fun m => chk1 7 a m) = true := by decide +kernel
theorem p7 : ([-2, -1, 0, 1, 2].all fun a => [3, 5, 7].all fun p => fact2 7 a p) = true := by decide +kernel
theorem m8 : ([-2, -1, 0, 1, 2].all fun a => [1, 2, 3].all fun m => chk1 8 a m) = true := by decide +kernel
theorem p8 : ([-2, -1, 0, 1, 2].all fun a => [3, 5, 7].all fun p => fact2 8 a p) = true := by decide +kernel
theorem mem_a {a : Int} (ha : -2 ≤ a ∧ a ≤ 2) : a ∈ [-2, -1, 0, 1, 2] := by
  obtain ⟨h, h'⟩ := ha
  rcases peel h with rfl | h
  · decide
  rcases peel h with rfl | h
  · decide
  rcases peel h with rfl | h
  · decide
  rcases peel h with rfl | h
  · decide
  rcases peel h with rfl | h
  · decide
  exact absurd (Int.le_trans h h') (by decide)
theorem mem_m {m : Int} (hm : 1 ≤ m ∧ m ≤ 3) : m ∈ [1, 2, 3] := by
  obtain ⟨h, h'⟩ := hm
  rcases peel h with rfl | h
  · decide
  rcases peel h with rfl | h
  · decide
  rcases peel h with rfl | h
  · decide
  exact absurd (Int.le_trans h h') (by decide)
theorem cases8 {P : Int → Prop} {n : Int} (hn : 1 ≤ n ∧ n ≤ 8) (h1 : P 1) (h2 : P 2) (h3 : P 3) (h4 : P 4) (h5 : P 5) (h6 : P 6) (h7 : P 7) (h8 : P 8) : P n := by
  obtain ⟨h, h'⟩ := hn
  rcases peel h with rfl | h
  · exact h1
  rcases peel h with rfl | h
  · exact h2
  rcases peel h with rfl | h
  · exact h3
  rcases peel h with rfl | h
  · exact h4
  rcases peel h with rfl | h
  · exact h5
  rcases peel h with rfl | h
  · exact h6
  rcases peel h with rfl | h
  · exact h7
  rcases peel h with rfl | h
  · exact h8
  exact absurd (Int.le_trans h h') (by decide)
theorem mem_p {p : Int} (hp : p = 3 ∨ p = 5 ∨ p = 7) : p ∈ [3, 5, 7] := by
  rcases hp with rfl | rfl | rfl <;> decide
theorem all_m {n a m : Int} (hn : 1 ≤ n ∧ n ≤ 8) (ha : -2 ≤ a ∧ a ≤ 2) (hm : 1 ≤ m ∧ m ≤ 3) : chk1 n a m = true := by
  have e : ∀ {k : Int}, ([-2, -1, 0, 1, 2].all fun a => [1, 2, 3].all fun m => chk1 k a m) = true → chk1 k a m = true := fun h => List.all_eq_true.mp (List.all_eq_true.mp h a (mem_a ha)) m (mem_m hm)
  exact cases8 (P := fun n => chk1 n a m = true) hn (e m1) (e m2) (e m3) (e m4) (e m5) (e m6) (e m7) (e m8)
theorem all_p {n a p : Int} (hn : 1 ≤ n ∧ n ≤ 8) (ha : -2 ≤ a ∧ a ≤ 2) (hp : p = 3 ∨ p = 5 ∨ p = 7) : fact2 n a p = true := by
  have e : ∀ {k : Int}, ([-2, -1, 0, 1, 2].all fun a => [3, 5, 7].all fun p => fact2 k a p) = true → fact2 k a p = true := fun h => List.all_eq_true.mp (List.all_eq_true.mp h a (mem_a ha)) p (mem_p hp)
  exact cases8 (P := fun n => fact2 n a p = true) hn (e p1) (e p2) (e p3) (e p4) (e p5) (e p6) (e p7) (e p8)
theorem chk1_of {n a m : Int} (h : chk1 n a m = true) : (-100000 < a ^ n.toNat ∧ a ^ n.toNat < 100000) ∧ (lawOf n a).length < 1000 ∧ compose (lawOf m (a ^ n.toNat)) (lawOf n a) = some (lawOf (m * n) a) := by
  unfold chk1 at h
  simp only [Bool.and_eq_true, decide_eq_true_eq] at h
  exact ⟨⟨h.1.1.1, h.1.1.2⟩, h.1.2, h.2⟩
theorem fact2_of {n a p : Int} (h : fact2 n a p = true) : cB n a p = true ∧ cC n a p = true ∧ cD n a p = true ∧ cE n a p = true ∧ cF n a p = true ∧ cW n a p = true ∧ cS n p = true := by
  unfold fact2 at h
  simp only [Bool.and_eq_true] at h
  exact h
theorem cB_of {n a p : Int} (hp : 3 ≤ p) (h : cB n a p = true) (u : Int) (h1 : 1 ≤ u) (h2 : u < p) : (worthsOf n a p).getD ((u + otherOf a p u).fmod p).toNat 0 = (u ^ n.toNat + otherOf a p u ^ n.toNat).fmod p :=
  of_decide_eq_true (List.all_eq_true.mp h u (List.mem_map.mpr ⟨(u - 1).toNat, List.mem_range.mpr (by omega), by omega⟩))
theorem cC_of {n a p : Int} (h : cC n a p = true) : shared n (wholeOf a p) = 1 ↔ isort (worthsOf n a p) = rangeKs 0 p.toNat :=
  decide_eq_decide.mp (beq_iff_eq.mp h)
theorem cD_of {n a p : Int} (h : cD n a p = true) (h1 : shared n (wholeOf a p) = 1) : 0 < (backL n (wholeOf a p)).length ∧ (0 < (backL n (wholeOf a p)).getD (Int.toNat 0) 0 ∧ (backL n (wholeOf a p)).getD (Int.toNat 0) 0 < 1000) ∧ (worthsOf n a p).map (fun k => worth ((backL n (wholeOf a p)).getD (Int.toNat 0) 0) (a ^ n.toNat) k p) = rangeKs 0 p.toNat := by
  unfold cD at h
  rw [decide_eq_true h1, Bool.not_true, Bool.false_or] at h
  simp only [Bool.and_eq_true, decide_eq_true_eq] at h
  exact ⟨h.1.1.1, ⟨h.1.1.2, h.1.2⟩, h.2⟩
theorem cE_of {n a p : Int} (h : cE n a p = true) (h1 : a = 1) : EFact n a p := by
  unfold cE at h
  rw [decide_eq_true h1, Bool.not_true, Bool.false_or] at h
  unfold eqA at h
  unfold EFact
  exact of_decide_eq_true h
theorem cF_of {n a p : Int} (h : cF n a p = true) (h1 : a = 1) : ∃ g, gcdE n a p = some g ∧ g.length < 100 ∧ GFact n a p (g.length - 1) := by
  unfold cF at h
  rw [decide_eq_true h1, Bool.not_true, Bool.false_or] at h
  cases e : gcdE n a p with
  | none => rw [e] at h; exact absurd h Bool.false_ne_true
  | some g =>
    rw [e] at h
    dsimp only at h
    rw [Bool.and_eq_true] at h
    have h2 := h.2
    unfold eqG at h2
    rw [Bool.and_eq_true] at h2
    exact ⟨g, rfl, of_decide_eq_true h.1, of_decide_eq_true h2.1, of_decide_eq_true h2.2⟩
theorem cW_of {n a p : Int} (h : cW n a p = true) (x : Int) (hx : x ∈ worthsOf n a p) : -2 ^ 62 < x ∧ x < 2 ^ 62 := by
  have := List.all_eq_true.mp h x hx
  rw [Bool.and_eq_true] at this
  exact ⟨of_decide_eq_true this.1, of_decide_eq_true this.2⟩
theorem cS_of {n p : Int} (h : cS n p = true) : (1 ≤ shared n (p - 1) ∧ shared n (p - 1) ≤ 8) ∧ (1 ≤ shared n (p + 1) ∧ shared n (p + 1) ≤ 8) := by
  unfold cS at h
  simp only [Bool.and_eq_true, decide_eq_true_eq] at h
  exact ⟨⟨h.1.1.1, h.1.1.2⟩, h.1.2, h.2⟩
theorem whole_bd {a p : Int} (hp : p = 3 ∨ p = 5 ∨ p = 7) : 2 ≤ wholeOf a p ∧ wholeOf a p < 49 := by
  unfold wholeOf
  rcases hp with rfl | rfl | rfl <;> split <;> omega
end Mine
-- Rest
namespace Mine
variable {w : World} {mean : ExcName → Option Value} {mg mb : Str → Option Value}
variable {h₀ : Heap} {L fa : Addr} {cd : Value} {m₀ : Str → Option Value} {dp un : Nat} {gd : Option (List Code)} {fr : Option (List Env)} {s : Shared} {Q : Flow → Shared → Prop} {n a p m : Int} {tn ta tp tm : Tok} {o1 o2 o3 o4 o5 o6 o7 : Obj} {b : List Stmt} {sc : Scope}
theorem off_map {D : Addr} {A B : List (Addr × Obj)} (r : ∀ q ∈ A, q.1 ≠ D) (e : A.map Prod.fst = B.map Prod.fst) : ∀ q ∈ B, q.1 ≠ D := fun q hq => by
  have h : q.1 ∈ B.map Prod.fst := List.mem_map.mpr ⟨q, hq, rfl⟩
  rw [← e] at h
  obtain ⟨p, hp, e'⟩ := List.mem_map.mp h
  exact e' ▸ r p hp
theorem offc {L D : Addr} {o1 o2 o3 o4 o5 o6 o7 x1 x2 x3 x4 x5 x6 x7 : Obj} (r : ∀ q ∈ [(L + 1 + 1 + 1 + 1 + 1 + 1 + 1, o7), (L + 1 + 1 + 1 + 1 + 1 + 1, o6), (L + 1 + 1 + 1 + 1 + 1, o5), (L + 1 + 1 + 1 + 1, o4), (L + 1 + 1 + 1, o3), (L + 1 + 1, o2), (L + 1, o1)], q.1 ≠ D) : ∀ q ∈ [(L + 1 + 1 + 1 + 1 + 1 + 1 + 1, x7), (L + 1 + 1 + 1 + 1 + 1 + 1, x6), (L + 1 + 1 + 1 + 1 + 1, x5), (L + 1 + 1 + 1 + 1, x4), (L + 1 + 1 + 1, x3), (L + 1 + 1, x2), (L + 1, x1)], q.1 ≠ D := off_map r rfl
theorem law_rest (hb : b = (bodyOf 30).drop 3) (hsc : sc = scopeOf 30) (X : (hd.heap_39 w.params).In h₀) (T : Top hd.view_39 (looseW hd.view_39 []) mean mg mb h₀) (hdp : dp + 30 < recursionLimit) (hun : un + 100 < cLine)
    (F : Fr h₀ L s.heap m₀) (N : News h₀ L s.heap [(L + 1 + 1 + 1 + 1 + 1 + 1 + 1, o7), (L + 1 + 1 + 1 + 1 + 1 + 1, o6), (L + 1 + 1 + 1 + 1 + 1, o5), (L + 1 + 1 + 1 + 1, o4), (L + 1 + 1 + 1, o3), (L + 1 + 1, o2), (L + 1, o1)])
    (d1 : o1.data = .cell (some (.int n tn))) (d2 : o2.data = .cell (some (.int a ta))) (d3 : o3.data = .cell (some (.int p tp))) (d4 : o4.data = .cell none) (d5 : o5.data = .cell none) (d6 : o6.data = .cell none) (d7 : o7.data = .cell none)
    (hm : m₀ "m" = some (.int m tm)) (hn : 1 ≤ n ∧ n ≤ 8) (ha : -2 ≤ a ∧ a ≤ 2) (hp3 : p = 3 ∨ p = 5 ∨ p = 7) (hmm : 1 ≤ m ∧ m ≤ 3)
    (hret : ∀ h' tk m', Fr h₀ L h' m' → Q (.ret (.bool true)) { s with heap := h', toks := tk }) :
    wpAny (model PySem.Challenge.rw_xm0118_01.row.prog w) ((Ar dp un gd fr).deeper (envOfC (Str.ofString "law") sc L fa cd)) (execs b (envOfC (Str.ofString "law") sc L fa cd)) Q (fun _ _ => False) s := by
  have hp : 3 ≤ p ∧ p ≤ 7 := by omega
  obtain ⟨hpw, htl, hcomp⟩ := chk1_of (all_m hn ha hmm)
  obtain ⟨fB, fC, fD, fE, fF, fW, fS⟩ := fact2_of (all_p hn ha hp3)
  have hmn : m * n < 1000 ∧ 0 < m * n := ⟨Int.lt_of_le_of_lt (Int.mul_le_mul hmm.2 hn.2 (by omega) (by decide)) (by decide), Int.mul_pos (by omega) (by omega)⟩
  refine stageA hb hsc X T hdp hun F N d1 d2 d3 d4 d5 d6 d7 hm hn ha hp hmm hpw htl hcomp hmn fun bA hA tkA mA Dth wth cth Dw ww cw Db wb cb o4x o5x eA FA NA d4A d5A thA iT iW iB r1 r2 r3 => ?_
  refine stageB eA hsc X T hdp hun FA NA d1 d2 d3 d4A d5A thA iT iW iB hn ha hp (cB_of hp.1 fB) fun bB hB tkB mB eB FB NB thB => ?_
  refine stageC eB hsc X T hdp hun FB NB d1 d2 d3 d4A d5A thB iT iW iB hn ha hp r1 r2 r3 d6 d7 (cC_of fC) fun bC hC tkC mC o6x t6 eC FC NC d6C thC onC => ?_
  refine stageD eC hsc X T hdp hun FC NC d1 d2 d3 d4A d5A thC iT iW iB hn ha hp (fun q hq => offc r1 q hq) (fun q hq => offc r2 q hq) (fun q hq => offc r3 q hq) d6C d7 onC (whole_bd hp3) (cD_of fD) (cW_of fW) hpw fun bD hD tkD mD o7x eD FD ND thD => ?_
  refine stageE eD hsc X T hdp hun FD ND d1 d2 d3 d4A d5A thD iT iW iB hn ha hp (fun q hq => offc r1 q hq) (fun q hq => offc r2 q hq) (fun q hq => offc r3 q hq) hret (cS_of fS) (cE_of fE) fun bE hE tkE mE a1 eE FE NE thE => ?_
  obtain ⟨g, hg, hgl, hG⟩ := cF_of fF a1
  refine stageF eE hsc X T hdp hun FE NE d1 d2 d3 d4A d5A thE iT iW iB hn ha hp (fun q hq => offc r1 q hq) (fun q hq => offc r2 q hq) (fun q hq => offc r3 q hq) hg hgl (Nat.lt_of_le_of_lt (mreduce_length_le _ _) htl) fun bF hF tkF mF t9 eF FF NF thF kF => ?_
  exact stageG eF hsc X T hdp hun FF NF d1 d2 d3 d4A d5A thF iT iW iB hn ha hp (fun q hq => offc r1 q hq) (fun q hq => offc r2 q hq) (fun q hq => offc r3 q hq) kF hG hret
end Mine
-- Tk
namespace Mine
theorem top_off_Tk : True := by
  w_top off
  exact trivial
variable {w : World} {mean : ExcName → Option Value} {mg mb : Str → Option Value}
theorem set_Tk_1 : True := by
  (k_with_none)
  (k_with "k_all" => assumption)
  exact trivial
/-- a frame made over another: the frame below and its ledger stand in the ledger of the one above -/
theorem news_over {h₀ h h₁ : Heap} {L : Addr} {m m' : Str → Option Value} {news : List (Addr × Obj)} (F : Fr h₀ L h m) (N : News h₀ L h news) (F₁ : Fr h h.objs.size h₁ m') :
    ∃ oL, Fr h₀ h.objs.size h₁ m' ∧ News h₀ h.objs.size h₁ (news ++ [(L, oL)]) ∧ (∀ p ∈ news, p.1 ≠ L) ∧ ∀ h₂ : Heap, h₂.get? L = some oL → h₂.Ns L m := by
  obtain ⟨oL, a1, a2, hL, a3⟩ := F.ns
  refine ⟨oL, ⟨F₁.ns, fun b o e => F₁.keep _ _ (F.keep _ _ e), Nat.le_trans F.above (Nat.le_of_lt (Heap.lt_size hL))⟩, fun p hp => ?_, fun p hp => (N p hp).2.1, fun h₂ e => ⟨oL, a1, a2, e, a3⟩⟩
  have up : ∀ (b : Addr) o, h.get? b = some o → h₁.get? b = some o ∧ b ≠ h.objs.size := fun b o e => ⟨F₁.keep _ _ e, Nat.ne_of_lt (Heap.lt_size e)⟩
  rcases List.mem_append.mp hp with hp | hp
  · exact ⟨(up _ _ (N p hp).1).1, (up _ _ (N p hp).1).2, (N p hp).2.2⟩
  · rw [List.mem_singleton.mp hp]
    refine ⟨(up _ _ hL).1, (up _ _ hL).2, ?_⟩
    cases q : h₀.get? L with
    | none => rfl
    | some o => exact absurd (Heap.lt_size q) (Nat.not_lt_of_le F.above)
theorem news_drop {h₀ h : Heap} {L : Addr} {x : Addr × Obj} {r : List (Addr × Obj)} (N : News h₀ L h (x :: r)) : News h₀ L h r := fun p hp => N p (.tail _ hp)
theorem take_tells {dp un : Nat} {gd : Option (List Code)} {fr : Option (List Env)} {s : Shared} {Q E : Value → Shared → Prop} {h₀ : Heap} {L l D : Addr} {m : Str → Option Value} {rest : List (Addr × Obj)} {ws : List Value} {xs : List Int} {k many : Int} {t t₂ : Tok} {c c₂ : Nat}
    (F : Fr h₀ L s.heap m) (N : News h₀ L s.heap ((l, listOf #[.ref D, .int k t] c) :: (D, listOf ws.toArray c₂) :: rest)) (raw : ∀ p ∈ (D, listOf ws.toArray c₂) :: rest, p.1 ≠ l)
    (X : (hd.heap_39 w.params).In h₀) (T : Top hd.view_39 (looseW hd.view_39 []) mean mg mb h₀) (hI : IntsAre ws xs) (hx : xs.length ≤ 4) (hk : 0 ≤ k ∧ k < 100) (hm : 0 < many ∧ many < 100) (hdp : dp + 5 < recursionLimit)
    (ret : ∀ r t' t'' h' tk, 0 ≤ r → r < many → Fr h₀ L h' m → News h₀ L h' ((l, listOf #[.ref D, .int (k + 1) t''] c) :: (D, listOf ws.toArray c₂) :: rest) → Q (.int r t') { s with heap := h', toks := tk }) :
    wpAny (model PySem.Challenge.rw_xm0118_01.row.prog w) (Ar dp un gd fr) (call (.ref 156) [.ref l, .int many t₂]) Q E s := by
  have fin : ∀ r t' t'' h' tk oL mL, (∀ h₂ : Heap, h₂.get? L = some oL → h₂.Ns L m) → 0 ≤ r → r < many → Fr h₀ s.heap.objs.size h' mL → News h₀ s.heap.objs.size h' ((l, listOf #[.ref D, .int (k + 1) t''] c) :: (D, listOf ws.toArray c₂) :: (rest ++ [(L, oL)])) → Q (.int r t') { s with heap := h', toks := tk } := by
    intro r t' t'' h' tk oL mL hL h0 h1 F' N'
    have Z : ∀ p ∈ rest ++ [(L, oL)], _ := fun p hp => N' p (.tail _ (.tail _ hp))
    refine ret r t' t'' h' tk h0 h1 ⟨hL _ (Z (L, oL) (List.mem_append_right _ (.head _))).1, F'.keep, F.above⟩ fun p hp => ?_
    rcases List.mem_cons.mp hp with rfl | hp
    · exact ⟨(N' _ (.head _)).1, (N _ (.head _)).2.1, (N _ (.head _)).2.2⟩
    rcases List.mem_cons.mp hp with rfl | hp
    · exact ⟨(N' _ (.tail _ (.head _))).1, (N _ (.tail _ (.head _))).2.1, (N _ (.tail _ (.head _))).2.2⟩
    · exact ⟨(Z _ (List.mem_append_left _ hp)).1, (N _ (.tail _ (.tail _ hp))).2.1, (N _ (.tail _ (.tail _ hp))).2.2⟩
  have hT := T.keeps F.keep
  have hX := X.keeps F.keep
  refine wpAny_mono (E := fun _ _ => False) ?_ (fun _ _ x => x) fun _ _ x => x.elim
  revert hX
  k_fill
  intro hX
  refine enter_plain hX hT.nolimit (by k_is) (by k_is) (rm1 hdp) (BindsTo.of_eq rfl) (locs rfl) ?_ rfl rfl rfl (by k_dflt decide)
  intro h₁ F₁ _
  obtain ⟨oL, F₂, N₂, hne, hL⟩ := news_over F N F₁
  have raw₂ : ∀ p ∈ (D, listOf ws.toArray c₂) :: (rest ++ [(L, oL)]), p.1 ≠ l := fun p hp => by
    rcases List.mem_cons.mp hp with rfl | hp
    · exact raw _ (.head _)
    rcases List.mem_append.mp hp with hp | hp
    · exact raw _ (.tail _ hp)
    · rw [List.mem_singleton.mp hp]; exact (hne _ (.head _)).symm
  clear F N F₁ hne raw
  simp only [List.cons_append] at N₂
  (try dsimp only)
  (try k_fold)
  k_steps
  all_goals exact fin _ _ _ _ _ _ _ hL (Int.fmod_nonneg_of_pos _ hm.1) (Int.fmod_lt_of_pos _ hm.1) (by assumption) (by first | assumption | exact news_drop (by assumption))
theorem take7 {dp un : Nat} {gd : Option (List Code)} {fr : Option (List Env)} {s : Shared} {Q E : Value → Shared → Prop} {h₀ : Heap} {L l D : Addr} {m : Str → Option Value} {o1 o2 o3 o4 o5 o6 o7 : Obj} {ws : List Value} {xs : List Int} {k many : Int} {t t₂ : Tok} {c c₂ : Nat}
    (F : Fr h₀ L s.heap m) {all : List (Addr × Obj)} (N : News h₀ L s.heap all) (S : SubL [(l, listOf #[.ref D, .int k t] c), (D, listOf ws.toArray c₂), (L + 1 + 1 + 1 + 1 + 1 + 1 + 1, o7), (L + 1 + 1 + 1 + 1 + 1 + 1, o6), (L + 1 + 1 + 1 + 1 + 1, o5), (L + 1 + 1 + 1 + 1, o4), (L + 1 + 1 + 1, o3), (L + 1 + 1, o2), (L + 1, o1)] all)
    (raw : ∀ a ∈ [D, L + 1 + 1 + 1 + 1 + 1 + 1 + 1, L + 1 + 1 + 1 + 1 + 1 + 1, L + 1 + 1 + 1 + 1 + 1, L + 1 + 1 + 1 + 1, L + 1 + 1 + 1, L + 1 + 1, L + 1], a ≠ l)
    (X : (hd.heap_39 w.params).In h₀) (T : Top hd.view_39 (looseW hd.view_39 []) mean mg mb h₀) (hI : IntsAre ws xs) (hx : xs.length ≤ 4) (hk : 0 ≤ k ∧ k < 100) (hm : 0 < many ∧ many < 100) (hdp : dp + 5 < recursionLimit)
    (ret : ∀ r t' t'' h' tk, 0 ≤ r → r < many → Fr h₀ L h' m → News h₀ L h' [(l, listOf #[.ref D, .int (k + 1) t''] c), (D, listOf ws.toArray c₂), (L + 1 + 1 + 1 + 1 + 1 + 1 + 1, o7), (L + 1 + 1 + 1 + 1 + 1 + 1, o6), (L + 1 + 1 + 1 + 1 + 1, o5), (L + 1 + 1 + 1 + 1, o4), (L + 1 + 1 + 1, o3), (L + 1 + 1, o2), (L + 1, o1)] → Q (.int r t') { s with heap := h', toks := tk }) :
    wpAny (model PySem.Challenge.rw_xm0118_01.row.prog w) (Ar dp un gd fr) (call (.ref 156) [.ref l, .int many t₂]) Q E s :=
  take_tells F (fun q hq => N q (SubL.mem S q hq)) (fun p hp => raw p.1 (List.mem_map.mpr ⟨p, hp, rfl⟩)) X T hI hx hk hm hdp ret
theorem take8 {dp un : Nat} {gd : Option (List Code)} {fr : Option (List Env)} {s : Shared} {Q E : Value → Shared → Prop} {h₀ : Heap} {L l D Z : Addr} {m : Str → Option Value} {o1 o2 o3 o4 o5 o6 o7 oZ : Obj} {ws : List Value} {xs : List Int} {k many : Int} {t t₂ : Tok} {c c₂ : Nat}
    (F : Fr h₀ L s.heap m) {all : List (Addr × Obj)} (N : News h₀ L s.heap all) (S : SubL [(l, listOf #[.ref D, .int k t] c), (D, listOf ws.toArray c₂), (Z, oZ), (L + 1 + 1 + 1 + 1 + 1 + 1 + 1, o7), (L + 1 + 1 + 1 + 1 + 1 + 1, o6), (L + 1 + 1 + 1 + 1 + 1, o5), (L + 1 + 1 + 1 + 1, o4), (L + 1 + 1 + 1, o3), (L + 1 + 1, o2), (L + 1, o1)] all)
    (raw : ∀ a ∈ [D, L + 1 + 1 + 1 + 1 + 1 + 1 + 1, L + 1 + 1 + 1 + 1 + 1 + 1, L + 1 + 1 + 1 + 1 + 1, L + 1 + 1 + 1 + 1, L + 1 + 1 + 1, L + 1 + 1, L + 1], a ≠ l) (hZ : Z ≠ l)
    (X : (hd.heap_39 w.params).In h₀) (T : Top hd.view_39 (looseW hd.view_39 []) mean mg mb h₀) (hI : IntsAre ws xs) (hx : xs.length ≤ 4) (hk : 0 ≤ k ∧ k < 100) (hm : 0 < many ∧ many < 100) (hdp : dp + 5 < recursionLimit)
    (ret : ∀ r t' t'' h' tk, 0 ≤ r → r < many → Fr h₀ L h' m → News h₀ L h' [(l, listOf #[.ref D, .int (k + 1) t''] c), (D, listOf ws.toArray c₂), (Z, oZ), (L + 1 + 1 + 1 + 1 + 1 + 1 + 1, o7), (L + 1 + 1 + 1 + 1 + 1 + 1, o6), (L + 1 + 1 + 1 + 1 + 1, o5), (L + 1 + 1 + 1 + 1, o4), (L + 1 + 1 + 1, o3), (L + 1 + 1, o2), (L + 1, o1)] → Q (.int r t') { s with heap := h', toks := tk }) :
    wpAny (model PySem.Challenge.rw_xm0118_01.row.prog w) (Ar dp un gd fr) (call (.ref 156) [.ref l, .int many t₂]) Q E s :=
  take_tells F (fun q hq => N q (SubL.mem S q hq)) (List.forall_mem_cons.mpr ⟨raw D (.head _), List.forall_mem_cons.mpr ⟨hZ, fun p hp => raw p.1 (.tail _ (List.mem_map.mpr ⟨p, hp, rfl⟩))⟩⟩) X T hI hx hk hm hdp ret
end Mine
-- Law1
namespace Mine
theorem top_off_Law1 : True := by
  w_top off
  exact trivial
variable {w : World} {mean : ExcName → Option Value} {mg mb : Str → Option Value}
theorem set_Law1_1 : True := by
  (k_with_none)
  (k_with "room" => ((try dsimp only [Ar]); first | exact rm0 (by assumption) (by decide) | exact rm (by assumption) (by decide) | omega))
  (k_with "CallL" => (k_whole; intro l' ws' c' h' tk' F' N' l1 hraw hI'; clear l1; (try k_sweep)))
  (k_with "CallI" => (k_whole; intro t' h' tk' F' N'; (try k_sweep)))
  (k_with "ktn_step" => repeat' (first | (k_unfold; (try dsimp only)) | (k_end; wrow_close) | (walk1; (try dsimp only)) | (dsimp only; walk1) | (leave1; try dsimp only) | fail "no step"))
  (k_with "ktn_open" => (repeat (first | assumption | refine (if_neg (by decide)).trans ?_)))
  (k_with "tb_start" => first | exact IsInts.news (by k_asm) (by k_mem) (by first | with_reducible assumption | exact IntsAre.nil | exact IntsAre.cons _ _ .nil | exact IntsAre.cons _ _ (IntsAre.cons _ _ .nil)) | exact IsInts.base (by k_asm) (by assumption) (by with_reducible assumption) | (refine And.intro ?_ ?_ <;> tb_start) | exact trivial)
  (k_with "tb_rel" => first | omega | assumption | ((simp only [List.length_map, rangeKs_length, List.length_take, List.length_cons, List.length_nil, List.length_replicate]); first | omega | (split <;> omega)))
  exact trivial
theorem raw_of {h₀ h : Heap} {L l D D1 : Addr} {ob x y o1 o2 o3 o4 o5 o6 o7 : Obj} (_N : News h₀ L h [(l, ob), (D, x), (D1, y), (L + 1 + 1 + 1 + 1 + 1 + 1 + 1, o7), (L + 1 + 1 + 1 + 1 + 1 + 1, o6), (L + 1 + 1 + 1 + 1 + 1, o5), (L + 1 + 1 + 1 + 1, o4), (L + 1 + 1 + 1, o3), (L + 1 + 1, o2), (L + 1, o1)])
    (h : D < l ∧ D1 < l ∧ L + 1 + 1 + 1 + 1 + 1 + 1 + 1 < l ∧ L + 1 + 1 + 1 + 1 + 1 + 1 < l ∧ L + 1 + 1 + 1 + 1 + 1 < l ∧ L + 1 + 1 + 1 + 1 < l ∧ L + 1 + 1 + 1 < l ∧ L + 1 + 1 < l ∧ L + 1 < l) :
    ∀ a ∈ [D, L + 1 + 1 + 1 + 1 + 1 + 1 + 1, L + 1 + 1 + 1 + 1 + 1 + 1, L + 1 + 1 + 1 + 1 + 1, L + 1 + 1 + 1 + 1, L + 1 + 1 + 1, L + 1 + 1, L + 1], a ≠ l := by
  obtain ⟨h1, _, h2, h3, h4, h5, h6, h7, h8⟩ := h
  have e : ∀ {a : Nat}, a < l → a ≠ l := Nat.ne_of_lt
  exact List.forall_mem_cons.mpr ⟨e h1, List.forall_mem_cons.mpr ⟨e h2, List.forall_mem_cons.mpr ⟨e h3, List.forall_mem_cons.mpr ⟨e h4, List.forall_mem_cons.mpr ⟨e h5, List.forall_mem_cons.mpr ⟨e h6, List.forall_mem_cons.mpr ⟨e h7, List.forall_mem_cons.mpr ⟨e h8, List.forall_mem_nil _⟩⟩⟩⟩⟩⟩⟩⟩
theorem p3_of {r : Int} (h0 : 0 ≤ r) (h1 : r < 3) : [3, 5, 7].getD r.toNat (0 : Int) = 3 ∨ [3, 5, 7].getD r.toNat (0 : Int) = 5 ∨ [3, 5, 7].getD r.toNat (0 : Int) = 7 := by
  have e : r = 0 ∨ r = 1 ∨ r = 2 := by omega
  rcases e with rfl | rfl | rfl
  · exact Or.inl rfl
  · exact Or.inr (Or.inl rfl)
  · exact Or.inr (Or.inr rfl)
theorem set_Law1_2 : True := by
  (k_with "execs cons" => (k_here; (with_reducible show wpAny _ _ (execs (PySem.Stmt.Assign [PySem.Expr.Name (PySem.Str.ofString "told") _] _ _ :: _) _) _ _ _); refine hold ?_))
  (k_with "execs cons" => (k_here; (with_reducible show wpAny _ _ (execs (PySem.Stmt.Assign [PySem.Expr.Tuple [PySem.Expr.Name (PySem.Str.ofString "n") _, _] _ _] _ _ :: _) _) _ _ _); refine hold ?_))
  exact trivial
theorem set_Law1_3 : True := by
  (k_with "call ref" => (k_here; (with_reducible show wpAny _ _ (call (Value.ref 156) [Value.ref _, Value.int _ _]) _ _ _); (with_reducible rename Fr _ _ _ _ => F9); (with_reducible rename News _ _ _ _ => N9); k_dflt (first | refine' take8 F9 N9 (by k_subL) (by assumption) (by k_ne) (by k_asm) (by k_asm) (by assumption) (List.length_take_le _ _) (by decide) (by decide) (by decide) ?_ | refine' take7 F9 N9 (by k_subL) (by assumption) (by k_asm) (by k_asm) (by assumption) (List.length_take_le _ _) (by decide) (by decide) (by decide) ?_); k_whole; clear F9 N9; intro r' t' t'' h' tk' lo' hi' F' N'; (try k_sweep)))
  (k_with "JoinLaw" => ((with_reducible rename Fr _ _ _ _ => F9); (with_reducible rename News _ _ _ _ => N9); (refine' unhold (wpAny_mono (law_rest (by rfl) (by rfl) (by k_asm) (by k_asm) (by decide) (by decide) F9 (fun q hq => N9 q (SubL.mem (by k_subL) q hq)) (by assumption) (by assumption) (by assumption) (by assumption) (by assumption) (by assumption) (by assumption) (by rfl) (by omega) (by omega) (p3_of (by assumption) (by assumption)) (by omega) ?_) (fun _ _ q => q) (fun _ _ x => x.elim))); intro h9 tk9 m9 FF9; (try dsimp only)))
  exact trivial
theorem law1 : PySem.Challenge.rw_xm0118_01.Holds := hd (by
  k_go0
  (try k_unmd)
  (try k_fold)
  k_steps
  (with_reducible rename Fr _ _ _ _ => F9)
  (with_reducible rename News _ _ _ _ => N9)
  have raw9 := raw_of N9 (by assumption)
  refine unhold ?_
  (with_reducible refine wpAny_execs_cons ?_)
  ktn_step
  all_goals (walk_at "JoinLaw")
  all_goals k_steps)
end Mine
theorem PySem.Challenge.cw_xm0118_01_holds : PySem.Challenge.rw_xm0118_01.Holds := by
  exact Mine.law1
