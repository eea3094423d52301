import PyProof.Rows.All
import Wide.All
import OpenK.AllK
import Wide.FinOn
import PySem.Challenge.RW_nt0630_01
open PySem PySem.W PyProof.Rows
set_option Elab.async false
set_option compiler.extract_closed false
set_option maxRecDepth 100000
set_option rowWalk.seconds 0
namespace Mine
section
/-- what of the text's top the walk is told: all but the three rows on `__name__` -/
noncomputable def top : Program := PySem.W.view Challenge.pw_nt0630_01 [1, 2, 3, 5, 6, 7, 8, 9, 10, 11, 12, 13, 14, 16, 17, 18, 19, 20, 21, 22, 23]
/-- the start-up is the library's own; the top behind it is run at once -/
theorem left_boot {p q : Program} {loose : List Str} {Xt : Shared → Bool} {α : Type} {Yf : Shared → α} {Ya : World → α} {N : Nat} (e : opening p = plainProg p.main.scope.names) (hN : Nat.ble 600 N = true)
    (f : ∀ s, fenceModules? p s = some s)
    (h : ∀ (w : World) (os : OsState), (topFrom treeTable p w N ⟨boot_heap w.params, Array.mk [], boot_drawn, boot_toks, os⟩).map (fun s => (openSeen q loose (importedModules p.main.body) Xt true s, Yf s)) = some (openGood q loose, Ya w)) :
    LeftO p q loose Xt Yf Ya N := fun w => by
  obtain ⟨⟨h', gs, d, k, os⟩, e1, e'⟩ := Option.map_eq_some_iff.mp (boot_open e hN f w)
  obtain ⟨rfl, rfl, rfl, rfl⟩ : h' = boot_heap w.params ∧ gs = Array.mk [] ∧ d = boot_drawn ∧ k = boot_toks := by simpa using e'
  unfold openEnds
  rw [e1]
  exact h w os
local macro_rules | `(tactic| o_head $H) => do
  let (hl, hw, hc) := (Lean.mkIdent `hl, Lean.mkIdent `hw, Lean.mkIdent `hc)
  `(tactic| (refine holds_open (q := Mine.top) (loose := [PySem.Str.ofString "HeapObject", PySem.Str.ofString "UpVal"]) (Xt := fun s => xlAt Mine.top [] s && recOk (RowW.records Challenge.rw_nt0630_01.row.toRowW) s) (XP := XL Mine.top []) (Yf := Hook.obs $H) (Ya := Hook.val $H) (YP := Hook.says $H) (N := 2952) ?$hl (Hook.of $H) (Hook.keeps $H) (fun s e => xl_of s (Bool.and_eq_true_iff.mp e).1) XL.keeps (by rfl) (by rfl) (by rfl) (fun s e => recFacts_of (Bool.and_eq_true_iff.mp e).2) (by rfl) (by first | assumption | decide +kernel) (by decide +kernel) ⟨rfl, rfl, rfl, rfl, rfl, by decide +kernel⟩ ?$hw ?$hc
             (case hl =>
                refine left_boot (by kernel_rfl) (by kernel_rfl) (fun _ => by kernel_rfl) (fun w os => ?_)
                unfold topFrom
                -- the library's quick twins of the run and of the look
                rw [Fast.te14082659384304107361, Fast.te14364793385576792824, Fast.te4187177175401517315]
                kernel_rfl)
             all_goals (rename_i x9; clear x9)))
set_option maxRecDepth 100000 in
set_option maxHeartbeats 8000000 in
open_top hd for PySem.Challenge.rw_nt0630_01
end
theorem fill_it (w : World) (h : Heap) : (hd.heap_39 w.params).In h → Challenge.rw_nt0630_01 = Challenge.rw_nt0630_01 := by
  w_top off
  k_fill
  intro _; rfl
section
/-- what every contract asks of the place of the call -/
structure Cx (w : World) (A₀ : Around) (base h₀ : Heap) (outer : List Env) (L : Addr) (s : Shared) (m mg mb : Str → Option Value) (loose : List Str)
    (mean : ExcName → Option Value) (p : Program) (news : List (Addr × Obj)) (env : Env) : Prop where
  B : Below A₀ base outer h₀
  F : Fr h₀ L s.heap m
  X : (hd.heap_39 w.params).In h₀
  T : Top p loose mean mg mb h₀
  N : News h₀ L s.heap news
  hf : env.frame = some L
  hke : env.scope.kind = .function

/-- what is to hold at the end, and what on an exception, out of sight while a body is walked: each rule then states less -/
def Sub (P Q : Flow → Shared → Prop) : Prop := ∀ a s, P a s → Q a s
theorem hide_ends {M : Model} {A : Around} {t : Sem Flow} {Q : Flow → Shared → Prop} {E : Value → Shared → Prop} {s : Shared} (h : ∀ Q', Sub Q Q' → wpAny M A t Q' (fun _ _ => False) s) : wpAny M A t Q E s := wpAny_noRaise (h Q fun _ _ => id)
theorem let_A {M : Model} {A : Around} {t : Sem Flow} {Q : Flow → Shared → Prop} {E : Value → Shared → Prop} {s : Shared} (h : let A' := A; wpAny M A' t Q E s) : wpAny M A t Q E s := h
theorem unhide {P Q : Flow → Shared → Prop} {a : Flow} {s : Shared} (h : Sub P Q) (x : P a s) : Q a s := h a s x

theorem execs_hid {M : Model} {A : Around} {env : Env} {st : Stmt} {rest : List Stmt} {Q : Flow → Shared → Prop} {E : Value → Shared → Prop} {h : Heap} {g : Array GenState} {dr : Drawn} {tk : Nat} {os : OsState}
    (k : ∀ (Q' : Flow → Shared → Prop) (tk' : Nat), Sub (fun f s' => match f with | .next => wpAny M A (execs rest env) Q E s' | f => Q f s') Q' → wpAny M A (exec st env) Q' E ⟨h, g, dr, tk', os⟩) : wpAny M A (execs (st :: rest) env) Q E ⟨h, g, dr, tk, os⟩ :=
  wpAny_execs_cons (k _ _ fun _ _ => id)
theorem execs_one {M : Model} {A : Around} {env : Env} {st : Stmt} {P Q : Flow → Shared → Prop} {E : Value → Shared → Prop} {h : Heap} {g : Array GenState} {dr : Drawn} {tk : Nat} {os : OsState}
    (_ : Sub P Q) (k : ∀ tk' : Nat, wpAny M A (exec st env) Q E ⟨h, g, dr, tk', os⟩) : wpAny M A (execs [st] env) Q E ⟨h, g, dr, tk, os⟩ :=
  wpAny_execs_cons (wpAny_mono (k _) (fun f s' q => by cases f <;> first | exact wpAny_execs_nil q | exact q) fun _ _ => id)

/-- the functions with a contract: the walk stands ahead of a call of one -/
def standAt (a : Addr) : Bool := [132, 139, 146, 153, 158, 165, 170, 175, 180, 187, 194].contains a
theorem stand_ref {M : Model} {A : Around} {a : Addr} {pos : List Value} {kw : List (Str × Value)} {Q : Value → Shared → Prop} {E : Value → Shared → Prop} {s : Shared} (_ : standAt a = true) (h : wpAny M A (call (.ref a) pos kw) Q E s) : wpAny M A (call (.ref a) pos kw) Q E s := h

/-- room: a bound of a fact and some more -/
theorem room0 {a n b : Nat} (h : a ≤ n) (e : Nat.blt n b = true) : a < b := Nat.lt_of_le_of_lt h (by simpa using e)
theorem room1 {a n k b : Nat} (h : a ≤ n) (e : Nat.blt (n + k) b = true) : a + k < b := Nat.lt_of_le_of_lt (Nat.add_le_add_right h k) (by simpa using e)
theorem room2 {a n k b : Nat} (h : a ≤ n) (e : Nat.ble (n + k) b = true) : a + k ≤ b := Nat.le_trans (Nat.add_le_add_right h k) (by simpa using e)

/-- there is a choice that would be the worst: what holds at it holds at all -/
theorem sk_ex {T : Type} (i : Nonempty T) (P : T → Prop) : ∃ c, P c → ∀ c', P c' := Classical.byCases
  (fun h : ∃ c, ¬ P c => h.elim fun c hc => ⟨c, fun x => absurd x hc⟩) fun h => i.elim fun c => ⟨c, fun _ c' => Classical.byContradiction fun n => h ⟨c', n⟩⟩
theorem sk_all {T : Type} {P : T → Prop} {e : ∃ c, P c → ∀ c', P c'} (h : P (Classical.choose e)) : ∀ c, P c := Classical.choose_spec e h

theorem fr_know {h₀ h : Heap} {L : Addr} {m : Str → Option Value} (F : Fr h₀ L h m) (ps : List (Str × Value)) (hk : ∀ p ∈ ps, m p.1 = some p.2) : Fr h₀ L h (kstB m ps) := by
  have e : kstB m ps = m := by
    funext z
    exact kstB_eq hk fun _ => rfl
  rw [e]; exact F

/-- the dict of an UpVal (each of these a constructor of its own: one eliminator takes it apart) -/
inductive UpDict (o : Obj) (th : Value) (ix : Int) (vl : Value) : Prop
  | mk (n : Nat) (c0 c1 c2 c3 c4 c5 : Int) (t0 t1 t2 t3 t4 t5 : Tok) (v0 v1 v2 : Value) (ti : Tok) (e : o = dictOf [⟨c0, .str "number" t0, v0⟩, ⟨c1, .str "mark" t1, v1⟩, ⟨c2, .str "size" t2, v2⟩,
    ⟨c3, .str "thread" t3, th⟩, ⟨c4, .str "index" t4, .int ix ti⟩, ⟨c5, .str "value" t5, vl⟩] n) : UpDict o th ix vl
/-- a made UpVal and its dict -/
inductive UpAt (news : List (Addr × Obj)) (u : Addr) (th : Value) (ix : Int) (vl : Value) : Prop
  | mk (dx : Addr) (o : Obj) (h : (u, instObj 81 dx) ∈ news) (h' : (dx, o) ∈ news) (e : UpDict o th ix vl) : UpAt news u th ix vl
/-- the dict of a made Ground -/
inductive GroundDict (o : Obj) (sl ol : Addr) : Prop
  | mk (n : Nat) (c0 c1 : Int) (t0 t1 : Tok) (e : o = dictOf [⟨c0, .str "stack" t0, .ref sl⟩, ⟨c1, .str "open_upvals" t1, .ref ol⟩] n) : GroundDict o sl ol
inductive GroundAt (news : List (Addr × Obj)) (x sl ol : Addr) : Prop
  | mk (dx : Addr) (o : Obj) (h : (x, instObj 100 dx) ∈ news) (h' : (dx, o) ∈ news) (e : GroundDict o sl ol) : GroundAt news x sl ol
def ListAt (news : List (Addr × Obj)) (l : Addr) (vs : List Value) : Prop := ∃ n, (l, W.listOf vs.toArray n) ∈ news
def refs (us : List Addr) : List Value := us.map Value.ref

section
variable {prog : Program} {w : World} {A : Around} {E : Value → Shared → Prop} {s : Shared}
theorem len_at {l : Addr} {vs : List Value} {n : Nat} {h₀ : Heap} {L : Addr} {news : List (Addr × Obj)} {Q : Value → Shared → Prop}
    (N : News h₀ L s.heap news) (hm : (l, W.listOf vs.toArray n) ∈ news) (hfit : vs.length < 2 ^ 62)
    (h : Q (.int (vs.length : Nat) (s.toks + 1)) { s with toks := s.toks + 1 + 1 }) : wpAny (model prog w) A (call (.builtin "len") [.ref l]) Q E s := by
  have hl : s.heap.IsList l vs.toArray := ⟨_, N.get hm, rfl, n, rfl⟩
  exact Calls.call_len_list hl (by simp only [List.size_toArray]; lia) (by simpa using h)
end
theorem refs_length (us : List Addr) : (refs us).length = us.length := by simp [refs]
theorem fr_at {h₀ h : Heap} {L : Addr} {m : Str → Option Value} {x : Str} {v : Value} (F : Fr h₀ L h m) (e : m x = some v) : Fr h₀ L h (fun z => if z = x then some v else m z) := by
  have e' : (fun z => if z = x then some v else m z) = m := by
    funext z
    by_cases h : z = x
    · subst h; simp [e]
    · simp [h]
  rw [e']; exact F
theorem up_l {p : Addr × Obj} {a : List (Addr × Obj)} (b : List (Addr × Obj)) (h : p ∈ a) : p ∈ a ++ b := List.mem_append_left b h
/-- how a turn over a list of the ledger may end: `own` are the loop's own objects -/
def TurnEnd (h₀ : Heap) (L : Addr) (J : (Str → Option Value) → List (Addr × Obj) → Prop) (I l : Addr) (own : List (Addr × Obj)) (s : Shared) (Q : Flow → Shared → Prop) (f : Flow) (s₂ : Shared) : Prop :=
  match f with
  | .ret v => Q (.ret v) s₂
  | .brk => Q .next s₂
  | _ => ∃ h' tk m' news' nx, s₂ = { s with heap := h', toks := tk } ∧ Fr h₀ L h' m' ∧ News h₀ L h' news' ∧ (∀ p ∈ nx, p ∈ news') ∧ (∀ p ∈ own, p ∈ news') ∧ (∀ p ∈ nx, p.1 ≠ I) ∧ J m' nx

/-- the ledger with one object turned -/
def put (a : Addr) (o : Obj) (news : List (Addr × Obj)) : List (Addr × Obj) := (a, o) :: news.filter fun p => p.1 != a
theorem mem_put_self {a : Addr} {o : Obj} {news : List (Addr × Obj)} : (a, o) ∈ put a o news := List.Mem.head _
theorem mem_put {a b : Addr} {o x : Obj} {news : List (Addr × Obj)} (h : (b, x) ∈ news) (e : b ≠ a) : (b, x) ∈ put a o news :=
  List.Mem.tail _ (List.mem_filter.mpr ⟨h, by simpa using e⟩)
theorem of_put {a : Addr} {o : Obj} {news : List (Addr × Obj)} {p : Addr × Obj} (h : p ∈ put a o news) : p = (a, o) ∨ (p ∈ news ∧ p.1 ≠ a) := by
  rcases List.mem_cons.mp h with h | h
  · exact .inl h
  · have := List.mem_filter.mp h
    exact .inr ⟨this.1, by simpa using this.2⟩
theorem focus {h₀ h : Heap} {L a : Addr} {o : Obj} {news : List (Addr × Obj)} (N : News h₀ L h news) (hm : (a, o) ∈ news) : News h₀ L h (put a o news) := fun p hp => by
  rcases of_put hp with rfl | h
  · exact N _ hm
  · exact N p h.1
theorem upd_put {a : Addr} {o o' : Obj} {news : List (Addr × Obj)} : Upd a o o' (put a o news) (put a o' news) :=
  Upd.head fun p hp => by
    have := (List.mem_filter.mp hp).2
    simpa using this

section
variable {prog : Program} {w : World} {A : Around} {E : Value → Shared → Prop} {s : Shared} {h₀ : Heap} {L D : Addr} {m : Str → Option Value} {news : List (Addr × Obj)} {vs : List Value} {n : Nat}
theorem app_at {x : Value} {Q : Value → Shared → Prop} (F : Fr h₀ L s.heap m) (N : News h₀ L s.heap news) (hm : (D, W.listOf vs.toArray n) ∈ news) (hz : vs.length ≤ 100000)
    (h : ∀ h', Fr h₀ L h' m → News h₀ L h' (put D (W.listOf (vs ++ [x]).toArray (n + 1)) news) → Q .none { s with heap := h' }) : wpAny (model prog w) A (call (.builtin "list.append") [.ref D, x]) Q E s := by
  refine append_K (hsz := ?_) F (focus N hm) upd_put fun h' F' N' => h h' F' (by rw [List.push_toArray] at N'; exact N')
  rw [List.size_toArray, sizeLine_eq]; lia
theorem ins_at {k : Nat} {u : Tok} {y : Value} {Q : Value → Shared → Prop} (F : Fr h₀ L s.heap m) (N : News h₀ L s.heap news) (hm : (D, W.listOf vs.toArray n) ∈ news) (hk : k ≤ vs.length) (hz : vs.length ≤ 100000)
    (h : ∀ h', Fr h₀ L h' m → News h₀ L h' (put D (W.listOf (vs.take k ++ y :: vs.drop k).toArray (n + 1)) news) → Q .none { s with heap := h' }) :
    wpAny (model prog w) A (call (.builtin "list.insert") [.ref D, .int (k : Nat) u, y]) Q E s := by
  refine kl_insert F (focus N hm) (l := vs.take k ++ y :: vs.drop k) ?_ ?_ upd_put (by simp only [sizeLine_eq]; lia) h
  · simp only [Builtin.List.listFitsIndex]
    have : (k : Int) < 2 ^ 63 := by lia
    simp only [Bool.and_eq_true, decide_eq_true_eq]; lia
  · unfold kl_ins
    have e : (if ((k : Nat) : Int) < 0 then (((k : Nat) : Int) + (vs.length : Int)).toNat else min ((k : Nat) : Int).toNat vs.length) = k := by
      rw [if_neg (by lia)]; lia
    simp only [e]
theorem pop_at {u : Tok} {y : Value} {q : List Value} {Q : Value → Shared → Prop} (F : Fr h₀ L s.heap m) (N : News h₀ L s.heap news) (hm : (D, W.listOf (y :: q).toArray n) ∈ news) (hz : q.length ≤ 100000)
    (h : ∀ h', Fr h₀ L h' m → News h₀ L h' (put D (W.listOf q.toArray (n + 1)) news) → Q y { s with heap := h' }) : wpAny (model prog w) A (call (.builtin "list.pop") [.ref D, .int 0 u]) Q E s := by
  refine kl_popAt (k := 0) (p := []) (q := q) (y := y) F (focus N hm) rfl (by simp [seqIndex?]) rfl upd_put ?_ h
  simp only [List.length_cons, sizeLine_eq]; lia
theorem setI_at {k : Int} {t : Tok} {v : Value} {Q : Unit → Shared → Prop} (F : Fr h₀ L s.heap m) (N : News h₀ L s.heap news) (hm : (D, W.listOf vs.toArray n) ∈ news) (h0 : 0 ≤ k) (hk : k < vs.length) (hz : vs.length ≤ 100000)
    (h : ∀ h', Fr h₀ L h' m → News h₀ L h' (put D (W.listOf (vs.set k.toNat v).toArray n) news) → Q () { s with heap := h' }) : wpAny (model prog w) A (setItem (.ref D) (.int k t) v) Q E s := by
  refine ki_set F (focus N hm) h0 (by lia) (q := vs.set k.toNat v) ?_ upd_put h
  have : ∀ (l : List Value) (j : Nat), j < l.length → ki_setL l j v = some (l.set j v) := by
    intro l
    induction l with
    | nil => intro j hj; simp at hj
    | cons a r ih =>
      intro j hj
      cases j with
      | zero => rfl
      | succ j => simp [ki_setL, ih j (by simpa using hj)]
  exact this _ _ (by lia : k.toNat < vs.length)
end
theorem all_ne {d : Addr} {l : List (Addr × Obj)} (h : ∀ p ∈ l, p.1 < d) : ∀ p ∈ l, p.1 ≠ d := fun p hp => Nat.ne_of_lt (h p hp)
theorem allLt_all {d : Addr} : ∀ {l : List (Addr × Obj)}, AllLt d l → ∀ p ∈ l, p.1 < d
  | [], _ => fun _ hp => nomatch hp
  | q :: r, h => fun p hp => by
    rcases List.mem_cons.mp hp with rfl | hp
    · exact h.1
    · exact allLt_all h.2 p hp
theorem UpAt.mono {news news' : List (Addr × Obj)} {u : Addr} {th : Value} {ix : Int} {vl : Value} (h : UpAt news u th ix vl) (k : ∀ p ∈ news, p ∈ news') : UpAt news' u th ix vl :=
  let ⟨dx, o, a, b, c⟩ := h; ⟨dx, o, k _ a, k _ b, c⟩
theorem GroundAt.mono {news news' : List (Addr × Obj)} {x sl ol : Addr} (h : GroundAt news x sl ol) (k : ∀ p ∈ news, p ∈ news') : GroundAt news' x sl ol :=
  let ⟨dx, o, a, b, c⟩ := h; ⟨dx, o, k _ a, k _ b, c⟩
theorem ListAt.mono {news news' : List (Addr × Obj)} {l : Addr} {vs : List Value} (h : ListAt news l vs) (k : ∀ p ∈ news, p ∈ news') : ListAt news' l vs :=
  let ⟨n, a⟩ := h; ⟨n, k _ a⟩
theorem in_cons2 {a b : Addr × Obj} {news : List (Addr × Obj)} : ∀ p ∈ news, p ∈ a :: b :: news := fun _ h => .tail _ (.tail _ h)
theorem ups_mono {news news' : List (Addr × Obj)} {us : List Addr} {ixs : List Int} (h : ∀ k u, us[k]? = some u → ∃ th vl, UpAt news u th (ixs.getD k 0) vl) (hs : ∀ p ∈ news, p ∈ news') :
    ∀ k u, us[k]? = some u → ∃ th vl, UpAt news' u th (ixs.getD k 0) vl := fun k u e => let ⟨a, b, c⟩ := h k u e; ⟨a, b, c.mono hs⟩
theorem one_obj {h₀ h : Heap} {L a : Addr} {o o' : Obj} {news : List (Addr × Obj)} (N : News h₀ L h news) (h1 : (a, o) ∈ news) (h2 : (a, o') ∈ news) : o = o' := by
  have e1 := (N _ h1).1
  have e2 := (N _ h2).1
  rw [e1] at e2
  exact Option.some.inj e2
theorem ne_of_obj {h₀ h : Heap} {L a b : Addr} {o o' : Obj} {news : List (Addr × Obj)} (N : News h₀ L h news) (h1 : (a, o) ∈ news) (h2 : (b, o') ∈ news) (hne : o ≠ o') : a ≠ b := by
  rintro rfl
  exact hne (one_obj N h1 h2)
theorem up_ne_ground {o o' : Obj} {th vl : Value} {ix : Int} {sl ol : Addr} (h : UpDict o th ix vl) (h' : GroundDict o' sl ol) : o ≠ o' := by
  obtain ⟨n, c0, c1, c2, c3, c4, c5, t0, t1, t2, t3, t4, t5, v0, v1, v2, ti, rfl⟩ := h
  obtain ⟨n', d0, d1, s0, s1, rfl⟩ := h'
  intro e
  have e1 : (Data.dict _ _ : Data) = Data.dict _ _ := congrArg Obj.data e
  injection e1 with e1 _
  have := congrArg Array.size e1
  simp at this
theorem up_ne_list {o : Obj} {th vl : Value} {ix : Int} {vs : Array Value} {k : Nat} (h : UpDict o th ix vl) : o ≠ W.listOf vs k := by
  obtain ⟨n, c0, c1, c2, c3, c4, c5, t0, t1, t2, t3, t4, t5, v0, v1, v2, ti, rfl⟩ := h
  intro e
  have e1 : Data.dict _ _ = Data.seq _ _ := congrArg Obj.data e
  cases e1
theorem up_ne_inst {o : Obj} {th vl : Value} {ix : Int} {C dx : Addr} (h : UpDict o th ix vl) : o ≠ instObj C dx := by
  obtain ⟨n, c0, c1, c2, c3, c4, c5, t0, t1, t2, t3, t4, t5, v0, v1, v2, ti, rfl⟩ := h
  intro e
  have e1 : Data.dict _ _ = Data.plain := congrArg Obj.data e
  cases e1
theorem list_ne_inst {vs : Array Value} {k : Nat} {C dx : Addr} : W.listOf vs k ≠ instObj C dx := by
  intro e
  have e1 : Data.seq _ _ = Data.plain := congrArg Obj.data e
  cases e1
theorem list_ne_ground {o : Obj} {sl ol : Addr} {vs : Array Value} {k : Nat} (h : GroundDict o sl ol) : W.listOf vs k ≠ o := by
  obtain ⟨n, c0, c1, t0, t1, rfl⟩ := h
  intro e
  have e1 : Data.seq _ _ = Data.dict _ _ := congrArg Obj.data e
  cases e1
section
variable {c0 c1 c2 c3 c4 c5 hsh : Int} {t0 t1 t2 t3 t4 t5 : Tok} {v0 v1 v2 v3 v4 v5 key v : Value} {n : Nat}
theorem put_value : (putL (Str.ofString "value") hsh key v [⟨c0, .str (Str.ofString "number") t0, v0⟩, ⟨c1, .str (Str.ofString "mark") t1, v1⟩, ⟨c2, .str (Str.ofString "size") t2, v2⟩, ⟨c3, .str (Str.ofString "thread") t3, v3⟩, ⟨c4, .str (Str.ofString "index") t4, v4⟩, ⟨c5, .str (Str.ofString "value") t5, v5⟩],
    putN (Str.ofString "value") [⟨c0, .str (Str.ofString "number") t0, v0⟩, ⟨c1, .str (Str.ofString "mark") t1, v1⟩, ⟨c2, .str (Str.ofString "size") t2, v2⟩, ⟨c3, .str (Str.ofString "thread") t3, v3⟩, ⟨c4, .str (Str.ofString "index") t4, v4⟩, ⟨c5, .str (Str.ofString "value") t5, v5⟩] n) =
    ([⟨c0, .str (Str.ofString "number") t0, v0⟩, ⟨c1, .str (Str.ofString "mark") t1, v1⟩, ⟨c2, .str (Str.ofString "size") t2, v2⟩, ⟨c3, .str (Str.ofString "thread") t3, v3⟩, ⟨c4, .str (Str.ofString "index") t4, v4⟩, ⟨c5, .str (Str.ofString "value") t5, v⟩], n) := rfl
theorem put_index : (putL (Str.ofString "index") hsh key v [⟨c0, .str (Str.ofString "number") t0, v0⟩, ⟨c1, .str (Str.ofString "mark") t1, v1⟩, ⟨c2, .str (Str.ofString "size") t2, v2⟩, ⟨c3, .str (Str.ofString "thread") t3, v3⟩, ⟨c4, .str (Str.ofString "index") t4, v4⟩, ⟨c5, .str (Str.ofString "value") t5, v5⟩],
    putN (Str.ofString "index") [⟨c0, .str (Str.ofString "number") t0, v0⟩, ⟨c1, .str (Str.ofString "mark") t1, v1⟩, ⟨c2, .str (Str.ofString "size") t2, v2⟩, ⟨c3, .str (Str.ofString "thread") t3, v3⟩, ⟨c4, .str (Str.ofString "index") t4, v4⟩, ⟨c5, .str (Str.ofString "value") t5, v5⟩] n) =
    ([⟨c0, .str (Str.ofString "number") t0, v0⟩, ⟨c1, .str (Str.ofString "mark") t1, v1⟩, ⟨c2, .str (Str.ofString "size") t2, v2⟩, ⟨c3, .str (Str.ofString "thread") t3, v3⟩, ⟨c4, .str (Str.ofString "index") t4, v⟩, ⟨c5, .str (Str.ofString "value") t5, v5⟩], n) := rfl
theorem put_thread : (putL (Str.ofString "thread") hsh key v [⟨c0, .str (Str.ofString "number") t0, v0⟩, ⟨c1, .str (Str.ofString "mark") t1, v1⟩, ⟨c2, .str (Str.ofString "size") t2, v2⟩, ⟨c3, .str (Str.ofString "thread") t3, v3⟩, ⟨c4, .str (Str.ofString "index") t4, v4⟩, ⟨c5, .str (Str.ofString "value") t5, v5⟩],
    putN (Str.ofString "thread") [⟨c0, .str (Str.ofString "number") t0, v0⟩, ⟨c1, .str (Str.ofString "mark") t1, v1⟩, ⟨c2, .str (Str.ofString "size") t2, v2⟩, ⟨c3, .str (Str.ofString "thread") t3, v3⟩, ⟨c4, .str (Str.ofString "index") t4, v4⟩, ⟨c5, .str (Str.ofString "value") t5, v5⟩] n) =
    ([⟨c0, .str (Str.ofString "number") t0, v0⟩, ⟨c1, .str (Str.ofString "mark") t1, v1⟩, ⟨c2, .str (Str.ofString "size") t2, v2⟩, ⟨c3, .str (Str.ofString "thread") t3, v⟩, ⟨c4, .str (Str.ofString "index") t4, v4⟩, ⟨c5, .str (Str.ofString "value") t5, v5⟩], n) := rfl
end

theorem updF_put {a : Addr} {o : Obj} {news : List (Addr × Obj)} : UpdF a o (put a o news) (fun o' => put a o' news) :=
  UpdF.head fun p hp => by
    have := (List.mem_filter.mp hp).2
    simpa using this
theorem put_mono {a : Addr} {o : Obj} {x y : List (Addr × Obj)} (h : ∀ p ∈ x, p ∈ y) : ∀ p ∈ Mine.put a o x, p ∈ Mine.put a o y := fun p hp => by
  rcases of_put hp with rfl | ⟨h1, h2⟩
  · exact mem_put_self
  · exact mem_put (h p h1) h2

end
local macro_rules | `(tactic| k_room) => `(tactic| ((try simp only [depth_under_make, depth_under_kw, depth_in1, depth_deeper, depth_caller]); (show _ < (1000 : Nat)); first | exact room0 (by assumption) rfl | exact room1 (by assumption) rfl | omega))
-- enter a def's body by its contract's context
local macro_rules | `(tactic| tb_start) => `(tactic| ((first
  | (refine code_def (by k_asm) (by k_asm) (by k_asm) (by k_asm) (by k_asm) rfl (by assumption) (by assumption) (by k_is) (by k_is) (by k_room) (BindsTo.of_eq rfl) (locs rfl) ?_ rfl rfl rfl (by decide); k_whole; intro g' L' h' FG' F' N' B' X' T')
  | (refine code_defC (by k_asm) (by k_asm) (by k_asm) (by k_asm) (by k_asm) rfl (by assumption) (by assumption) (by k_is) (by k_is) (by k_room) (BindsTo.of_eq rfl) rfl (by decide +kernel) ?_ rfl rfl rfl; k_whole; intro g' L' h' tk' cells' FG' F' N' Y' B' X' T' l1; k_cells Y'; (try simp only [List.cons_append, List.nil_append] at N'))); (try dsimp only); refine hide_ends fun Q' hQ' => ?_))
local macro_rules | `(tactic| ktr_room) => `(tactic| ((try dsimp only [Around.deeper, Around.in1, Around.mark, Around.under]); first | exact room2 (by assumption) rfl | exact room1 (by assumption) rfl | exact room0 (by assumption) rfl | omega))
-- take a fact apart with the goal out of sight: the eliminators then state False, not the whole goal (the compiled file's size)
local macro_rules | `(tactic| obtain $p:rcasesPatMed := $e:term) => `(tactic| first
  | (refine Classical.byContradiction fun hG => ?_; rcases $e:term with $p:rcasesPatMed <;> (refine hG ?_; clear hG))
  | rcases $e:term with $p:rcasesPatMed)
section
local macro_rules | `(tactic| walk_at "call type:list") => `(tactic| (k_here; (with_reducible show wpAny _ _ (call (Value.type _) [Value.ref _]) _ _ _); k_dflt (refine' list_copyK ?F ?N ?l ?_ ?z; (case F => k_asm); (case N => k_asm); (case l => exact News.isList (by k_asm) (.tail _ (.tail _ (by assumption)))); (case z => (simp only [List.size_toArray, sizeLine_eq]; omega)); k_whole); intro D' c' h' F' N' l1; (try k_lt l1); (try k_sweep)))
section
variable {w : World} {base h₀ : Heap} {outer : List Env} {A₀ : Around} {dp u : Nat} {env : Env} {L : Addr} {m mg mb : Str → Option Value}
    {loose : List Str} {mean : ExcName → Option Value} {p : Program} {s : Shared} {news : List (Addr × Obj)} {Q E : Value → Shared → Prop}
set_option maxHeartbeats 4000000 in
theorem up_ctr (C : Cx w A₀ base h₀ outer L s m mg mb loose mean p news env) (hd : dp ≤ 480) (hu : u ≤ 4800) {x : Addr} {i : Int} {t : Tok}
    (post : ∀ y dy oy h' tk, Fr h₀ L h' m → News h₀ L h' ((y, instObj 81 dy) :: (dy, oy) :: news) → (∀ q ∈ news, q.1 < dy) → dy < y → UpDict oy (.ref x) i .none → Q (.ref y) { s with heap := h', toks := tk }) :
    wpAny (model Challenge.rw_nt0630_01.row.prog w) ⟨none, dp, some (env :: outer), some [], u⟩ (call (.ref 81) [.ref x, .int i t]) Q E s := by
  obtain ⟨B, F, X, T, N, hf, hke⟩ := C
  (refine' call_cls ?k1 ?k2 ?k3 ?k4 ?k5 ?k6 ?_; (case k1 => k_asm); (case k2 => k_asm); (case k3 => k_asm); (case k4 => k_is); (case k5 => k_is); (case k6 => k_is); k_whole; intro x' d' h' F' N' l1 l2; have hq1 := l1; have hq2 := l2; (try k_lt l1); (try k_lt2 l2); (try k_sweep))
  tb_start
  (repeat' (first | (k_unfold; (try dsimp only)) | (refine unhide (by assumption) ?_; (try dsimp only)) | ((fail_if_success (with_reducible first | show wpAny _ _ (exec (Stmt.While _ _ _ _) _) _ _ _ | show wpAny _ _ (exec (Stmt.For _ _ _ _ _) _) _ _ _ | show wpAny _ _ (exec (Stmt.Assign _ (Expr.ListComp _ _ _ _) _) _) _ _ _ | show wpAny _ _ (eval (Expr.ListComp _ _ _ _) _) _ _ _ | show wpAny _ _ (call (Value.type "enumerate") _) _ _ _ | show wpAny _ _ (call (Value.type "zip") _) _ _ _ | refine stand_ref (by decide) ?_)); first | ((with_reducible first | (refine execs_one (by assumption) fun _ => ?_) | (refine execs_hid fun _ _ _ => ?_))) | walk1  | (dsimp only; walk1) | fail "no step")))
  (rename Fr h₀ _ _ _ => kF); (rename News h₀ _ _ _ => kN)
  exact post x' d' _ _ _ kF kN hq1 hq2 ⟨_, _, _, _, _, _, _, _, _, _, _, _, _, _, _, _, _, rfl⟩
set_option maxHeartbeats 4000000 in
theorem ground_ctr (C : Cx w A₀ base h₀ outer L s m mg mb loose mean p news env) (hd : dp ≤ 480) (hu : u ≤ 4800) {l : Addr} {vs : List Value} {n : Nat} (hl : (l, W.listOf vs.toArray n) ∈ news) (hvf : vs.length ≤ 300)
    (post : ∀ y dy sl ol o c h' tk, Fr h₀ L h' m → News h₀ L h' ((ol, W.listOf #[] 0) :: (sl, W.listOf vs.toArray c) :: (y, instObj 100 dy) :: (dy, o) :: news) → GroundDict o sl ol → (∀ q ∈ news, q.1 < dy) → dy < y → y < sl → sl < ol → Q (.ref y) { s with heap := h', toks := tk }) :
    wpAny (model Challenge.rw_nt0630_01.row.prog w) ⟨none, dp, some (env :: outer), some [], u⟩ (call (.ref 100) [.ref l]) Q E s := by
  obtain ⟨B, F, X, T, N, hf, hke⟩ := C
  (refine' call_cls ?k1 ?k2 ?k3 ?k4 ?k5 ?k6 ?_; (case k1 => k_asm); (case k2 => k_asm); (case k3 => k_asm); (case k4 => k_is); (case k5 => k_is); (case k6 => k_is); k_whole; intro x' d' h' F' N' l1 l2; have hq1 := l1; have hq2 := l2; (try k_lt l1); (try k_lt2 l2); (try k_sweep))
  tb_start
  (repeat' (first | (k_unfold; (try dsimp only)) | (refine unhide (by assumption) ?_; (try dsimp only)) | ((fail_if_success (with_reducible first | show wpAny _ _ (exec (Stmt.While _ _ _ _) _) _ _ _ | show wpAny _ _ (exec (Stmt.For _ _ _ _ _) _) _ _ _ | show wpAny _ _ (exec (Stmt.Assign _ (Expr.ListComp _ _ _ _) _) _) _ _ _ | show wpAny _ _ (eval (Expr.ListComp _ _ _ _) _) _ _ _ | show wpAny _ _ (call (Value.type "enumerate") _) _ _ _ | show wpAny _ _ (call (Value.type "zip") _) _ _ _ | refine stand_ref (by decide) ?_)); first | ((with_reducible first | (refine execs_one (by assumption) fun _ => ?_) | (refine execs_hid fun _ _ _ => ?_))) | walk1  | (dsimp only; walk1) | fail "no step")))
  (rename Fr h₀ _ _ _ => kF); (rename News h₀ _ _ _ => kN)
  (rename _ ∧ _ ∧ AllLt _ news => q3); (rename _ ∧ _ ∧ _ ∧ AllLt _ news => q4)
  exact post x' d' _ _ _ _ _ _ kF kN ⟨_, _, _, _, _, rfl⟩ hq1 hq2 q3.1 q4.1
end

end
local macro_rules | `(tactic| ktr_unf) => `(tactic| first | assumption | exact Ne.symm (by assumption) | k_ne)
local macro_rules | `(tactic| k_mem) => `(tactic| first | assumption | exact mem_put_self | (refine' mem_put ?h ?e; (case h => k_mem); (case e => ktr_unf)))
local macro_rules | `(tactic| walk_at "mem2") => `(tactic| first | assumption | exact mem_put_self | (refine' mem_put ?h ?e; (case h => walk_at "mem2"); (case e => ktr_unf)))
local macro_rules | `(tactic| k_all) => `(tactic| exact all_ne (by assumption))
local macro_rules | `(tactic| ktr_units) => `(tactic| first | omega | (simp only [refs_length]; omega) | ((try simp only [refs_length, List.length_map, List.length_append, List.length_cons, List.length_nil] at *); omega))
local macro_rules | `(tactic| walk_at "setAttr ref") => `(tactic| (k_here; k_dflt ((refine' set_dict ?k1 ?k2 (focus ?k3 ?km) ?k4 ?k5 ?k6 ?k7 ?k8 ?k9 ?k10 ?k11 upd_put ?k13 ?_; (case k1 => k_asm); (case k2 => k_asm); (case k3 => k_asm); (case k4 => k_inst); (case km => walk_at "mem2"); (case k5 => exact rfl); (case k6 => k_is); (case k7 => k_is); (case k8 => k_is); (case k9 => k_is); (case k10 => k_get); (case k11 => first | exact put_value | exact put_thread | exact put_index | k_put); (case k13 => exact Nat.le_of_ble_eq_true rfl); k_whole; intro h' F' N'; (try k_sweep)))))
local macro_rules | `(tactic| walk_at "last storeName") => `(tactic| (k_here; k_dflt (refine' storeX_C ?F (focus ?N ?hm) ?c updF_put ?d ?_ ?a ?b; (case a => rfl); (case b => rfl); (case F => k_asm); (case N => k_asm); (case c => rfl); (case hm => k_mem); (case d => k_asm); k_whole; intro h' o' F' N' d'; (try k_sweep))))
section
/-- how many lead with a greater index -/
def lead (i : Int) (ixs : List Int) : Nat := (ixs.takeWhile fun j => decide (i < j)).length

theorem lead_le (i : Int) (ixs : List Int) : lead i ixs ≤ ixs.length := by
  unfold lead; exact (List.takeWhile_sublist _).length_le
theorem lead_eq {i : Int} : ∀ {ixs : List Int} {k : Nat}, k ≤ ixs.length → (∀ j, j < k → i < ixs.getD j 0) → (k = ixs.length ∨ ¬ i < ixs.getD k 0) → lead i ixs = k := by
  intro ixs
  induction ixs with
  | nil => intro k hk _ _; simp at hk; subst hk; rfl
  | cons a r ih =>
    intro k hk h1 h2
    cases k with
    | zero =>
      have : ¬ i < a := by simpa using h2
      simp [lead, this]
    | succ k =>
      have h0 : i < a := by simpa using h1 0 (Nat.succ_pos _)
      have := ih (k := k) (by simpa using hk) (fun j hj => by simpa using h1 (j + 1) (Nat.succ_lt_succ hj)) (by simpa using h2)
      unfold lead at this ⊢
      simp [h0, this]

/-- what spot_of's loop keeps -/
inductive SpotJ (x : Addr) (us : List Addr) (ixs : List Int) (i : Int) (t : Tok) (news : List (Addr × Obj)) (n : Nat) (m : Str → Option Value) (nx : List (Addr × Obj)) : Prop
  | mk (e : news = nx) (k : Nat) (t' : Tok) (hn : n = us.length - k) (hk : k ≤ us.length) (hlt : ∀ j, j < k → i < ixs.getD j 0)
    (m1 : m (Str.ofString "owner") = some (.ref x)) (m2 : m (Str.ofString "index") = some (.int i t)) (m3 : m (Str.ofString "at") = some (.int (k : Nat) t')) : SpotJ x us ixs i t news n m nx
set_option maxHeartbeats 4000000 in
theorem spot_of_ctr {w : World} {base h₀ : Heap} {outer : List Env} {A₀ : Around} {d u : Nat} {env : Env} {L : Addr} {m mg mb : Str → Option Value}
    {loose : List Str} {mean : ExcName → Option Value} {p : Program} {s : Shared} {news : List (Addr × Obj)} {R : Result → Shared → Prop}
    (C : Cx w A₀ base h₀ outer L s m mg mb loose mean p news env) (hd : d ≤ 500) (hu : u ≤ 5000)
    {x sl ol : Addr} {us : List Addr} {ixs : List Int} {i : Int} {t : Tok}
    (hx : GroundAt news x sl ol) (hol : ListAt news ol (refs us)) (hlen : us.length = ixs.length) (hfit : us.length ≤ 1000)
    (hU : ∀ k u, us[k]? = some u → ∃ th vl, UpAt news u th (ixs.getD k 0) vl)
    (post : ∀ h' tk t, Fr h₀ L h' m → News h₀ L h' news → R (.ok (.ret (.int (lead i ixs) t))) { s with heap := h', toks := tk }) :
    codeAny (model Challenge.rw_nt0630_01.row.prog w) ⟨none, d, some (env :: outer), some [], u⟩ (.call (.ref 111) ⟨[.ref x, .int i t], []⟩) R s := by
  obtain ⟨B, F, X, T, N, hf, hke⟩ := C
  obtain ⟨dx, o, hx1, hx2, n, c0, c1, t0, t1, rfl⟩ := hx
  obtain ⟨nl, hol⟩ := hol
  tb_start
  (repeat' (first | (k_unfold; (try dsimp only)) | (refine unhide (by assumption) ?_; (try dsimp only)) | ((fail_if_success (with_reducible first | show wpAny _ _ (exec (Stmt.While _ _ _ _) _) _ _ _ | show wpAny _ _ (exec (Stmt.For _ _ _ _ _) _) _ _ _ | show wpAny _ _ (exec (Stmt.Assign _ (Expr.ListComp _ _ _ _) _) _) _ _ _ | show wpAny _ _ (eval (Expr.ListComp _ _ _ _) _) _ _ _ | show wpAny _ _ (call (Value.type "enumerate") _) _ _ _ | show wpAny _ _ (call (Value.type "zip") _) _ _ _ | refine stand_ref (by decide) ?_)); first | ((with_reducible first | (refine execs_one (by assumption) fun _ => ?_) | (refine execs_hid fun _ _ _ => ?_))) | ((with_reducible show wpAny _ _ (call (Value.builtin "len") [Value.ref _]) _ _ _); k_dflt (refine len_at (by k_asm) (by k_mem) (by ktr_units) ?_; k_whole); (try simp only [refs_length])) | ((with_reducible show wpAny _ _ (subscriptTail _ _ (Value.ref _) (Value.int _ _)) _ _ _); (with_unfolding_all refine item_litK (News.isList (by k_asm) (by k_mem)) (by first | decide | omega) (by first | decide | omega) (by assumption) ?_ (by with_unfolding_all rfl); k_whole)) | walk1  | (dsimp only; walk1) | fail "no step")))
  (rename Fr _ _ _ _ => F'); (rename News _ _ _ _ => N')
  refine While_inv2 (SpotJ x us ixs i t news) (n₀ := us.length) F' N' ⟨rfl, 0, _, rfl, Nat.zero_le _, (by omega), rfl, rfl, rfl⟩ ?_
  clear F' N'
  rintro n₁ m₁ nx h₁ tk₁ F₁ N₁ hR1
  obtain ⟨rfl, k, t', hn, hk, hlt, m1, m2, m3⟩ := hR1
  replace F₁ := fr_know F₁ [(Str.ofString "owner", .ref x), (Str.ofString "index", .int i t), (Str.ofString "at", .int (k : Nat) t')] (by simp [m1, m2, m3])
  by_cases hkl : k < us.length
  · obtain ⟨a, ha⟩ : ∃ a, us[k]? = some a := ⟨us[k], by simp [hkl]⟩
    obtain ⟨th, vl, dxa, oa, ha1, ha2, na, e0, e1, e2, e3, e4, e5, s0, s1, s2, s3, s4, s5, v0, v1, v2, ti, rfl⟩ := hU k a ha
    have hit : (refs us)[((k : Nat) : Int).toNat]? = some (.ref a) := by simp [refs, ha]
    (repeat' (first | (k_unfold; (try dsimp only)) | (refine unhide (by assumption) ?_; (try dsimp only)) | ((fail_if_success (with_reducible first | show wpAny _ _ (exec (Stmt.While _ _ _ _) _) _ _ _ | show wpAny _ _ (exec (Stmt.For _ _ _ _ _) _) _ _ _ | show wpAny _ _ (exec (Stmt.Assign _ (Expr.ListComp _ _ _ _) _) _) _ _ _ | show wpAny _ _ (eval (Expr.ListComp _ _ _ _) _) _ _ _ | show wpAny _ _ (call (Value.type "enumerate") _) _ _ _ | show wpAny _ _ (call (Value.type "zip") _) _ _ _ | refine stand_ref (by decide) ?_)); first | ((with_reducible first | (refine execs_one (by assumption) fun _ => ?_) | (refine execs_hid fun _ _ _ => ?_))) | ((with_reducible show wpAny _ _ (call (Value.builtin "len") [Value.ref _]) _ _ _); k_dflt (refine len_at (by k_asm) (by k_mem) (by ktr_units) ?_; k_whole); (try simp only [refs_length])) | ((with_reducible show wpAny _ _ (subscriptTail _ _ (Value.ref _) (Value.int _ _)) _ _ _); (with_unfolding_all refine item_litK (News.isList (by k_asm) (by k_mem)) (by first | decide | omega) (by first | decide | omega) (by assumption) ?_ (by with_unfolding_all rfl); k_whole)) | walk1  | (dsimp only; walk1) | fail "no step")))
    · (rename Fr _ _ _ _ => F'); (rename News _ _ _ _ => N'); (rename i < _ => hlt2)
      refine ⟨_, _, _, _, us.length - (k + 1), rfl, F', N', by omega, rfl, k + 1, _, rfl, by omega, fun j hj => ?_, rfl, rfl, rfl⟩
      rcases Nat.lt_or_ge j k with h | h
      · exact hlt j h
      · have : j = k := by omega
        subst this; exact hlt2
    · (rename Fr h₀ _ _ _ => F'); (rename News h₀ _ _ _ => N'); (rename ¬ i < _ => hge)
      have e := lead_eq (i := i) (by omega : k ≤ ixs.length) hlt (.inr hge)
      subst e
      exact post _ _ _ F' N'
  · (repeat' (first | (k_unfold; (try dsimp only)) | (refine unhide (by assumption) ?_; (try dsimp only)) | ((fail_if_success (with_reducible first | show wpAny _ _ (exec (Stmt.While _ _ _ _) _) _ _ _ | show wpAny _ _ (exec (Stmt.For _ _ _ _ _) _) _ _ _ | show wpAny _ _ (exec (Stmt.Assign _ (Expr.ListComp _ _ _ _) _) _) _ _ _ | show wpAny _ _ (eval (Expr.ListComp _ _ _ _) _) _ _ _ | show wpAny _ _ (call (Value.type "enumerate") _) _ _ _ | show wpAny _ _ (call (Value.type "zip") _) _ _ _ | refine stand_ref (by decide) ?_)); first | ((with_reducible first | (refine execs_one (by assumption) fun _ => ?_) | (refine execs_hid fun _ _ _ => ?_))) | ((with_reducible show wpAny _ _ (call (Value.builtin "len") [Value.ref _]) _ _ _); k_dflt (refine len_at (by k_asm) (by k_mem) (by ktr_units) ?_; k_whole); (try simp only [refs_length])) | ((with_reducible show wpAny _ _ (subscriptTail _ _ (Value.ref _) (Value.int _ _)) _ _ _); (with_unfolding_all refine item_litK (News.isList (by k_asm) (by k_mem)) (by first | decide | omega) (by first | decide | omega) (by assumption) ?_ (by with_unfolding_all rfl); k_whole)) | walk1  | (dsimp only; walk1) | fail "no step")))
    (rename Fr h₀ _ _ _ => F'); (rename News h₀ _ _ _ => N')
    have e := lead_eq (i := i) (by omega : k ≤ ixs.length) hlt (.inl (by omega))
    subst e
    exact post _ _ _ F' N'

end
section
def hasOpen (ixs : List Int) (level : Int) : Bool := match ixs with
  | [] => false
  | j :: _ => decide (level ≤ j)


/-- what open_at hands back -/
def foundAt (us : List Addr) (ixs : List Int) (i : Int) : Value := match us[lead i ixs]? with
  | some a => if ixs.getD (lead i ixs) 0 = i then .ref a else .none
  | none => .none
theorem foundAt_some {us : List Addr} {ixs : List Int} {i : Int} {a : Addr} (h : us[lead i ixs]? = some a) (e : ixs.getD (lead i ixs) 0 = i) : foundAt us ixs i = .ref a := by
  unfold foundAt; rw [h]; dsimp only; rw [if_pos e]
theorem foundAt_none {us : List Addr} {ixs : List Int} {i : Int} (h : ¬ ∃ a, us[lead i ixs]? = some a ∧ ixs.getD (lead i ixs) 0 = i) : foundAt us ixs i = .none := by
  unfold foundAt
  cases ha : us[lead i ixs]? with
  | none => rfl
  | some a => dsimp only; rw [if_neg fun e => h ⟨a, ha, e⟩]
section
variable {w : World} {base h₀ : Heap} {outer : List Env} {A₀ : Around} {d u : Nat} {env : Env} {L : Addr} {m mg mb : Str → Option Value}
    {loose : List Str} {mean : ExcName → Option Value} {p : Program} {s : Shared} {news : List (Addr × Obj)} {R : Result → Shared → Prop}

set_option maxHeartbeats 4000000 in
theorem has_open_ctr (C : Cx w A₀ base h₀ outer L s m mg mb loose mean p news env) (hd : d ≤ 500) (hu : u ≤ 5000)
    {x sl ol : Addr} {us : List Addr} {ixs : List Int} {i : Int} {t : Tok}
    (hx : GroundAt news x sl ol) (hol : ListAt news ol (refs us)) (hlen : us.length = ixs.length) (hfit : us.length ≤ 1000)
    (hU : ∀ k u, us[k]? = some u → ∃ th vl, UpAt news u th (ixs.getD k 0) vl)
    (post : ∀ h' tk, Fr h₀ L h' m → News h₀ L h' news → R (.ok (.ret (.bool (hasOpen ixs i)))) { s with heap := h', toks := tk }) :
    codeAny (model Challenge.rw_nt0630_01.row.prog w) ⟨none, d, some (env :: outer), some [], u⟩ (.call (.ref 146) ⟨[.ref x, .int i t], []⟩) R s := by
  obtain ⟨B, F, X, T, N, hf, hke⟩ := C
  obtain ⟨dx, o, hx1, hx2, n, c0, c1, t0, t1, rfl⟩ := hx
  obtain ⟨nl, hol⟩ := hol
  cases us with
  | nil =>
    have : ixs = [] := by cases ixs with | nil => rfl | cons _ _ => simp at hlen
    subst this
    tb_start
    (repeat' (first | (k_unfold; (try dsimp only)) | (refine unhide (by assumption) ?_; (try dsimp only)) | ((fail_if_success (with_reducible first | show wpAny _ _ (exec (Stmt.While _ _ _ _) _) _ _ _ | show wpAny _ _ (exec (Stmt.For _ _ _ _ _) _) _ _ _ | show wpAny _ _ (exec (Stmt.Assign _ (Expr.ListComp _ _ _ _) _) _) _ _ _ | show wpAny _ _ (eval (Expr.ListComp _ _ _ _) _) _ _ _ | show wpAny _ _ (call (Value.type "enumerate") _) _ _ _ | show wpAny _ _ (call (Value.type "zip") _) _ _ _ | refine stand_ref (by decide) ?_)); first | ((with_reducible first | (refine execs_one (by assumption) fun _ => ?_) | (refine execs_hid fun _ _ _ => ?_))) | ((with_reducible show wpAny _ _ (call (Value.ref 111) [Value.ref _, Value.int _ _]) _ _ _); k_dflt (refine wpAny_call (spot_of_ctr ⟨by k_asm, by k_asm, by k_asm, by k_asm, by k_asm, rfl, rfl⟩ (by ktr_room) (by ktr_room) (by assumption) (by assumption) (by assumption) (by assumption) (by assumption) ?_)); intro _ _ _ _ _) | ((with_reducible show wpAny _ _ (call (Value.builtin "len") [Value.ref _]) _ _ _); k_dflt (refine len_at (by k_asm) (by k_mem) (by ktr_units) ?_; k_whole); (try simp only [refs_length])) | ((with_reducible show wpAny _ _ (subscriptTail _ _ (Value.ref _) (Value.int _ _)) _ _ _); (with_unfolding_all refine item_litK (News.isList (by k_asm) (by k_mem)) (by first | decide | omega) (by first | decide | omega) (by assumption) ?_ (by with_unfolding_all rfl); k_whole)) | walk1  | (dsimp only; walk1) | fail "no step")))
    (rename Fr h₀ _ _ _ => F'); (rename News h₀ _ _ _ => N')
    exact post _ _ F' N'
  | cons a us =>
    cases ixs with
    | nil => simp at hlen
    | cons j ixs =>
      have hn : 0 < (a :: us).length := Nat.succ_pos _
      obtain ⟨th, vl, dxa, oa, ha1, ha2, na, e0, e1, e2, e3, e4, e5, s0, s1, s2, s3, s4, s5, v0, v1, v2, ti, rfl⟩ := hU 0 a rfl
      have hit : (refs (a :: us))[(0 : Int).toNat]? = some (.ref a) := rfl
      simp only [List.getD_cons_zero] at ha2
      tb_start
      (repeat' (first | (k_unfold; (try dsimp only)) | (refine unhide (by assumption) ?_; (try dsimp only)) | ((fail_if_success (with_reducible first | show wpAny _ _ (exec (Stmt.While _ _ _ _) _) _ _ _ | show wpAny _ _ (exec (Stmt.For _ _ _ _ _) _) _ _ _ | show wpAny _ _ (exec (Stmt.Assign _ (Expr.ListComp _ _ _ _) _) _) _ _ _ | show wpAny _ _ (eval (Expr.ListComp _ _ _ _) _) _ _ _ | show wpAny _ _ (call (Value.type "enumerate") _) _ _ _ | show wpAny _ _ (call (Value.type "zip") _) _ _ _ | refine stand_ref (by decide) ?_)); first | ((with_reducible first | (refine execs_one (by assumption) fun _ => ?_) | (refine execs_hid fun _ _ _ => ?_))) | ((with_reducible show wpAny _ _ (call (Value.ref 111) [Value.ref _, Value.int _ _]) _ _ _); k_dflt (refine wpAny_call (spot_of_ctr ⟨by k_asm, by k_asm, by k_asm, by k_asm, by k_asm, rfl, rfl⟩ (by ktr_room) (by ktr_room) (by assumption) (by assumption) (by assumption) (by assumption) (by assumption) ?_)); intro _ _ _ _ _) | ((with_reducible show wpAny _ _ (call (Value.builtin "len") [Value.ref _]) _ _ _); k_dflt (refine len_at (by k_asm) (by k_mem) (by ktr_units) ?_; k_whole); (try simp only [refs_length])) | ((with_reducible show wpAny _ _ (subscriptTail _ _ (Value.ref _) (Value.int _ _)) _ _ _); (with_unfolding_all refine item_litK (News.isList (by k_asm) (by k_mem)) (by first | decide | omega) (by first | decide | omega) (by assumption) ?_ (by with_unfolding_all rfl); k_whole)) | walk1  | (dsimp only; walk1) | fail "no step")))
      (rename Fr h₀ _ _ _ => F'); (rename News h₀ _ _ _ => N')
      exact post _ _ F' N'

set_option maxHeartbeats 4000000 in
theorem open_at_ctr (C : Cx w A₀ base h₀ outer L s m mg mb loose mean p news env) (hd : d ≤ 490) (hu : u ≤ 4900)
    {x sl ol : Addr} {us : List Addr} {ixs : List Int} {i : Int} {t : Tok}
    (hx : GroundAt news x sl ol) (hol : ListAt news ol (refs us)) (hlen : us.length = ixs.length) (hfit : us.length ≤ 1000)
    (hU : ∀ k u, us[k]? = some u → ∃ th vl, UpAt news u th (ixs.getD k 0) vl)
    (post : ∀ h' tk, Fr h₀ L h' m → News h₀ L h' news →
      R (.ok (.ret (foundAt us ixs i))) { s with heap := h', toks := tk }) :
    codeAny (model Challenge.rw_nt0630_01.row.prog w) ⟨none, d, some (env :: outer), some [], u⟩ (.call (.ref 118) ⟨[.ref x, .int i t], []⟩) R s := by
  obtain ⟨B, F, X, T, N, hf, hke⟩ := C
  have hx' := hx
  have hol' := hol
  obtain ⟨dx, o, hx1, hx2, n, c0, c1, t0, t1, rfl⟩ := hx
  obtain ⟨nl, hol⟩ := hol
  by_cases hl : lead i ixs < us.length
  · obtain ⟨a, ha⟩ : ∃ a, us[lead i ixs]? = some a := ⟨us[lead i ixs], by simp [hl]⟩
    obtain ⟨th, vl, dxa, oa, ha1, ha2, na, e0, e1, e2, e3, e4, e5, s0, s1, s2, s3, s4, s5, v0, v1, v2, ti, rfl⟩ := hU _ a ha
    have hit : (refs us)[((lead i ixs : Nat) : Int).toNat]? = some (.ref a) := by simp [refs, ha]
    by_cases he : ixs.getD (lead i ixs) 0 = i
    · rw [foundAt_some ha he] at post
      tb_start
      (repeat' (first | (k_unfold; (try dsimp only)) | (refine unhide (by assumption) ?_; (try dsimp only)) | ((fail_if_success (with_reducible first | show wpAny _ _ (exec (Stmt.While _ _ _ _) _) _ _ _ | show wpAny _ _ (exec (Stmt.For _ _ _ _ _) _) _ _ _ | show wpAny _ _ (exec (Stmt.Assign _ (Expr.ListComp _ _ _ _) _) _) _ _ _ | show wpAny _ _ (eval (Expr.ListComp _ _ _ _) _) _ _ _ | show wpAny _ _ (call (Value.type "enumerate") _) _ _ _ | show wpAny _ _ (call (Value.type "zip") _) _ _ _ | refine stand_ref (by decide) ?_)); first | ((with_reducible first | (refine execs_one (by assumption) fun _ => ?_) | (refine execs_hid fun _ _ _ => ?_))) | ((with_reducible show wpAny _ _ (call (Value.ref 111) [Value.ref _, Value.int _ _]) _ _ _); k_dflt (refine wpAny_call (spot_of_ctr ⟨by k_asm, by k_asm, by k_asm, by k_asm, by k_asm, rfl, rfl⟩ (by ktr_room) (by ktr_room) (by assumption) (by assumption) (by assumption) (by assumption) (by assumption) ?_)); intro _ _ _ _ _) | ((with_reducible show wpAny _ _ (call (Value.builtin "len") [Value.ref _]) _ _ _); k_dflt (refine len_at (by k_asm) (by k_mem) (by ktr_units) ?_; k_whole); (try simp only [refs_length])) | ((with_reducible show wpAny _ _ (subscriptTail _ _ (Value.ref _) (Value.int _ _)) _ _ _); (with_unfolding_all refine item_litK (News.isList (by k_asm) (by k_mem)) (by first | decide | omega) (by first | decide | omega) (by assumption) ?_ (by with_unfolding_all rfl); k_whole)) | walk1  | (dsimp only; walk1) | fail "no step")))
      all_goals (rename Fr h₀ _ _ _ => F'); (rename News h₀ _ _ _ => N')
      · exact post _ _ F' N'
      · exact absurd he (by assumption)
    · rw [foundAt_none fun ⟨_, _, h⟩ => he h] at post
      tb_start
      (repeat' (first | (k_unfold; (try dsimp only)) | (refine unhide (by assumption) ?_; (try dsimp only)) | ((fail_if_success (with_reducible first | show wpAny _ _ (exec (Stmt.While _ _ _ _) _) _ _ _ | show wpAny _ _ (exec (Stmt.For _ _ _ _ _) _) _ _ _ | show wpAny _ _ (exec (Stmt.Assign _ (Expr.ListComp _ _ _ _) _) _) _ _ _ | show wpAny _ _ (eval (Expr.ListComp _ _ _ _) _) _ _ _ | show wpAny _ _ (call (Value.type "enumerate") _) _ _ _ | show wpAny _ _ (call (Value.type "zip") _) _ _ _ | refine stand_ref (by decide) ?_)); first | ((with_reducible first | (refine execs_one (by assumption) fun _ => ?_) | (refine execs_hid fun _ _ _ => ?_))) | ((with_reducible show wpAny _ _ (call (Value.ref 111) [Value.ref _, Value.int _ _]) _ _ _); k_dflt (refine wpAny_call (spot_of_ctr ⟨by k_asm, by k_asm, by k_asm, by k_asm, by k_asm, rfl, rfl⟩ (by ktr_room) (by ktr_room) (by assumption) (by assumption) (by assumption) (by assumption) (by assumption) ?_)); intro _ _ _ _ _) | ((with_reducible show wpAny _ _ (call (Value.builtin "len") [Value.ref _]) _ _ _); k_dflt (refine len_at (by k_asm) (by k_mem) (by ktr_units) ?_; k_whole); (try simp only [refs_length])) | ((with_reducible show wpAny _ _ (subscriptTail _ _ (Value.ref _) (Value.int _ _)) _ _ _); (with_unfolding_all refine item_litK (News.isList (by k_asm) (by k_mem)) (by first | decide | omega) (by first | decide | omega) (by assumption) ?_ (by with_unfolding_all rfl); k_whole)) | walk1  | (dsimp only; walk1) | fail "no step")))
      all_goals (rename Fr h₀ _ _ _ => F'); (rename News h₀ _ _ _ => N')
      · exact absurd (by assumption) he
      · exact post _ _ F' N'
  · have ha : us[lead i ixs]? = none := by simp; omega
    rw [foundAt_none fun ⟨_, h, _⟩ => by rw [ha] at h; cases h] at post
    tb_start
    (repeat' (first | (k_unfold; (try dsimp only)) | (refine unhide (by assumption) ?_; (try dsimp only)) | ((fail_if_success (with_reducible first | show wpAny _ _ (exec (Stmt.While _ _ _ _) _) _ _ _ | show wpAny _ _ (exec (Stmt.For _ _ _ _ _) _) _ _ _ | show wpAny _ _ (exec (Stmt.Assign _ (Expr.ListComp _ _ _ _) _) _) _ _ _ | show wpAny _ _ (eval (Expr.ListComp _ _ _ _) _) _ _ _ | show wpAny _ _ (call (Value.type "enumerate") _) _ _ _ | show wpAny _ _ (call (Value.type "zip") _) _ _ _ | refine stand_ref (by decide) ?_)); first | ((with_reducible first | (refine execs_one (by assumption) fun _ => ?_) | (refine execs_hid fun _ _ _ => ?_))) | ((with_reducible show wpAny _ _ (call (Value.ref 111) [Value.ref _, Value.int _ _]) _ _ _); k_dflt (refine wpAny_call (spot_of_ctr ⟨by k_asm, by k_asm, by k_asm, by k_asm, by k_asm, rfl, rfl⟩ (by ktr_room) (by ktr_room) (by assumption) (by assumption) (by assumption) (by assumption) (by assumption) ?_)); intro _ _ _ _ _) | ((with_reducible show wpAny _ _ (call (Value.builtin "len") [Value.ref _]) _ _ _); k_dflt (refine len_at (by k_asm) (by k_mem) (by ktr_units) ?_; k_whole); (try simp only [refs_length])) | ((with_reducible show wpAny _ _ (subscriptTail _ _ (Value.ref _) (Value.int _ _)) _ _ _); (with_unfolding_all refine item_litK (News.isList (by k_asm) (by k_mem)) (by first | decide | omega) (by first | decide | omega) (by assumption) ?_ (by with_unfolding_all rfl); k_whole)) | walk1  | (dsimp only; walk1) | fail "no step")))
    (rename Fr h₀ _ _ _ => F'); (rename News h₀ _ _ _ => N')
    exact post _ _ F' N'
end

end
section
section
variable {prog : Program} {w : World} {A : Around} {E : Value → Shared → Prop} {s : Shared} {env : Env} {h₀ : Heap} {x : Str} {body : List Stmt} {Q : Flow → Shared → Prop}

theorem iter_at {l : Addr} {vs : List Value} {n : Nat} {m₀ : Str → Option Value} {news : List (Addr × Obj)} (J : Nat → (Str → Option Value) → List (Addr × Obj) → Prop)
    (hh : A.handled = none) (N : News h₀ env.locals s.heap news) (hm : (l, W.listOf vs.toArray n) ∈ news) (F : Fr h₀ env.locals s.heap m₀) (hj : J 0 m₀ news)
    (turn : ∀ I i v m₁ news₁ h tk own, vs[i]? = some v → (∀ p ∈ news, p.1 ≠ I) → (∀ p ∈ own, p.1 = I ∨ p.1 = l) → (∀ p ∈ news₁, p.1 ≠ I) → J i m₁ news₁ →
      Fr h₀ env.locals h (fun y => if y = x then some v else m₁ y) → News h₀ env.locals h (news₁ ++ own) →
      wpAny (model prog w) A (execs body env) (TurnEnd h₀ env.locals (J (i + 1)) I l own s Q) E { s with heap := h, toks := tk })
    (done : ∀ m₁ news₁ h tk, J vs.length m₁ news₁ → Fr h₀ env.locals h m₁ → News h₀ env.locals h news₁ → Q .next { s with heap := h, toks := tk }) :
    wpAny (model prog w) A (pyIter (.ref l)) (fun it s₂ => LoopAtV prog w A h₀ env x body Q E it s₂) E s := by
  have hl : s.heap.IsList l vs.toArray := ⟨_, N.get hm, rfl, n, rfl⟩
  have hlt : l < s.heap.objs.size := Heap.lt_size (N.get hm)
  have hne : l ≠ s.heap.objs.size := Nat.ne_of_lt hlt
  refine wpAny_pyIter_list hl ?_
  have W := Walks.list (prog := prog) (w := w) hh s.heap.objs.size l hne vs.toArray
  have hlen : vs.toArray.size = vs.length := by simp
  rw [hlen] at W
  refine ⟨_, _, _, vs.length, _, _, m₀, news, J, rfl, W, ?_, ?_, ?_, ⟨⟨_, Heap.get?_push_size _ rfl, rfl, rfl⟩, hl.at fun o e => Heap.get?_push_of_some _ e⟩, F.push _, (fun p hp => ⟨Heap.get?_push_of_some _ (N p hp).1, (N p hp).2⟩), hj, ?_, ?_⟩
  · intro hm'
    rcases List.mem_cons.mp hm' with e | hm'
    · exact absurd F.ns.lt (e ▸ Nat.lt_irrefl _)
    · exact (N _ hm).2.1 (List.mem_singleton.mp hm').symm
  · intro b hb
    rw [List.mem_singleton.mp hb]
    exact next_is_new F
  · intro p hp hI
    exact absurd (Heap.lt_size (N p hp).1) ((List.mem_singleton.mp hI) ▸ Nat.lt_irrefl _)
  · rintro i v m₁ news₁ s₁ own ⟨hh', tk', rfl⟩ hin hP hJ hoff hown _ _ _ F₁ N₁
    have hv : vs[i]? = some v := by simpa using hP
    have N₂ : News h₀ env.locals hh' (news₁ ++ own) := fun p hp => N₁ p ((List.mem_append.mp hp).elim (fun h => List.mem_append.mpr (.inr h)) fun h => List.mem_append.mpr (.inl h))
    refine wpAny_mono (turn s.heap.objs.size i v m₁ news₁ hh' tk' own hv (fun p hp e => ?_) (fun p hp => ?_) (fun p hp e => hoff p hp (List.mem_singleton.mpr e)) hJ F₁ N₂) (fun f s₂ p => ?_) fun _ _ e => e
    · exact absurd (Heap.lt_size (N p hp).1) (e ▸ Nat.lt_irrefl _)
    · rcases List.mem_cons.mp (hown p hp) with h | h
      · exact .inl h
      · exact .inr (List.mem_singleton.mp h)
    · have fin : (∃ h' tk m' news' nx, s₂ = { s with heap := h', toks := tk } ∧ Fr h₀ env.locals h' m' ∧ News h₀ env.locals h' news' ∧ (∀ p ∈ nx, p ∈ news') ∧ (∀ p ∈ own, p ∈ news') ∧ (∀ p ∈ nx, p.1 ≠ s.heap.objs.size) ∧ J (i + 1) m' nx) →
          LoopStepU h₀ env.locals [s.heap.objs.size] own (J (i + 1)) { s with heap := hh', toks := tk' } .next s₂ := by
        rintro ⟨h', tk, m', news', nx, rfl, F', N', hn, ho, ha, hm'⟩
        exact ⟨rfl, h', tk, m', nx, rfl, F', fun p hp => N' p ((List.mem_append.mp hp).elim (ho p) (hn p)), fun p hp hI => ha p hp (List.mem_singleton.mp hI), hm'⟩
      cases f with
      | ret v => exact .ret p
      | brk => exact .brk p
      | next => exact .next (fin p)
      | cont => exact .cont (fin p)
  · rintro h' tk m' news' F' N' _ hJ
    exact done m' news' h' tk hJ F' N'
end

end
section
/-- what check_upvals reckons: the threads and the indices, from a lid on -/
def chk (x : Addr) : Int → List (Value × Int) → Bool
  | _, [] => true
  | a, (th, ix) :: r => th == .ref x && decide (0 ≤ ix) && decide (ix < a) && chk x ix r


local macro_rules | `(tactic| walk_at "compareOp IsNot ref ref") => `(tactic| (k_here; k_dflt (refine' wpAny_isNot_ref_other ?k1 (News.get (by assumption) ?k2) (News.get (by assumption) ?k3) ?k4 ?_; (case k1 => assumption); (case k2 => assumption); (case k3 => assumption); (case k4 => (intro e; cases e)); k_whole)))
/-- what check_upvals' loop keeps -/
inductive CheckJ (x : Addr) (vl : Int) (ts : List (Value × Int)) (news : List (Addr × Obj)) (i : Nat) (m : Str → Option Value) (nx : List (Addr × Obj)) : Prop
  | mk (e : news = nx) (a : Int) (t' : Tok) (m1 : m (Str.ofString "owner") = some (.ref x)) (m2 : m (Str.ofString "ahead") = some (.int a t')) (hc : chk x vl ts = chk x a (ts.drop i)) : CheckJ x vl ts news i m nx
section
variable {w : World} {base h₀ : Heap} {outer : List Env} {A₀ : Around} {d u : Nat} {env : Env} {L : Addr} {m mg mb : Str → Option Value}
    {loose : List Str} {mean : ExcName → Option Value} {p : Program} {s : Shared} {news : List (Addr × Obj)} {R : Result → Shared → Prop}

set_option maxHeartbeats 4000000 in
theorem check_ctr (C : Cx w A₀ base h₀ outer L s m mg mb loose mean p news env) (hd : d ≤ 500) (hu : u ≤ 5000)
    {x sl ol : Addr} {us : List Addr} {vs : List Value} {ts : List (Value × Int)}
    (hx : GroundAt news x sl ol) (hsl : ListAt news sl vs) (hvfit : vs.length ≤ 100000) (hol : ListAt news ol (refs us)) (hlen : us.length = ts.length)
    (hU : ∀ (k : Nat) (u : Addr) (th : Value) (ix : Int), us[k]? = some u → ts[k]? = some (th, ix) → ∃ vl, UpAt news u th ix vl) (hth : ∀ q ∈ ts, q.1 = Value.none ∨ ∃ a da, q.1 = Value.ref a ∧ (a, instObj 100 da) ∈ news)
    (post : ∀ h' tk, Fr h₀ L h' m → News h₀ L h' news → R (.ok (.ret (.bool (chk x vs.length ts)))) { s with heap := h', toks := tk }) :
    codeAny (model Challenge.rw_nt0630_01.row.prog w) ⟨none, d, some (env :: outer), some [], u⟩ (.call (.ref 153) ⟨[.ref x], []⟩) R s := by
  obtain ⟨B, F, X, T, N, hf, hke⟩ := C
  obtain ⟨dx, o, hx1, hx2, n, c0, c1, t0, t1, rfl⟩ := hx
  obtain ⟨nl, hol⟩ := hol
  obtain ⟨ns, hsl⟩ := hsl
  tb_start
  (repeat' (first | (k_unfold; (try dsimp only)) | (refine unhide (by assumption) ?_; (try dsimp only)) | ((fail_if_success (with_reducible first | show wpAny _ _ (exec (Stmt.While _ _ _ _) _) _ _ _ | show wpAny _ _ (exec (Stmt.For _ _ _ _ _) _) _ _ _ | show wpAny _ _ (exec (Stmt.Assign _ (Expr.ListComp _ _ _ _) _) _) _ _ _ | show wpAny _ _ (eval (Expr.ListComp _ _ _ _) _) _ _ _ | show wpAny _ _ (call (Value.type "enumerate") _) _ _ _ | show wpAny _ _ (call (Value.type "zip") _) _ _ _ | refine stand_ref (by decide) ?_)); first | ((with_reducible first | (refine execs_one (by assumption) fun _ => ?_) | (refine execs_hid fun _ _ _ => ?_))) | ((with_reducible show wpAny _ _ (call (Value.builtin "len") [Value.ref _]) _ _ _); k_dflt (refine len_at (by k_asm) (by k_mem) (by ktr_units) ?_; k_whole); (try simp only [refs_length])) | ((with_reducible show wpAny _ _ (subscriptTail _ _ (Value.ref _) (Value.int _ _)) _ _ _); (with_unfolding_all refine item_litK (News.isList (by k_asm) (by k_mem)) (by first | decide | omega) (by first | decide | omega) (by assumption) ?_ (by with_unfolding_all rfl); k_whole)) | ((with_reducible show TurnEnd _ _ _ _ _ _ _ _ (Flow.ret _) _); dsimp only [TurnEnd]) | walk1  | (dsimp only; walk1) | fail "no step")))
  (rename Fr _ _ _ _ => F'); (rename News _ _ _ _ => N')
  (with_unfolding_all refine' For_invVF F' ?k1 ?k2 ?_; (case k1 => exact rfl); (case k2 => exact rfl))
  (repeat' (first | (k_unfold; (try dsimp only)) | (refine unhide (by assumption) ?_; (try dsimp only)) | ((fail_if_success (with_reducible first | show wpAny _ _ (exec (Stmt.While _ _ _ _) _) _ _ _ | show wpAny _ _ (exec (Stmt.For _ _ _ _ _) _) _ _ _ | show wpAny _ _ (exec (Stmt.Assign _ (Expr.ListComp _ _ _ _) _) _) _ _ _ | show wpAny _ _ (eval (Expr.ListComp _ _ _ _) _) _ _ _ | show wpAny _ _ (call (Value.type "enumerate") _) _ _ _ | show wpAny _ _ (call (Value.type "zip") _) _ _ _ | refine stand_ref (by decide) ?_)); first | ((with_reducible first | (refine execs_one (by assumption) fun _ => ?_) | (refine execs_hid fun _ _ _ => ?_))) | ((with_reducible show wpAny _ _ (call (Value.builtin "len") [Value.ref _]) _ _ _); k_dflt (refine len_at (by k_asm) (by k_mem) (by ktr_units) ?_; k_whole); (try simp only [refs_length])) | ((with_reducible show wpAny _ _ (subscriptTail _ _ (Value.ref _) (Value.int _ _)) _ _ _); (with_unfolding_all refine item_litK (News.isList (by k_asm) (by k_mem)) (by first | decide | omega) (by first | decide | omega) (by assumption) ?_ (by with_unfolding_all rfl); k_whole)) | ((with_reducible show TurnEnd _ _ _ _ _ _ _ _ (Flow.ret _) _); dsimp only [TurnEnd]) | walk1  | (dsimp only; walk1) | fail "no step")))
  refine iter_at (CheckJ x vs.length ts news) rfl N' hol F' ⟨rfl, _, _, rfl, rfl, rfl⟩ ?_ ?_
  · rintro I i v m₁ news₁ h tk own hv - - hoff hR1 F₁ N₁
    obtain ⟨rfl, a, t', m1, m2, hc⟩ := hR1
    have hi : i < us.length := by
      have := (List.getElem?_eq_some_iff.mp hv).1
      simpa [refs] using this
    obtain ⟨b, hb⟩ : ∃ b, us[i]? = some b := ⟨us[i], by simp [hi]⟩
    have hvb : v = .ref b := by simpa [refs, hb] using hv.symm
    subst hvb
    obtain ⟨⟨th, ix⟩, hq⟩ : ∃ q, ts[i]? = some q := ⟨ts[i], by simp [← hlen, hi]⟩
    obtain ⟨vl, dxa, oa, ha1, ha2, na, e0, e1, e2, e3, e4, e5, s0, s1, s2, s3, s4, s5, v0, v1, v2, ti, rfl⟩ := hU i b th ix hb hq
    have hd : ts.drop i = (th, ix) :: ts.drop (i + 1) := by
      have hl : i < ts.length := by omega
      rw [List.drop_eq_getElem_cons hl]
      have : ts[i] = (th, ix) := by simpa [hl] using hq
      rw [this]
    rw [hd] at hc
    replace F₁ := fr_at (x := Str.ofString "owner") (v := .ref x) (fr_at (x := Str.ofString "ahead") (v := .int a t') F₁ (by with_unfolding_all exact m2)) (by with_unfolding_all exact m1)
    replace hx1 := up_l own hx1
    replace hx2 := up_l own hx2
    replace ha1 := up_l own ha1
    replace ha2 := up_l own ha2
    rcases hth _ (List.mem_of_getElem? hq) with hn | ⟨c, da, hn, hc1⟩
    · dsimp only at hn
      subst hn
      (repeat' (first | (k_unfold; (try dsimp only)) | (refine unhide (by assumption) ?_; (try dsimp only)) | ((fail_if_success (with_reducible first | show wpAny _ _ (exec (Stmt.While _ _ _ _) _) _ _ _ | show wpAny _ _ (exec (Stmt.For _ _ _ _ _) _) _ _ _ | show wpAny _ _ (exec (Stmt.Assign _ (Expr.ListComp _ _ _ _) _) _) _ _ _ | show wpAny _ _ (eval (Expr.ListComp _ _ _ _) _) _ _ _ | show wpAny _ _ (call (Value.type "enumerate") _) _ _ _ | show wpAny _ _ (call (Value.type "zip") _) _ _ _ | refine stand_ref (by decide) ?_)); first | ((with_reducible first | (refine execs_one (by assumption) fun _ => ?_) | (refine execs_hid fun _ _ _ => ?_))) | ((with_reducible show wpAny _ _ (call (Value.builtin "len") [Value.ref _]) _ _ _); k_dflt (refine len_at (by k_asm) (by k_mem) (by ktr_units) ?_; k_whole); (try simp only [refs_length])) | ((with_reducible show wpAny _ _ (subscriptTail _ _ (Value.ref _) (Value.int _ _)) _ _ _); (with_unfolding_all refine item_litK (News.isList (by k_asm) (by k_mem)) (by first | decide | omega) (by first | decide | omega) (by assumption) ?_ (by with_unfolding_all rfl); k_whole)) | ((with_reducible show TurnEnd _ _ _ _ _ _ _ _ (Flow.ret _) _); dsimp only [TurnEnd]) | walk1  | (dsimp only; walk1) | fail "no step")))
      (rename Fr h₀ _ _ _ => F'); (rename News h₀ _ _ _ => N')
      have e : chk x vs.length ts = false := by rw [hc]; simp [chk]
      rw [e] at post
      exact post _ _ F' fun p hp => N' p (up_l own hp)
    · dsimp only at hn
      subst hn
      replace hc1 := up_l own hc1
      by_cases hcx : c = x
      · subst hcx
        (repeat' (first | (k_unfold; (try dsimp only)) | (refine unhide (by assumption) ?_; (try dsimp only)) | ((fail_if_success (with_reducible first | show wpAny _ _ (exec (Stmt.While _ _ _ _) _) _ _ _ | show wpAny _ _ (exec (Stmt.For _ _ _ _ _) _) _ _ _ | show wpAny _ _ (exec (Stmt.Assign _ (Expr.ListComp _ _ _ _) _) _) _ _ _ | show wpAny _ _ (eval (Expr.ListComp _ _ _ _) _) _ _ _ | show wpAny _ _ (call (Value.type "enumerate") _) _ _ _ | show wpAny _ _ (call (Value.type "zip") _) _ _ _ | refine stand_ref (by decide) ?_)); first | ((with_reducible first | (refine execs_one (by assumption) fun _ => ?_) | (refine execs_hid fun _ _ _ => ?_))) | ((with_reducible show wpAny _ _ (call (Value.builtin "len") [Value.ref _]) _ _ _); k_dflt (refine len_at (by k_asm) (by k_mem) (by ktr_units) ?_; k_whole); (try simp only [refs_length])) | ((with_reducible show wpAny _ _ (subscriptTail _ _ (Value.ref _) (Value.int _ _)) _ _ _); (with_unfolding_all refine item_litK (News.isList (by k_asm) (by k_mem)) (by first | decide | omega) (by first | decide | omega) (by assumption) ?_ (by with_unfolding_all rfl); k_whole)) | ((with_reducible show TurnEnd _ _ _ _ _ _ _ _ (Flow.ret _) _); dsimp only [TurnEnd]) | walk1  | (dsimp only; walk1) | fail "no step")))
        · (rename 0 ≤ ix => h1); (rename ix < a => h2)
          (rename Fr _ _ _ _ => F'); (rename News _ _ _ _ => N')
          refine ⟨_, _, _, _, news, rfl, F', N', (fun p hp => up_l own hp), (fun p hp => List.mem_append_right _ hp), hoff, rfl, ix, _, rfl, rfl, ?_⟩
          rw [hc]; simp [chk, h1, h2]
        · (rename ¬ ix < a => h2)
          (rename Fr h₀ _ _ _ => F'); (rename News h₀ _ _ _ => N')
          have e : chk c vs.length ts = false := by rw [hc]; simp [chk, h2]
          rw [e] at post
          exact post _ _ F' fun p hp => N' p (up_l own hp)
        · (rename ¬ 0 ≤ ix => h2)
          (rename Fr h₀ _ _ _ => F'); (rename News h₀ _ _ _ => N')
          have e : chk c vs.length ts = false := by rw [hc]; simp [chk, h2]
          rw [e] at post
          exact post _ _ F' fun p hp => N' p (up_l own hp)
      · (repeat' (first | (k_unfold; (try dsimp only)) | (refine unhide (by assumption) ?_; (try dsimp only)) | ((fail_if_success (with_reducible first | show wpAny _ _ (exec (Stmt.While _ _ _ _) _) _ _ _ | show wpAny _ _ (exec (Stmt.For _ _ _ _ _) _) _ _ _ | show wpAny _ _ (exec (Stmt.Assign _ (Expr.ListComp _ _ _ _) _) _) _ _ _ | show wpAny _ _ (eval (Expr.ListComp _ _ _ _) _) _ _ _ | show wpAny _ _ (call (Value.type "enumerate") _) _ _ _ | show wpAny _ _ (call (Value.type "zip") _) _ _ _ | refine stand_ref (by decide) ?_)); first | ((with_reducible first | (refine execs_one (by assumption) fun _ => ?_) | (refine execs_hid fun _ _ _ => ?_))) | ((with_reducible show wpAny _ _ (call (Value.builtin "len") [Value.ref _]) _ _ _); k_dflt (refine len_at (by k_asm) (by k_mem) (by ktr_units) ?_; k_whole); (try simp only [refs_length])) | ((with_reducible show wpAny _ _ (subscriptTail _ _ (Value.ref _) (Value.int _ _)) _ _ _); (with_unfolding_all refine item_litK (News.isList (by k_asm) (by k_mem)) (by first | decide | omega) (by first | decide | omega) (by assumption) ?_ (by with_unfolding_all rfl); k_whole)) | ((with_reducible show TurnEnd _ _ _ _ _ _ _ _ (Flow.ret _) _); dsimp only [TurnEnd]) | walk1  | (dsimp only; walk1) | fail "no step")))
        (rename Fr h₀ _ _ _ => F'); (rename News h₀ _ _ _ => N')
        have e : chk x vs.length ts = false := by rw [hc]; simp [chk, hcx]
        rw [e] at post
        exact post _ _ F' fun p hp => N' p (up_l own hp)
  · rintro m₁ nx h tk hR1 F₁ N₁
    obtain ⟨rfl, a, t', m1, m2, hc⟩ := hR1
    (repeat' (first | (k_unfold; (try dsimp only)) | (refine unhide (by assumption) ?_; (try dsimp only)) | ((fail_if_success (with_reducible first | show wpAny _ _ (exec (Stmt.While _ _ _ _) _) _ _ _ | show wpAny _ _ (exec (Stmt.For _ _ _ _ _) _) _ _ _ | show wpAny _ _ (exec (Stmt.Assign _ (Expr.ListComp _ _ _ _) _) _) _ _ _ | show wpAny _ _ (eval (Expr.ListComp _ _ _ _) _) _ _ _ | show wpAny _ _ (call (Value.type "enumerate") _) _ _ _ | show wpAny _ _ (call (Value.type "zip") _) _ _ _ | refine stand_ref (by decide) ?_)); first | ((with_reducible first | (refine execs_one (by assumption) fun _ => ?_) | (refine execs_hid fun _ _ _ => ?_))) | ((with_reducible show wpAny _ _ (call (Value.builtin "len") [Value.ref _]) _ _ _); k_dflt (refine len_at (by k_asm) (by k_mem) (by ktr_units) ?_; k_whole); (try simp only [refs_length])) | ((with_reducible show wpAny _ _ (subscriptTail _ _ (Value.ref _) (Value.int _ _)) _ _ _); (with_unfolding_all refine item_litK (News.isList (by k_asm) (by k_mem)) (by first | decide | omega) (by first | decide | omega) (by assumption) ?_ (by with_unfolding_all rfl); k_whole)) | ((with_reducible show TurnEnd _ _ _ _ _ _ _ _ (Flow.ret _) _); dsimp only [TurnEnd]) | walk1  | (dsimp only; walk1) | fail "no step")))
    (rename Fr h₀ _ _ _ => F'); (rename News h₀ _ _ _ => N')
    have e : chk x vs.length ts = true := by
      rw [hc, refs_length, hlen, List.drop_length]; rfl
    rw [e] at post
    exact post _ _ F' N'
end

end
section
theorem put_openu {c0 c1 hsh : Int} {t0 t1 : Tok} {v0 v1 key v : Value} {n : Nat} : (putL (Str.ofString "open_upvals") hsh key v [⟨c0, .str (Str.ofString "stack") t0, v0⟩, ⟨c1, .str (Str.ofString "open_upvals") t1, v1⟩],
    putN (Str.ofString "open_upvals") [⟨c0, .str (Str.ofString "stack") t0, v0⟩, ⟨c1, .str (Str.ofString "open_upvals") t1, v1⟩] n) = ([⟨c0, .str (Str.ofString "stack") t0, v0⟩, ⟨c1, .str (Str.ofString "open_upvals") t1, v⟩], n) := rfl
local macro_rules | `(tactic| walk_at "setAttr ref") => `(tactic| (k_here; (with_reducible show wpAny _ _ (setAttr (Value.ref _) (PySem.Str.ofString "open_upvals") _) _ _ _); k_dflt ((refine' set_dict ?k1 ?k2 (focus ?k3 ?km) ?k4 ?k5 ?k6 ?k7 ?k8 ?k9 ?k10 ?k11 upd_put ?k13 ?_; (case k1 => k_asm); (case k2 => k_asm); (case k3 => k_asm); (case k4 => k_inst); (case km => (repeat (first | assumption | apply List.Mem.tail))); (case k5 => exact rfl); (case k6 => k_is); (case k7 => k_is); (case k8 => k_is); (case k9 => k_is); (case k10 => k_get); (case k11 => exact put_openu); (case k13 => exact Nat.le_of_ble_eq_true rfl); k_whole; intro h' F' N'; (try k_sweep)))))
/-- a row of open variables, and what the check of it tells -/
inductive RowIs (x : Addr) (led : List (Addr × Obj)) (rl : Addr) (b : Bool) : Prop
  | mk (us : List Addr) (ts : List (Value × Int)) (n : Nat) (h1 : (rl, W.listOf (refs us).toArray n) ∈ led) (h2 : us.length = ts.length) (h3 : us.length ≤ 1000)
    (h4 : ∀ (k : Nat) (u : Addr) (th : Value) (ix : Int), us[k]? = some u → ts[k]? = some (th, ix) → ∃ vl, UpAt led u th ix vl) (h5 : ∀ q ∈ ts, q.1 = Value.none ∨ ∃ a da, q.1 = Value.ref a ∧ (a, instObj 100 da) ∈ led) (h6 : chk x 3 ts = b) : RowIs x led rl b
inductive RowOk (x : Addr) (led : List (Addr × Obj)) (v : Value) : Prop
  | mk (rl : Addr) (e : v = .ref rl) (h : RowIs x led rl false) : RowOk x led v
/-- what the loop over the bad rows keeps -/
inductive BadJ (news : List (Addr × Obj)) (x dx sl : Addr) (xs : List Value) (nn : Nat) (vs : List Value) (n : Int) (t : Tok) (m : Str → Option Value) (nx : List (Addr × Obj)) : Prop
  | mk (o : Obj) (ol : Addr) (h1 : GroundDict o sl ol) (h2 : (dx, o) ∈ nx) (h3 : (x, instObj 100 dx) ∈ nx) (h4 : (sl, W.listOf xs.toArray nn) ∈ nx) (h5 : ∀ v ∈ vs, RowOk x nx v) (h6 : ∀ q ∈ news, q ∈ nx)
    (h7 : m (Str.ofString "ground") = some (.ref x)) (h8 : m (Str.ofString "some") = some (.int n t)) : BadJ news x dx sl xs nn vs n t m nx
theorem row1 {x a xa da dy rl : Addr} {ia : Int} {o : Obj} {led : List (Addr × Obj)} {n : Nat} (h : (rl, W.listOf [Value.ref a].toArray n) ∈ led) (h1 : (a, instObj 81 dy) ∈ led) (h2 : (dy, o) ∈ led) (ha : UpDict o (.ref xa) ia .none)
    (hx : (xa, instObj 100 da) ∈ led) (hc : chk x 3 [(.ref xa, ia)] = false) : RowOk x led (.ref rl) := by
  refine ⟨rl, rfl, [a], [(.ref xa, ia)], n, h, rfl, by simp, ?_, ?_, hc⟩
  · intro k u th ix hu ht
    cases k with
    | zero =>
      cases hu; cases ht
      exact ⟨_, dy, o, h1, h2, ha⟩
    | succ k => cases hu
  · intro q hq
    rcases List.mem_cons.mp hq with rfl | hq
    · exact .inr ⟨xa, da, rfl, hx⟩
    · cases hq
theorem row2 {x a b xa da dy dz rl : Addr} {ia ib : Int} {o oz : Obj} {led : List (Addr × Obj)} {n : Nat} (h : (rl, W.listOf [Value.ref a, Value.ref b].toArray n) ∈ led) (h1 : (a, instObj 81 dy) ∈ led) (h2 : (dy, o) ∈ led) (ha : UpDict o (.ref xa) ia .none)
    (h3 : (b, instObj 81 dz) ∈ led) (h4 : (dz, oz) ∈ led) (hb : UpDict oz (.ref xa) ib .none)
    (hx : (xa, instObj 100 da) ∈ led) (hc : chk x 3 [(.ref xa, ia), (.ref xa, ib)] = false) : RowOk x led (.ref rl) := by
  refine ⟨rl, rfl, [a, b], [(.ref xa, ia), (.ref xa, ib)], n, h, rfl, by simp, ?_, ?_, hc⟩
  · intro k u th ix hu ht
    match k with
    | 0 =>
      cases hu; cases ht
      exact ⟨_, dy, o, h1, h2, ha⟩
    | 1 =>
      cases hu; cases ht
      exact ⟨_, dz, oz, h3, h4, hb⟩
    | k + 2 => cases hu
  · intro q hq
    rcases List.mem_cons.mp hq with rfl | hq
    · exact .inr ⟨xa, da, rfl, hx⟩
    · rcases List.mem_cons.mp hq with rfl | hq
      · exact .inr ⟨xa, da, rfl, hx⟩
      · cases hq
set_option maxHeartbeats 2000000 in
theorem bad_facts {news : List (Addr × Obj)} {h₀ h : Heap} {L D la l0 y0 dy0 y1 dy1 l2 y2 dy2 l3 l4 y3 dy3 l5 y4 dy4 y5 dy5 l6 y6 dy6 y7 dy7 D1 olo slo xo dxo l7 ol sl x dx l8 : Addr} {oy0 oy1 oy2 oy3 oy4 oy5 oy6 oy7 ot oo ox a1 a2 a3 a4 a5 : Obj} {c0 c1 c2 c3 c4 c5 c6 : Nat} {p1 p2 p3 : Tok} {f2 f5 : Int}
    (N : News h₀ L h ((D, W.listOf #[Value.ref l6, .ref l5, .ref l4, .ref l2, .ref l0] c0) :: (la, a1) :: (l0, W.listOf #[Value.ref y1, .ref y0] c1) :: (y0, instObj 81 dy0) :: (dy0, oy0) :: (y1, instObj 81 dy1) :: (dy1, oy1) ::
      (l2, W.listOf #[Value.ref y2] c2) :: (y2, instObj 81 dy2) :: (dy2, oy2) :: (l3, a2) :: (l4, W.listOf #[Value.ref y3] c3) :: (y3, instObj 81 dy3) :: (dy3, oy3) :: (l5, W.listOf #[Value.ref y5, .ref y4] c4) :: (y4, instObj 81 dy4) :: (dy4, oy4) :: (y5, instObj 81 dy5) :: (dy5, oy5) ::
      (l6, W.listOf #[Value.ref y7, .ref y6] c5) :: (y6, instObj 81 dy6) :: (dy6, oy6) :: (y7, instObj 81 dy7) :: (dy7, oy7) :: (D1, ot) :: (olo, a3) :: (slo, a4) :: (xo, instObj 100 dxo) :: (dxo, oo) :: (l7, a5) :: (ol, W.listOf #[] 0) :: (sl, W.listOf #[.int 1 p1, .int 2 p2, .int 3 p3] c6) :: (x, instObj 100 dx) :: (dx, ox) :: (l8, W.listOf #[.int 1 p1, .int 2 p2, .int 3 p3] 0) :: news))
    (hf0 : 0 ≤ f2) (_hf1 : f2 < 2) (hf2 : 0 ≤ f5) (g1 : GroundDict ox sl ol) (u7 : UpDict oy7 (.ref x) 0 .none) (u6 : UpDict oy6 (.ref x) (1 + f2) .none) (u5 : UpDict oy5 (.ref x) 2 .none) (u4 : UpDict oy4 (.ref x) 2 .none) (u3 : UpDict oy3 (.ref xo) 1 .none)
    (u2 : UpDict oy2 (.ref x) (3 + f5) .none) (u1 : UpDict oy1 (.ref x) 2 .none) (u0 : UpDict oy0 (.ref x) (0 - 1) .none) 
    (hfr : ∀ q ∈ (l7, a5) :: (ol, W.listOf #[] 0) :: (sl, W.listOf #[.int 1 p1, .int 2 p2, .int 3 p3] c6) :: (x, instObj 100 dx) :: (dx, ox) :: (l8, W.listOf #[.int 1 p1, .int 2 p2, .int 3 p3] 0) :: news, q.1 < dxo) (hfx : ∀ q ∈ (l8, W.listOf #[.int 1 p1, .int 2 p2, .int 3 p3] 0) :: news, q.1 < dx) (hlo : dxo < xo) :
    ∀ {G : Prop}, (∀ led vs dx' ox' sl' ol' xs, vs = [Value.ref l6, .ref l5, .ref l4, .ref l2, .ref l0] → xs = [Value.int 1 p1, .int 2 p2, .int 3 p3] → News h₀ L h led → (D, W.listOf vs.toArray c0) ∈ led → (x, instObj 100 dx') ∈ led → (dx', ox') ∈ led →
      (sl', W.listOf xs.toArray c6) ∈ led → GroundDict ox' sl' ol' → (∀ q ∈ news, q ∈ led) → (∀ q ∈ news, q.1 < dx') → (∀ v ∈ vs, RowOk x led v) → G) → G := by
  intro G kG
  have hlt : x < xo := Nat.lt_trans (hfr (x, instObj 100 dx) (.tail _ (.tail _ (.tail _ (.head _))))) hlo
  refine kG _ _ dx ox sl ol _ rfl rfl N (.head _) ?_ ?_ ?_ g1 (fun q hq => ?_) (fun q hq => hfx q (.tail _ hq)) ?_
  · repeat (first | exact List.Mem.head _ | apply List.Mem.tail)
  · repeat (first | exact List.Mem.head _ | apply List.Mem.tail)
  · repeat (first | exact List.Mem.head _ | apply List.Mem.tail)
  · repeat (first | exact hq | apply List.Mem.tail)
  · intro v hv
    rcases List.mem_cons.mp hv with rfl | hv
    · refine row2 (da := dx) (n := c5) ?_ (a := y7) (b := y6) (dy := dy7) (dz := dy6) ?_ ?_ u7 ?_ ?_ u6 ?_ ?_
      · repeat (first | exact List.Mem.head _ | apply List.Mem.tail)
      · repeat (first | exact List.Mem.head _ | apply List.Mem.tail)
      · repeat (first | exact List.Mem.head _ | apply List.Mem.tail)
      · repeat (first | exact List.Mem.head _ | apply List.Mem.tail)
      · repeat (first | exact List.Mem.head _ | apply List.Mem.tail)
      · repeat (first | exact List.Mem.head _ | apply List.Mem.tail)
      · simp [chk] <;> omega
    rcases List.mem_cons.mp hv with rfl | hv
    · refine row2 (da := dx) (n := c4) ?_ (a := y5) (b := y4) (dy := dy5) (dz := dy4) ?_ ?_ u5 ?_ ?_ u4 ?_ ?_
      · repeat (first | exact List.Mem.head _ | apply List.Mem.tail)
      · repeat (first | exact List.Mem.head _ | apply List.Mem.tail)
      · repeat (first | exact List.Mem.head _ | apply List.Mem.tail)
      · repeat (first | exact List.Mem.head _ | apply List.Mem.tail)
      · repeat (first | exact List.Mem.head _ | apply List.Mem.tail)
      · repeat (first | exact List.Mem.head _ | apply List.Mem.tail)
      · simp [chk]
    rcases List.mem_cons.mp hv with rfl | hv
    · refine row1 (da := dxo) (n := c3) ?_ (a := y3) (dy := dy3) ?_ ?_ u3 ?_ ?_
      · repeat (first | exact List.Mem.head _ | apply List.Mem.tail)
      · repeat (first | exact List.Mem.head _ | apply List.Mem.tail)
      · repeat (first | exact List.Mem.head _ | apply List.Mem.tail)
      · repeat (first | exact List.Mem.head _ | apply List.Mem.tail)
      · have : (Value.ref xo == Value.ref x) = false := beq_false_of_ne fun e => by cases e; exact Nat.lt_irrefl _ hlt
        simp only [chk, this, Bool.false_and]
    rcases List.mem_cons.mp hv with rfl | hv
    · refine row1 (da := dx) (n := c2) ?_ (a := y2) (dy := dy2) ?_ ?_ u2 ?_ ?_
      · repeat (first | exact List.Mem.head _ | apply List.Mem.tail)
      · repeat (first | exact List.Mem.head _ | apply List.Mem.tail)
      · repeat (first | exact List.Mem.head _ | apply List.Mem.tail)
      · repeat (first | exact List.Mem.head _ | apply List.Mem.tail)
      · simp [chk] <;> omega
    rcases List.mem_cons.mp hv with rfl | hv
    · refine row2 (da := dx) (n := c1) ?_ (a := y1) (b := y0) (dy := dy1) (dz := dy0) ?_ ?_ u1 ?_ ?_ u0 ?_ ?_
      · repeat (first | exact List.Mem.head _ | apply List.Mem.tail)
      · repeat (first | exact List.Mem.head _ | apply List.Mem.tail)
      · repeat (first | exact List.Mem.head _ | apply List.Mem.tail)
      · repeat (first | exact List.Mem.head _ | apply List.Mem.tail)
      · repeat (first | exact List.Mem.head _ | apply List.Mem.tail)
      · repeat (first | exact List.Mem.head _ | apply List.Mem.tail)
      · simp [chk]
    · cases hv
theorem ground_ne_inst {o : Obj} {sl ol C d : Addr} (hg : GroundDict o sl ol) : o ≠ instObj C d := by
  obtain ⟨n', d0, d1, s0, s1, rfl⟩ := hg
  intro e
  have e1 : Data.dict _ _ = Data.plain := congrArg Obj.data e
  cases e1
theorem RowOk.ex {x rl : Addr} {led : List (Addr × Obj)} (h : RowOk x led (.ref rl)) : RowIs x led rl false := by
  obtain ⟨rl', e, r⟩ := h
  cases e
  exact r
theorem RowOk.mono {x : Addr} {a b : List (Addr × Obj)} {v : Value} (h : RowOk x a v) (k : ∀ p ∈ a, p ∈ b) : RowOk x b v := by
  obtain ⟨rl, e, us, ts, n, h1, h2, h3, h4, h5, h6⟩ := h
  refine ⟨rl, e, us, ts, n, k _ h1, h2, h3, fun k' u th ix hu ht => ?_, fun q hq => ?_, h6⟩
  · obtain ⟨vl, a⟩ := h4 k' u th ix hu ht; exact ⟨vl, a.mono k⟩
  · rcases h5 q hq with h | ⟨a, da, e, h⟩
    · exact .inl h
    · exact .inr ⟨a, da, e, k _ h⟩
theorem RowOk.put {h₀ h : Heap} {L x dx sl ol : Addr} {o o' : Obj} {led : List (Addr × Obj)} {v : Value} (N : News h₀ L h led) (hd : (dx, o) ∈ led) (hg : GroundDict o sl ol) (h : RowOk x led v) : RowOk x (Mine.put dx o' led) v := by
  obtain ⟨rl, e, us, ts, n, h1, h2, h3, h4, h5, h6⟩ := h
  have gi : ∀ C d, o ≠ instObj C d := fun C d => by
    obtain ⟨n', d0, d1, s0, s1, rfl⟩ := hg
    intro e
    have e1 : Data.dict _ _ = Data.plain := congrArg Obj.data e
    cases e1
  refine ⟨rl, e, us, ts, n, mem_put h1 (ne_of_obj N h1 hd (list_ne_ground hg)), h2, h3, fun k' u th ix hu ht => ?_, fun q hq => ?_, h6⟩
  · obtain ⟨vl, dy, oy, a1, a2, a3⟩ := h4 k' u th ix hu ht
    exact ⟨vl, dy, oy, mem_put a1 (ne_of_obj N hd a1 (gi _ _)).symm, mem_put a2 (ne_of_obj N a2 hd (up_ne_ground a3 hg)), a3⟩
  · rcases h5 q hq with h | ⟨a, da, e, h⟩
    · exact .inl h
    · exact .inr ⟨a, da, e, mem_put h (ne_of_obj N hd h (gi _ _)).symm⟩
section
variable {w : World} {base h₀ : Heap} {outer : List Env} {A₀ : Around} {dp u : Nat} {env : Env} {L : Addr} {m mg mb : Str → Option Value}
    {loose : List Str} {mean : ExcName → Option Value} {p : Program} {s : Shared} {R : Result → Shared → Prop}
theorem bad_end {h₀ h : Heap} {L l ya dya yb dyb dx x : Addr} {oya oyb o o0 : Obj} {ia ib : Int} {nx : List (Addr × Obj)} {n : Nat}
    (_N : News h₀ L h (Mine.put dx o ((l, W.listOf #[Value.ref ya, .ref yb] n) :: (yb, instObj 81 dyb) :: (dyb, oyb) :: (ya, instObj 81 dya) :: (dya, oya) :: nx)))
    (a1 : ∀ q ∈ nx, q.1 < dya) (b1 : dya < ya) (ua : UpDict oya (.ref x) ia .none) (a2 : ∀ q ∈ (ya, instObj 81 dya) :: (dya, oya) :: nx, q.1 < dyb) (b2 : dyb < yb) (ub : UpDict oyb (.ref x) ib .none)
    (hl : yb < l ∧ dyb < l ∧ ya < l ∧ dya < l ∧ AllLt l nx) (hdx : (dx, o0) ∈ nx) (hx : (x, instObj 100 dx) ∈ nx) (hne : x ≠ dx) (h0 : 0 ≤ ia) (h3 : ia < 3) (h1 : 0 ≤ ib) (h2 : ib < ia) :
    RowIs x (Mine.put dx o ((l, W.listOf #[Value.ref ya, .ref yb] n) :: (yb, instObj 81 dyb) :: (dyb, oyb) :: (ya, instObj 81 dya) :: (dya, oya) :: nx)) l true := by
  have d1 : dx < dya := a1 _ hdx
  have d2 : dx < dyb := a2 _ (.tail _ (.tail _ hdx))
  have e1 : dya ≠ dx := Nat.ne_of_gt d1
  have e2 : dyb ≠ dx := Nat.ne_of_gt d2
  have e3 : ya ≠ dx := Nat.ne_of_gt (Nat.lt_trans d1 b1)
  have e4 : yb ≠ dx := Nat.ne_of_gt (Nat.lt_trans d2 b2)
  have e5 : l ≠ dx := Nat.ne_of_gt (Nat.lt_trans d1 hl.2.2.2.1)
  refine ⟨[ya, yb], [(.ref x, ia), (.ref x, ib)], n, mem_put (.head _) e5, rfl, by simp, ?_, ?_, ?_⟩
  · intro k u th ix hu ht
    match k with
    | 0 =>
      cases hu; cases ht
      exact ⟨_, dya, oya, mem_put (.tail _ (.tail _ (.tail _ (.head _)))) e3, mem_put (.tail _ (.tail _ (.tail _ (.tail _ (.head _))))) e1, ua⟩
    | 1 =>
      cases hu; cases ht
      exact ⟨_, dyb, oyb, mem_put (.tail _ (.head _)) e4, mem_put (.tail _ (.tail _ (.head _))) e2, ub⟩
    | k + 2 => cases hu
  · intro q hq
    have hm := mem_put (o := o) (.tail (l, W.listOf #[Value.ref ya, .ref yb] n) (.tail (yb, instObj 81 dyb) (.tail (dyb, oyb) (.tail (ya, instObj 81 dya) (.tail (dya, oya) hx))))) hne
    rcases List.mem_cons.mp hq with rfl | hq
    · exact .inr ⟨x, dx, rfl, hm⟩
    · rcases List.mem_cons.mp hq with rfl | hq
      · exact .inr ⟨x, dx, rfl, hm⟩
      · cases hq
  · simp [chk]; omega
theorem bad_check {news : List (Addr × Obj)} (C : Cx w A₀ base h₀ outer L s m mg mb loose mean p news env) (hd : dp ≤ 480) (hu : u ≤ 4800) {x dx sl rl : Addr} {o : Obj} {xs : List Value} {ns : Nat}
    (hx : (x, instObj 100 dx) ∈ news) (ho : (dx, o) ∈ news) (hg : GroundDict o sl rl) (hsl : (sl, W.listOf xs.toArray ns) ∈ news) (hxl : xs.length = 3) {b : Bool}
    (hr : RowIs x news rl b)
    (post : ∀ h' tk, Fr h₀ L h' m → News h₀ L h' news → R (.ok (.ret (.bool b))) { s with heap := h', toks := tk }) :
    codeAny (model Challenge.rw_nt0630_01.row.prog w) ⟨none, dp, some (env :: outer), some [], u⟩ (.call (.ref 153) ⟨[.ref x], []⟩) R s := by
  obtain ⟨us, ts, n, r1, r2, r3, r4, r5, r6⟩ := hr
  refine check_ctr C (by omega) (by omega) ⟨dx, o, hx, ho, hg⟩ ⟨ns, hsl⟩ (by omega) ⟨n, r1⟩ r2 r4 r5 ?_
  rw [hxl]
  have : chk x ((3 : Nat) : Int) ts = b := r6
  rw [this]; exact post
set_option maxHeartbeats 4000000 in
theorem bad_ctr {news : List (Addr × Obj)} (C : Cx w A₀ base h₀ outer L s m mg mb loose mean p news env) (hd : dp ≤ 350) (hu : u ≤ 3000) {n : Int} {t : Tok}
    (post : ∀ h' tk, Fr h₀ L h' m → News h₀ L h' news → R (.ok (.ret (.bool true))) { s with heap := h', toks := tk }) :
    codeAny (model Challenge.rw_nt0630_01.row.prog w) ⟨none, dp, some (env :: outer), some [], u⟩ (.call (.ref 194) ⟨[.int n t], []⟩) R s := by
  obtain ⟨B, F, X, T, N, hf, hke⟩ := C
  have a1 : 0 ≤ n.fmod 2 := Int.fmod_nonneg_of_pos _ (by omega)
  have a2 : n.fmod 2 < 2 := Int.fmod_lt_of_pos _ (by omega)
  have a3 : 0 ≤ n.fmod 5 := Int.fmod_nonneg_of_pos _ (by omega)
  have a4 : n.fmod 5 < 5 := Int.fmod_lt_of_pos _ (by omega)
  tb_start
  rename_i g L1 h1 FG F1 N1 B1 X1 T1 Q0 hQ0
  (repeat' (first | (k_unfold; (try dsimp only)) | (refine unhide (by assumption) ?_; (try dsimp only)) | ((fail_if_success (with_reducible first | show wpAny _ _ (exec (Stmt.While _ _ _ _) _) _ _ _ | show wpAny _ _ (exec (Stmt.For _ _ _ _ _) _) _ _ _ | show wpAny _ _ (exec (Stmt.Assign _ (Expr.ListComp _ _ _ _) _) _) _ _ _ | show wpAny _ _ (eval (Expr.ListComp _ _ _ _) _) _ _ _ | show wpAny _ _ (call (Value.type "enumerate") _) _ _ _ | show wpAny _ _ (call (Value.type "zip") _) _ _ _ | refine stand_ref (by decide) ?_)); first | ((with_reducible first | (refine execs_one (by assumption) fun _ => ?_) | (refine execs_hid fun _ _ _ => ?_))) | ((with_reducible show wpAny _ _ (call (Value.ref 81) [Value.ref _, Value.int _ _]) _ _ _); k_dflt (refine up_ctr ⟨by k_asm, by k_asm, by k_asm, by k_asm, by k_asm, rfl, rfl⟩ (by ktr_room) (by ktr_room) ?_); intro _ _ _ _ _ _ _ _ _ _) | ((with_reducible show wpAny _ _ (call (Value.ref 100) [Value.ref _]) _ _ _); k_dflt (refine ground_ctr ⟨by k_asm, by k_asm, by k_asm, by k_asm, by k_asm, rfl, rfl⟩ (by ktr_room) (by ktr_room) (.head _) (by first | exact Nat.le_of_ble_eq_true rfl | simp) ?_); intro _ _ _ _ _ _ _ _ _ _ _ _ _ _ _) | ((with_reducible show TurnEnd _ _ _ _ _ _ _ _ (Flow.ret _) _); dsimp only [TurnEnd]) | walk1  | (dsimp only; walk1) | fail "no step")))
  (rename Fr g L1 _ _ => F2)
  (with_unfolding_all refine' For_invVF F2 ?k1 ?k2 ?_; (case k1 => exact rfl); (case k2 => exact rfl))
  repeat' (first | (k_unfold; (try dsimp only)) | (refine unhide (by assumption) ?_; (try dsimp only)) | ((fail_if_success (with_reducible show wpAny _ _ (pyIter _) _ _ _)); first | ((with_reducible first | (refine execs_one (by assumption) fun _ => ?_) | (refine execs_hid fun _ _ _ => ?_))) | ((with_reducible show wpAny _ _ (call (Value.ref 81) [Value.ref _, Value.int _ _]) _ _ _); k_dflt (refine up_ctr ⟨by k_asm, by k_asm, by k_asm, by k_asm, by k_asm, rfl, rfl⟩ (by ktr_room) (by ktr_room) ?_); intro _ _ _ _ _ _ _ _ _ _) | ((with_reducible show wpAny _ _ (call (Value.ref 100) [Value.ref _]) _ _ _); k_dflt (refine ground_ctr ⟨by k_asm, by k_asm, by k_asm, by k_asm, by k_asm, rfl, rfl⟩ (by ktr_room) (by ktr_room) (.head _) (by first | exact Nat.le_of_ble_eq_true rfl | simp) ?_); intro _ _ _ _ _ _ _ _ _ _ _ _ _ _ _) | ((with_reducible show TurnEnd _ _ _ _ _ _ _ _ (Flow.ret _) _); dsimp only [TurnEnd]) | walk1  | (dsimp only; walk1) | fail "no step"))
  (rename Fr g L1 _ _ => F3); (rename News g L1 _ _ => N3)
  refine bad_facts N3 a1 a2 a3 (by assumption) (by assumption) (by assumption) (by assumption) (by assumption) (by assumption) (by assumption) (by assumption) (by assumption) (by assumption) (by assumption) (by assumption) fun led vs dx ox sl ol xs evs exs N4 hD hx1 hx2 hsl hgd hnn hnf hrows => ?_
  have hvl : vs.length = 5 := by rw [evs]; rfl
  have hxl : xs.length = 3 := by rw [exs]; rfl
  clear evs exs N3
  have hDdx : _ ≠ dx := ne_of_obj N4 hD hx2 (list_ne_ground hgd)
  dsimp only
  refine iter_at (fun i m nx => BadJ news _ dx sl xs _ vs n t m nx) rfl N4 hD F3 ⟨ox, ol, hgd, hx2, hx1, hsl, hrows, hnn, rfl, rfl⟩ ?_ ?_
  · rintro I j v m₁ nx h18 tk18 own hv hIn hown hnx hR1 F18 N18
    obtain ⟨o, ol2, hJ1, hJ2, hJ3, hJ4, hJ5, hJ8, hJ6, hJ7⟩ := hR1
    replace F18 := fr_at (x := Str.ofString "ground") (fr_at (x := Str.ofString "some") F18 (by with_unfolding_all exact hJ7)) (by with_unfolding_all exact hJ6)
    have hvm := List.mem_of_getElem? hv
    have hnm : ∀ q ∈ own, q.1 ≠ dx := fun q hq e => by
      rcases hown q hq with h | h
      · exact hnx _ hJ2 (by rw [← h, ← e])
      · exact hDdx (by rw [← h, ← e])
    have hvr : ∃ rl, v = .ref rl := by obtain ⟨rl, e, _⟩ := hJ5 v hvm; exact ⟨rl, e⟩
    obtain ⟨rl, rfl⟩ := hvr
    have hg9 := hJ1
    have up4 : ∀ q ∈ nx, q ∈ nx ++ own := fun q hq => List.mem_append_left _ hq
    have up5 : ∀ q ∈ own, q ∈ nx ++ own := fun q hq => List.mem_append_right _ hq
    have q1 := up4 _ hJ2
    have q2 := up4 _ hJ3
    have q3 := up4 _ hJ4
    have hrp : ∀ o', ∀ v ∈ vs, RowOk _ (Mine.put dx o' (nx ++ own)) v := fun o' v hv => ((hJ5 v hv).mono up4).put N18 q1 hg9
    have hrq : ∀ o', ∀ v ∈ vs, RowOk _ (Mine.put dx o' nx) v := fun o' v hv => (hJ5 v hv).put (fun q hq => N18 q (up4 q hq)) hJ2 hg9
    have x1 : _ ≠ dx := ne_of_obj N18 q2 q1 (fun e => ground_ne_inst hg9 e.symm)
    have x2 : sl ≠ dx := ne_of_obj N18 q3 q1 (list_ne_ground hg9)
    have x3 : dx ≠ I := fun e => hnx _ hJ2 e
    obtain ⟨ng, gc0, gc1, gt0, gt1, rfl⟩ := hJ1
    generalize hbig : nx ++ own = big at N18 up4 up5 q1 q2 q3 hrp
    (repeat' (first | (k_unfold; (try dsimp only)) | (refine unhide (by assumption) ?_; (try dsimp only)) | ((fail_if_success (with_reducible first | show wpAny _ _ (exec (Stmt.While _ _ _ _) _) _ _ _ | show wpAny _ _ (exec (Stmt.For _ _ _ _ _) _) _ _ _ | show wpAny _ _ (exec (Stmt.Assign _ (Expr.ListComp _ _ _ _) _) _) _ _ _ | show wpAny _ _ (eval (Expr.ListComp _ _ _ _) _) _ _ _ | show wpAny _ _ (call (Value.type "enumerate") _) _ _ _ | show wpAny _ _ (call (Value.type "zip") _) _ _ _ | refine stand_ref (by decide) ?_)); first | ((with_reducible first | (refine execs_one (by assumption) fun _ => ?_) | (refine execs_hid fun _ _ _ => ?_))) | ((with_reducible show wpAny _ _ (call (Value.ref 81) [Value.ref _, Value.int _ _]) _ _ _); k_dflt (refine up_ctr ⟨by k_asm, by k_asm, by k_asm, by k_asm, by k_asm, rfl, rfl⟩ (by ktr_room) (by ktr_room) ?_); intro _ _ _ _ _ _ _ _ _ _) | ((with_reducible show wpAny _ _ (call (Value.ref 100) [Value.ref _]) _ _ _); k_dflt (refine ground_ctr ⟨by k_asm, by k_asm, by k_asm, by k_asm, by k_asm, rfl, rfl⟩ (by ktr_room) (by ktr_room) (.head _) (by first | exact Nat.le_of_ble_eq_true rfl | simp) ?_); intro _ _ _ _ _ _ _ _ _ _ _ _ _ _ _) | ((with_reducible show TurnEnd _ _ _ _ _ _ _ _ (Flow.ret _) _); dsimp only [TurnEnd]) | walk1  | (dsimp only; walk1) | fail "no step")))
    (rename Fr g L1 _ _ => F19); (rename News g L1 _ _ => N19)
    refine wpAny_call (bad_check ⟨B1, F19, X1, T1, N19, rfl, rfl⟩ (by ktr_room) (by ktr_room) (mem_put q2 x1) mem_put_self ⟨_, _, _, _, _, rfl⟩ (mem_put q3 x2) hxl (b := false) (hrp _ _ hvm).ex ?_)
    · intro h20 tk20 F20 N20
      dsimp only
      (repeat' (first | (k_unfold; (try dsimp only)) | (refine unhide (by assumption) ?_; (try dsimp only)) | ((fail_if_success (with_reducible first | show wpAny _ _ (exec (Stmt.While _ _ _ _) _) _ _ _ | show wpAny _ _ (exec (Stmt.For _ _ _ _ _) _) _ _ _ | show wpAny _ _ (exec (Stmt.Assign _ (Expr.ListComp _ _ _ _) _) _) _ _ _ | show wpAny _ _ (eval (Expr.ListComp _ _ _ _) _) _ _ _ | show wpAny _ _ (call (Value.type "enumerate") _) _ _ _ | show wpAny _ _ (call (Value.type "zip") _) _ _ _ | refine stand_ref (by decide) ?_)); first | ((with_reducible first | (refine execs_one (by assumption) fun _ => ?_) | (refine execs_hid fun _ _ _ => ?_))) | ((with_reducible show wpAny _ _ (call (Value.ref 81) [Value.ref _, Value.int _ _]) _ _ _); k_dflt (refine up_ctr ⟨by k_asm, by k_asm, by k_asm, by k_asm, by k_asm, rfl, rfl⟩ (by ktr_room) (by ktr_room) ?_); intro _ _ _ _ _ _ _ _ _ _) | ((with_reducible show wpAny _ _ (call (Value.ref 100) [Value.ref _]) _ _ _); k_dflt (refine ground_ctr ⟨by k_asm, by k_asm, by k_asm, by k_asm, by k_asm, rfl, rfl⟩ (by ktr_room) (by ktr_room) (.head _) (by first | exact Nat.le_of_ble_eq_true rfl | simp) ?_); intro _ _ _ _ _ _ _ _ _ _ _ _ _ _ _) | ((with_reducible show TurnEnd _ _ _ _ _ _ _ _ (Flow.ret _) _); dsimp only [TurnEnd]) | walk1  | (dsimp only; walk1) | fail "no step")))
      (rename Fr g L1 _ _ => F21); (rename News g L1 _ _ => N21)
      refine ⟨_, _, _, _, Mine.put dx _ nx, rfl, F21, N21, put_mono up4, (fun q hq => mem_put (up5 q hq) (hnm q hq)), (fun q hq => ?_), _, rl, ⟨_, _, _, _, _, rfl⟩, mem_put_self, mem_put hJ3 x1, mem_put hJ4 x2, hrq _, fun q hq => mem_put (hJ8 q hq) (Nat.ne_of_lt (hnf q hq)), rfl, rfl⟩
      rcases of_put hq with rfl | ⟨hq, _⟩
      · exact x3
      · exact hnx q hq
  · rintro m₁ nx h18 tk18 hR1 F18 N18
    obtain ⟨o, ol2, hJ1, hJ2, hJ3, hJ4, hJ5, hJ8, hJ6, hJ7⟩ := hR1
    replace F18 := fr_at (x := Str.ofString "ground") (fr_at (x := Str.ofString "some") F18 (by with_unfolding_all exact hJ7)) (by with_unfolding_all exact hJ6)
    have hg9 := hJ1
    have x1 : _ ≠ dx := ne_of_obj N18 hJ3 hJ2 (fun e => ground_ne_inst hg9 e.symm)
    have x2 : sl ≠ dx := ne_of_obj N18 hJ4 hJ2 (list_ne_ground hg9)
    obtain ⟨ng, gc0, gc1, gt0, gt1, rfl⟩ := hJ1
    dsimp only
    (repeat' (first | (k_unfold; (try dsimp only)) | (refine unhide (by assumption) ?_; (try dsimp only)) | ((fail_if_success (with_reducible first | show wpAny _ _ (exec (Stmt.While _ _ _ _) _) _ _ _ | show wpAny _ _ (exec (Stmt.For _ _ _ _ _) _) _ _ _ | show wpAny _ _ (exec (Stmt.Assign _ (Expr.ListComp _ _ _ _) _) _) _ _ _ | show wpAny _ _ (eval (Expr.ListComp _ _ _ _) _) _ _ _ | show wpAny _ _ (call (Value.type "enumerate") _) _ _ _ | show wpAny _ _ (call (Value.type "zip") _) _ _ _ | refine stand_ref (by decide) ?_)); first | ((with_reducible first | (refine execs_one (by assumption) fun _ => ?_) | (refine execs_hid fun _ _ _ => ?_))) | ((with_reducible show wpAny _ _ (call (Value.ref 81) [Value.ref _, Value.int _ _]) _ _ _); k_dflt (refine up_ctr ⟨by k_asm, by k_asm, by k_asm, by k_asm, by k_asm, rfl, rfl⟩ (by ktr_room) (by ktr_room) ?_); intro _ _ _ _ _ _ _ _ _ _) | ((with_reducible show wpAny _ _ (call (Value.ref 100) [Value.ref _]) _ _ _); k_dflt (refine ground_ctr ⟨by k_asm, by k_asm, by k_asm, by k_asm, by k_asm, rfl, rfl⟩ (by ktr_room) (by ktr_room) (.head _) (by first | exact Nat.le_of_ble_eq_true rfl | simp) ?_); intro _ _ _ _ _ _ _ _ _ _ _ _ _ _ _) | ((with_reducible show TurnEnd _ _ _ _ _ _ _ _ (Flow.ret _) _); dsimp only [TurnEnd]) | walk1  | (dsimp only; walk1) | fail "no step")))
    (rename Fr g L1 _ _ => F19); (rename News g L1 _ _ => N19)
    have hend := bad_end N19 (by assumption) (by assumption) (by assumption) (by assumption) (by assumption) (by assumption) (by assumption) hJ2 hJ3 x1 (by omega) (by omega) (by omega) (by omega)
    refine wpAny_call (bad_check ⟨B1, F19, X1, T1, N19, rfl, rfl⟩ (by ktr_room) (by ktr_room) (mem_put (.tail _ (.tail _ (.tail _ (.tail _ (.tail _ hJ3))))) x1) mem_put_self ⟨_, _, _, _, _, rfl⟩ (mem_put (.tail _ (.tail _ (.tail _ (.tail _ (.tail _ hJ4))))) x2) hxl (b := true) hend ?_)
    intro h20 tk20 F20 N20
    dsimp only
    (repeat' (first | (k_unfold; (try dsimp only)) | (refine unhide (by assumption) ?_; (try dsimp only)) | ((fail_if_success (with_reducible first | show wpAny _ _ (exec (Stmt.While _ _ _ _) _) _ _ _ | show wpAny _ _ (exec (Stmt.For _ _ _ _ _) _) _ _ _ | show wpAny _ _ (exec (Stmt.Assign _ (Expr.ListComp _ _ _ _) _) _) _ _ _ | show wpAny _ _ (eval (Expr.ListComp _ _ _ _) _) _ _ _ | show wpAny _ _ (call (Value.type "enumerate") _) _ _ _ | show wpAny _ _ (call (Value.type "zip") _) _ _ _ | refine stand_ref (by decide) ?_)); first | ((with_reducible first | (refine execs_one (by assumption) fun _ => ?_) | (refine execs_hid fun _ _ _ => ?_))) | ((with_reducible show wpAny _ _ (call (Value.ref 81) [Value.ref _, Value.int _ _]) _ _ _); k_dflt (refine up_ctr ⟨by k_asm, by k_asm, by k_asm, by k_asm, by k_asm, rfl, rfl⟩ (by ktr_room) (by ktr_room) ?_); intro _ _ _ _ _ _ _ _ _ _) | ((with_reducible show wpAny _ _ (call (Value.ref 100) [Value.ref _]) _ _ _); k_dflt (refine ground_ctr ⟨by k_asm, by k_asm, by k_asm, by k_asm, by k_asm, rfl, rfl⟩ (by ktr_room) (by ktr_room) (.head _) (by first | exact Nat.le_of_ble_eq_true rfl | simp) ?_); intro _ _ _ _ _ _ _ _ _ _ _ _ _ _ _) | ((with_reducible show TurnEnd _ _ _ _ _ _ _ _ (Flow.ret _) _); dsimp only [TurnEnd]) | walk1  | (dsimp only; walk1) | fail "no step")))
    (rename Fr h₀ L _ _ => kF); (rename News h₀ L _ _ => kN)
    exact post _ _ kF fun q hq => kN q (mem_put (.tail _ (.tail _ (.tail _ (.tail _ (.tail _ (hJ8 q hq)))))) (Nat.ne_of_lt (hnf q hq)))
end

end
section
section
variable {w : World} {base h₀ : Heap} {outer : List Env} {A₀ : Around} {d u : Nat} {env : Env} {L : Addr} {m mg mb : Str → Option Value}
    {loose : List Str} {mean : ExcName → Option Value} {p : Program} {s : Shared} {news : List (Addr × Obj)} {R : Result → Shared → Prop}

set_option maxHeartbeats 4000000 in
theorem put_open_ctr (C : Cx w A₀ base h₀ outer L s m mg mb loose mean p news env) (hd : d ≤ 490) (hu : u ≤ 4900)
    {x sl ol y : Addr} {us : List Addr} {ixs : List Int} {i : Int} {nl : Nat} {th vl : Value}
    (hx : GroundAt news x sl ol) (hol : (ol, W.listOf (refs us).toArray nl) ∈ news) (hlen : us.length = ixs.length) (hfit : us.length ≤ 1000)
    (hU : ∀ k u, us[k]? = some u → ∃ th vl, UpAt news u th (ixs.getD k 0) vl) (hy : UpAt news y th i vl)
    (post : ∀ h' tk, Fr h₀ L h' m → News h₀ L h' (put ol (W.listOf (refs (us.take (lead i ixs) ++ y :: us.drop (lead i ixs))).toArray (nl + 1)) news) → R (.ok (.ret .none)) { s with heap := h', toks := tk }) :
    codeAny (model Challenge.rw_nt0630_01.row.prog w) ⟨none, d, some (env :: outer), some [], u⟩ (.call (.ref 125) ⟨[.ref x, .ref y], []⟩) R s := by
  obtain ⟨B, F, X, T, N, hf, hke⟩ := C
  have hx' := hx
  have hol' : ListAt news ol (refs us) := ⟨nl, hol⟩
  obtain ⟨dx, o, hx1, hx2, n, c0, c1, t0, t1, rfl⟩ := hx
  obtain ⟨dxa, oa, ha1, ha2, na, e0, e1, e2, e3, e4, e5, s0, s1, s2, s3, s4, s5, v0, v1, v2, ti, rfl⟩ := hy
  have hle := lead_le i ixs
  tb_start
  (repeat' (first | (k_unfold; (try dsimp only)) | (refine unhide (by assumption) ?_; (try dsimp only)) | ((fail_if_success (with_reducible first | show wpAny _ _ (exec (Stmt.While _ _ _ _) _) _ _ _ | show wpAny _ _ (exec (Stmt.For _ _ _ _ _) _) _ _ _ | show wpAny _ _ (exec (Stmt.Assign _ (Expr.ListComp _ _ _ _) _) _) _ _ _ | show wpAny _ _ (eval (Expr.ListComp _ _ _ _) _) _ _ _ | show wpAny _ _ (call (Value.type "enumerate") _) _ _ _ | show wpAny _ _ (call (Value.type "zip") _) _ _ _ | refine stand_ref (by decide) ?_)); first | ((with_reducible first | (refine execs_one (by assumption) fun _ => ?_) | (refine execs_hid fun _ _ _ => ?_))) | ((with_reducible show wpAny _ _ (call (Value.ref 118) [Value.ref _, Value.int _ _]) _ _ _); k_dflt (refine wpAny_call (open_at_ctr ⟨by k_asm, by k_asm, by k_asm, by k_asm, by k_asm, rfl, rfl⟩ (by ktr_room) (by ktr_room) (by assumption) (by assumption) (by assumption) (by assumption) (by assumption) ?_)); intro _ _ _ _) | ((with_reducible show wpAny _ _ (call (Value.ref 111) [Value.ref _, Value.int _ _]) _ _ _); k_dflt (refine wpAny_call (spot_of_ctr ⟨by k_asm, by k_asm, by k_asm, by k_asm, by k_asm, rfl, rfl⟩ (by ktr_room) (by ktr_room) (by assumption) (by assumption) (by assumption) (by assumption) (by assumption) ?_)); intro _ _ _ _ _) | ((with_reducible show wpAny _ _ (call (Value.builtin "len") [Value.ref _]) _ _ _); k_dflt (refine len_at (by k_asm) (by k_mem) (by ktr_units) ?_; k_whole); (try simp only [refs_length])) | ((with_reducible show wpAny _ _ (subscriptTail _ _ (Value.ref _) (Value.int _ _)) _ _ _); (with_unfolding_all refine item_litK (News.isList (by k_asm) (by k_mem)) (by first | decide | omega) (by first | decide | omega) (by assumption) ?_ (by with_unfolding_all rfl); k_whole)) | ((with_reducible show wpAny _ _ (call (Value.builtin "list.insert") [Value.ref _, Value.int _ _, _]) _ _ _); k_dflt (refine ins_at (by k_asm) (by k_asm) (by first | assumption | exact mem_put_self | exact mem_put (by first | assumption | exact mem_put_self | exact mem_put (by first | assumption | exact mem_put_self | exact mem_put (by assumption) (by ktr_unf)) (by ktr_unf)) (by ktr_unf)) (by ktr_units) (by ktr_units) ?_; k_whole); intro _ _ _; (try k_sweep)) | walk1  | (dsimp only; walk1) | fail "no step")))
  (rename Fr h₀ _ _ _ => F'); (rename News h₀ _ _ _ => N')
  refine post _ _ F' ?_
  have e : refs (us.take (lead i ixs) ++ y :: us.drop (lead i ixs)) = (refs us).take (lead i ixs) ++ Value.ref y :: (refs us).drop (lead i ixs) := by
    simp [refs, List.map_take, List.map_drop]
  rw [e]
  exact N'


local macro_rules | `(tactic| walk_at "call ref") => `(tactic| (k_here; (with_reducible show wpAny _ _ (call (Value.ref 125) [Value.ref _, Value.ref _]) _ _ _); k_dflt ((refine wpAny_call ?_); (refine' put_open_ctr ⟨?B, ?F, ?X, ?T, ?N, ?f, ?e⟩ ?hd ?hu (GroundAt.mono ?hx in_cons2) (in_cons2 _ ?hol) ?hlen ?hfit ?hU ?hy ?_; (case B => k_asm); (case F => k_asm); (case X => k_asm); (case T => k_asm); (case N => k_asm); (case f => exact rfl); (case e => exact rfl); (case hx => assumption); (case hol => assumption); (case hlen => assumption); (case hU => exact ups_mono (by assumption) in_cons2); (case hfit => assumption); (case hd => ktr_room); (case hu => ktr_room); (case hy => exact ⟨_, _, List.Mem.head _, List.Mem.tail _ (List.Mem.head _), _, _, _, _, _, _, _, _, _, _, _, _, _, _, _, _, _, rfl⟩)); intro h' tk' F' N')))
set_option maxHeartbeats 4000000 in
theorem find_plain_ctr (C : Cx w A₀ base h₀ outer L s m mg mb loose mean p news env) (hd : d ≤ 480) (hu : u ≤ 4800)
    {x sl ol : Addr} {us : List Addr} {ixs : List Int} {i : Int} {t : Tok} {nl : Nat}
    (hx : GroundAt news x sl ol) (hol : (ol, W.listOf (refs us).toArray nl) ∈ news) (hlen : us.length = ixs.length) (hfit : us.length ≤ 1000)
    (hU : ∀ k u, us[k]? = some u → ∃ th vl, UpAt news u th (ixs.getD k 0) vl)
    (old : ∀ a, us[lead i ixs]? = some a → ixs.getD (lead i ixs) 0 = i → ∀ h' tk, Fr h₀ L h' m → News h₀ L h' news → R (.ok (.ret (.ref a))) { s with heap := h', toks := tk })
    (new : (us[lead i ixs]? = none ∨ ixs.getD (lead i ixs) 0 ≠ i) → ∀ y dy oy h' tk, Fr h₀ L h' m → (∀ p ∈ news, p.1 < dy) → dy < y → UpDict oy (.ref x) i .none →
      News h₀ L h' (put ol (W.listOf (refs (us.take (lead i ixs) ++ y :: us.drop (lead i ixs))).toArray (nl + 1)) ((y, instObj 81 dy) :: (dy, oy) :: news)) →
      R (.ok (.ret (.ref y))) { s with heap := h', toks := tk }) :
    codeAny (model Challenge.rw_nt0630_01.row.prog w) ⟨none, d, some (env :: outer), some [], u⟩ (.call (.ref 132) ⟨[.ref x, .int i t], []⟩) R s := by
  obtain ⟨B, F, X, T, N, hf, hke⟩ := C
  have hol' : ListAt news ol (refs us) := ⟨nl, hol⟩
  tb_start
  (repeat' (first | (k_unfold; (try dsimp only)) | (refine unhide (by assumption) ?_; (try dsimp only)) | ((fail_if_success (with_reducible first | show wpAny _ _ (exec (Stmt.While _ _ _ _) _) _ _ _ | show wpAny _ _ (exec (Stmt.For _ _ _ _ _) _) _ _ _ | show wpAny _ _ (exec (Stmt.Assign _ (Expr.ListComp _ _ _ _) _) _) _ _ _ | show wpAny _ _ (eval (Expr.ListComp _ _ _ _) _) _ _ _ | show wpAny _ _ (call (Value.type "enumerate") _) _ _ _ | show wpAny _ _ (call (Value.type "zip") _) _ _ _ | refine stand_ref (by decide) ?_)); first | ((with_reducible first | (refine execs_one (by assumption) fun _ => ?_) | (refine execs_hid fun _ _ _ => ?_))) | ((with_reducible show wpAny _ _ (call (Value.ref 118) [Value.ref _, Value.int _ _]) _ _ _); k_dflt (refine wpAny_call (open_at_ctr ⟨by k_asm, by k_asm, by k_asm, by k_asm, by k_asm, rfl, rfl⟩ (by ktr_room) (by ktr_room) (by assumption) (by assumption) (by assumption) (by assumption) (by assumption) ?_)); intro _ _ _ _) | ((with_reducible show wpAny _ _ (call (Value.ref 111) [Value.ref _, Value.int _ _]) _ _ _); k_dflt (refine wpAny_call (spot_of_ctr ⟨by k_asm, by k_asm, by k_asm, by k_asm, by k_asm, rfl, rfl⟩ (by ktr_room) (by ktr_room) (by assumption) (by assumption) (by assumption) (by assumption) (by assumption) ?_)); intro _ _ _ _ _) | ((with_reducible show wpAny _ _ (call (Value.builtin "len") [Value.ref _]) _ _ _); k_dflt (refine len_at (by k_asm) (by k_mem) (by ktr_units) ?_; k_whole); (try simp only [refs_length])) | ((with_reducible show wpAny _ _ (subscriptTail _ _ (Value.ref _) (Value.int _ _)) _ _ _); (with_unfolding_all refine item_litK (News.isList (by k_asm) (by k_mem)) (by first | decide | omega) (by first | decide | omega) (by assumption) ?_ (by with_unfolding_all rfl); k_whole)) | ((with_reducible show wpAny _ _ (call (Value.builtin "list.insert") [Value.ref _, Value.int _ _, _]) _ _ _); k_dflt (refine ins_at (by k_asm) (by k_asm) (by first | assumption | exact mem_put_self | exact mem_put (by first | assumption | exact mem_put_self | exact mem_put (by first | assumption | exact mem_put_self | exact mem_put (by assumption) (by ktr_unf)) (by ktr_unf)) (by ktr_unf)) (by ktr_units) (by ktr_units) ?_; k_whole); intro _ _ _; (try k_sweep)) | walk1  | (dsimp only; walk1) | fail "no step")))
  (rename Fr _ _ _ _ => F')
  by_cases hq : ∃ a, us[lead i ixs]? = some a ∧ ixs.getD (lead i ixs) 0 = i
  · obtain ⟨a, ha, he⟩ := hq
    rw [foundAt_some ha he] at F' ⊢
    (repeat' (first | (k_unfold; (try dsimp only)) | (refine unhide (by assumption) ?_; (try dsimp only)) | ((fail_if_success (with_reducible first | show wpAny _ _ (exec (Stmt.While _ _ _ _) _) _ _ _ | show wpAny _ _ (exec (Stmt.For _ _ _ _ _) _) _ _ _ | show wpAny _ _ (exec (Stmt.Assign _ (Expr.ListComp _ _ _ _) _) _) _ _ _ | show wpAny _ _ (eval (Expr.ListComp _ _ _ _) _) _ _ _ | show wpAny _ _ (call (Value.type "enumerate") _) _ _ _ | show wpAny _ _ (call (Value.type "zip") _) _ _ _ | refine stand_ref (by decide) ?_)); first | ((with_reducible first | (refine execs_one (by assumption) fun _ => ?_) | (refine execs_hid fun _ _ _ => ?_))) | ((with_reducible show wpAny _ _ (call (Value.ref 118) [Value.ref _, Value.int _ _]) _ _ _); k_dflt (refine wpAny_call (open_at_ctr ⟨by k_asm, by k_asm, by k_asm, by k_asm, by k_asm, rfl, rfl⟩ (by ktr_room) (by ktr_room) (by assumption) (by assumption) (by assumption) (by assumption) (by assumption) ?_)); intro _ _ _ _) | ((with_reducible show wpAny _ _ (call (Value.ref 111) [Value.ref _, Value.int _ _]) _ _ _); k_dflt (refine wpAny_call (spot_of_ctr ⟨by k_asm, by k_asm, by k_asm, by k_asm, by k_asm, rfl, rfl⟩ (by ktr_room) (by ktr_room) (by assumption) (by assumption) (by assumption) (by assumption) (by assumption) ?_)); intro _ _ _ _ _) | ((with_reducible show wpAny _ _ (call (Value.builtin "len") [Value.ref _]) _ _ _); k_dflt (refine len_at (by k_asm) (by k_mem) (by ktr_units) ?_; k_whole); (try simp only [refs_length])) | ((with_reducible show wpAny _ _ (subscriptTail _ _ (Value.ref _) (Value.int _ _)) _ _ _); (with_unfolding_all refine item_litK (News.isList (by k_asm) (by k_mem)) (by first | decide | omega) (by first | decide | omega) (by assumption) ?_ (by with_unfolding_all rfl); k_whole)) | ((with_reducible show wpAny _ _ (call (Value.builtin "list.insert") [Value.ref _, Value.int _ _, _]) _ _ _); k_dflt (refine ins_at (by k_asm) (by k_asm) (by first | assumption | exact mem_put_self | exact mem_put (by first | assumption | exact mem_put_self | exact mem_put (by first | assumption | exact mem_put_self | exact mem_put (by assumption) (by ktr_unf)) (by ktr_unf)) (by ktr_unf)) (by ktr_units) (by ktr_units) ?_; k_whole); intro _ _ _; (try k_sweep)) | walk1  | (dsimp only; walk1) | fail "no step")))
    (rename Fr h₀ _ _ _ => F'); (rename News h₀ _ _ _ => N')
    exact old a ha he _ _ F' N'
  · have e := foundAt_none hq
    have hn : us[lead i ixs]? = none ∨ ixs.getD (lead i ixs) 0 ≠ i := by
      cases ha : us[lead i ixs]? with
      | none => exact .inl rfl
      | some a => exact .inr fun he => hq ⟨a, ha, he⟩
    rw [e] at F' ⊢
    (repeat' (first | (k_unfold; (try dsimp only)) | (refine unhide (by assumption) ?_; (try dsimp only)) | ((fail_if_success (with_reducible first | show wpAny _ _ (exec (Stmt.While _ _ _ _) _) _ _ _ | show wpAny _ _ (exec (Stmt.For _ _ _ _ _) _) _ _ _ | show wpAny _ _ (exec (Stmt.Assign _ (Expr.ListComp _ _ _ _) _) _) _ _ _ | show wpAny _ _ (eval (Expr.ListComp _ _ _ _) _) _ _ _ | show wpAny _ _ (call (Value.type "enumerate") _) _ _ _ | show wpAny _ _ (call (Value.type "zip") _) _ _ _ | refine stand_ref (by decide) ?_)); first | ((with_reducible first | (refine execs_one (by assumption) fun _ => ?_) | (refine execs_hid fun _ _ _ => ?_))) | ((with_reducible show wpAny _ _ (call (Value.ref 118) [Value.ref _, Value.int _ _]) _ _ _); k_dflt (refine wpAny_call (open_at_ctr ⟨by k_asm, by k_asm, by k_asm, by k_asm, by k_asm, rfl, rfl⟩ (by ktr_room) (by ktr_room) (by assumption) (by assumption) (by assumption) (by assumption) (by assumption) ?_)); intro _ _ _ _) | ((with_reducible show wpAny _ _ (call (Value.ref 111) [Value.ref _, Value.int _ _]) _ _ _); k_dflt (refine wpAny_call (spot_of_ctr ⟨by k_asm, by k_asm, by k_asm, by k_asm, by k_asm, rfl, rfl⟩ (by ktr_room) (by ktr_room) (by assumption) (by assumption) (by assumption) (by assumption) (by assumption) ?_)); intro _ _ _ _ _) | ((with_reducible show wpAny _ _ (call (Value.builtin "len") [Value.ref _]) _ _ _); k_dflt (refine len_at (by k_asm) (by k_mem) (by ktr_units) ?_; k_whole); (try simp only [refs_length])) | ((with_reducible show wpAny _ _ (subscriptTail _ _ (Value.ref _) (Value.int _ _)) _ _ _); (with_unfolding_all refine item_litK (News.isList (by k_asm) (by k_mem)) (by first | decide | omega) (by first | decide | omega) (by assumption) ?_ (by with_unfolding_all rfl); k_whole)) | ((with_reducible show wpAny _ _ (call (Value.builtin "list.insert") [Value.ref _, Value.int _ _, _]) _ _ _); k_dflt (refine ins_at (by k_asm) (by k_asm) (by first | assumption | exact mem_put_self | exact mem_put (by first | assumption | exact mem_put_self | exact mem_put (by first | assumption | exact mem_put_self | exact mem_put (by assumption) (by ktr_unf)) (by ktr_unf)) (by ktr_unf)) (by ktr_units) (by ktr_units) ?_; k_whole); intro _ _ _; (try k_sweep)) | walk1  | (dsimp only; walk1) | fail "no step")))
    (rename Fr h₀ _ _ _ => F'); (rename News h₀ _ _ _ => N')
    refine new hn _ _ _ _ _ F' ?_ ?_ ?_ N'
    · assumption
    · assumption
    · exact ⟨_, _, _, _, _, _, _, _, _, _, _, _, _, _, _, _, _, rfl⟩
end

end
section
/-- how many lead at a level or above -/
def take0 (lv : Int) (ixs : List Int) : Nat := (ixs.takeWhile fun j => decide (lv ≤ j)).length
theorem take0_eq {lv : Int} : ∀ {ixs : List Int} {k : Nat}, k ≤ ixs.length → (∀ j, j < k → lv ≤ ixs.getD j 0) → (k = ixs.length ∨ ¬ lv ≤ ixs.getD k 0) → take0 lv ixs = k := by
  intro ixs
  induction ixs with
  | nil => intro k hk _ _; simp at hk; subst hk; rfl
  | cons a r ih =>
    intro k hk h1 h2
    cases k with
    | zero =>
      have : ¬ lv ≤ a := by simpa using h2
      simp [take0, this]
    | succ k =>
      have h0 : lv ≤ a := by simpa using h1 0 (Nat.succ_pos _)
      have := ih (k := k) (by simpa using hk) (fun j hj => by simpa using h1 (j + 1) (Nat.succ_lt_succ hj)) (by simpa using h2)
      unfold take0 at this ⊢
      simp [h0, this]

abbrev E3 := Addr × Addr × Int
/-- the ledger when j variables are closed -/
structure TakeSt (news : List (Addr × Obj)) (es : List E3) (vs : List Value) (fl ol : Addr) (j : Nat) (nx : List (Addr × Obj)) : Prop where
  found : ∃ n, (fl, W.listOf (refs ((es.take j).map (·.1))).toArray n) ∈ nx
  left : ∃ n, (ol, W.listOf (refs ((es.drop j).map (·.1))).toArray n) ∈ nx
  closed : ∀ (k : Nat) (u dx : Addr) (ix : Int), k < j → es[k]? = some (u, dx, ix) → ∃ o, (dx, o) ∈ nx ∧ UpDict o .none (-1) (vs.getD ix.toNat .none)
  kept : ∀ p ∈ news, p.1 ≠ ol → (∀ (k : Nat) (u dx : Addr) (ix : Int), k < j → es[k]? = some (u, dx, ix) → p.1 ≠ dx) → p ∈ nx

section
variable {w : World} {base h₀ : Heap} {outer : List Env} {A₀ : Around} {d u : Nat} {env : Env} {L : Addr} {m mg mb : Str → Option Value}
    {loose : List Str} {mean : ExcName → Option Value} {p : Program} {s : Shared} {news : List (Addr × Obj)} {R : Result → Shared → Prop}

set_option maxHeartbeats 8000000 in
theorem take_closed_ctr (C : Cx w A₀ base h₀ outer L s m mg mb loose mean p news env) (hd : d ≤ 480) (hu : u ≤ 4800)
    {x sl ol dxg : Addr} {og : Obj} {es : List E3} {vs : List Value} {lv : Int} {t : Tok} {nl ns : Nat}
    (hx1 : (x, instObj 100 dxg) ∈ news) (hx2 : (dxg, og) ∈ news) (hg : GroundDict og sl ol)
    (hsl : (sl, W.listOf vs.toArray ns) ∈ news) (hol : (ol, W.listOf (refs (es.map (·.1))).toArray nl) ∈ news) (hslol : sl ≠ ol) (hfit : es.length ≤ 1000) (hvfit : vs.length ≤ 100000)
    (hE : ∀ (k : Nat) (u dx : Addr) (ix : Int), es[k]? = some (u, dx, ix) → ∃ o, (u, instObj 81 dx) ∈ news ∧ (dx, o) ∈ news ∧ UpDict o (.ref x) ix .none ∧ 0 ≤ ix ∧ ix < vs.length)
    (hinj : ∀ (k k' : Nat) (u u' dx : Addr) (ix ix' : Int), es[k]? = some (u, dx, ix) → es[k']? = some (u', dx, ix') → k = k')
    (post : ∀ fl h' tk news', Fr h₀ L h' m → News h₀ L h' news' → (∀ p ∈ news, p.1 < fl) → TakeSt news es vs fl ol (take0 lv (es.map (·.2.2))) news' →
      R (.ok (.ret (.ref fl))) { s with heap := h', toks := tk }) :
    codeAny (model Challenge.rw_nt0630_01.row.prog w) ⟨none, d, some (env :: outer), some [], u⟩ (.call (.ref 139) ⟨[.ref x, .int lv t], []⟩) R s := by
  obtain ⟨B, F, X, T, N, hf, hke⟩ := C
  tb_start
  (repeat' (first | (k_unfold; (try dsimp only)) | (refine unhide (by assumption) ?_; (try dsimp only)) | ((fail_if_success (with_reducible first | show wpAny _ _ (exec (Stmt.While _ _ _ _) _) _ _ _ | show wpAny _ _ (exec (Stmt.For _ _ _ _ _) _) _ _ _ | show wpAny _ _ (exec (Stmt.Assign _ (Expr.ListComp _ _ _ _) _) _) _ _ _ | show wpAny _ _ (eval (Expr.ListComp _ _ _ _) _) _ _ _ | show wpAny _ _ (call (Value.type "enumerate") _) _ _ _ | show wpAny _ _ (call (Value.type "zip") _) _ _ _ | refine stand_ref (by decide) ?_)); first | ((with_reducible first | (refine execs_one (by assumption) fun _ => ?_) | (refine execs_hid fun _ _ _ => ?_))) | ((with_reducible show wpAny _ _ (call (Value.builtin "len") [Value.ref _]) _ _ _); k_dflt (refine len_at (by k_asm) (by k_mem) (by ktr_units) ?_; k_whole); (try simp only [refs_length])) | ((with_reducible show wpAny _ _ (subscriptTail _ _ (Value.ref _) (Value.int _ _)) _ _ _); (with_unfolding_all refine item_litK (News.isList (by k_asm) (by k_mem)) (by first | decide | omega) (by first | decide | omega) (by assumption) ?_ (by with_unfolding_all rfl); k_whole)) | ((with_reducible show wpAny _ _ (call (Value.builtin "list.pop") [Value.ref _, Value.int _ _]) _ _ _); k_dflt (refine pop_at (by k_asm) (by k_asm) (by first | assumption | exact mem_put_self | exact mem_put (by first | assumption | exact mem_put_self | exact mem_put (by first | assumption | exact mem_put_self | exact mem_put (by assumption) (by ktr_unf)) (by ktr_unf)) (by ktr_unf)) (by ktr_units) ?_; k_whole); intro _ _ _; (try k_sweep)) | ((with_reducible show wpAny _ _ (getMethod (Value.ref _) (PySem.Str.ofString "append") _) _ _ _); k_dflt (refine listMethod_K (by k_asm) (by first | assumption | exact mem_put_self | exact mem_put (by first | assumption | exact mem_put_self | exact mem_put (by first | assumption | exact mem_put_self | exact mem_put (by assumption) (by ktr_unf)) (by ktr_unf)) (by ktr_unf)) PySem.F.slot_list_append PySem.F.type_list_append ?_)) | ((with_reducible show wpAny _ _ (call (Value.builtin "list.append") [Value.ref _, _]) _ _ _); k_dflt (refine app_at (by k_asm) (by k_asm) (by first | assumption | exact mem_put_self | exact mem_put (by first | assumption | exact mem_put_self | exact mem_put (by first | assumption | exact mem_put_self | exact mem_put (by assumption) (by ktr_unf)) (by ktr_unf)) (by ktr_unf)) (by ktr_units) ?_; k_whole); intro _ _ _; (try k_sweep)) | walk1 | ((with_reducible show wpAny _ _ (call (Value.builtin "list.append") [Value.ref _, _]) _ _ _); k_dflt (refine app_at (by k_asm) (by k_asm) (by k_mem) (by ktr_units) ?_; k_whole); intro _ _ _; (try k_sweep)) | (dsimp only; walk1) | fail "no step")))
  rename_i fl _ l1 _ F' N' _ _ _
  refine While_inv2 (fun n m nx => ∃ j, n = es.length - j ∧ j ≤ es.length ∧ (∀ k, k < j → lv ≤ (es.map (·.2.2)).getD k 0) ∧
    m (Str.ofString "owner") = some (.ref x) ∧ m (Str.ofString "level") = some (.int lv t) ∧ m (Str.ofString "found") = some (.ref fl) ∧ TakeSt news es vs fl ol j nx) (n₀ := es.length) F' N' ⟨0, rfl, Nat.zero_le _, (by omega), rfl, rfl, rfl, ⟨⟨0, List.Mem.head _⟩, ⟨nl, List.Mem.tail _ hol⟩, (by omega), fun p hp _ _ => List.Mem.tail _ hp⟩⟩ ?_
  clear F' N'
  rintro n₁ m₁ nx h₁ tk₁ F₁ N₁ hR1
  obtain ⟨j, hn, hj, hlv, m1, m2, m3, ⟨nf, hfl⟩, ⟨nl', hol'⟩, hcl, hkept⟩ := hR1
  replace F₁ := fr_at (x := Str.ofString "owner") (fr_at (x := Str.ofString "level") (fr_at (x := Str.ofString "found") F₁ m3) m2) m1
  have hdk : ∀ (k : Nat) (u dx : Addr) (ix : Int), k < j → es[k]? = some (u, dx, ix) → x ≠ dx ∧ dxg ≠ dx ∧ sl ≠ dx := fun k u dx ix _ he => by
    obtain ⟨o, _, h2, h3, _⟩ := hE k u dx ix he
    exact ⟨(ne_of_obj N h2 hx1 (up_ne_inst h3)).symm, (ne_of_obj N h2 hx2 (up_ne_ground h3 hg)).symm, (ne_of_obj N h2 hsl (up_ne_list h3)).symm⟩
  have kx1 := hkept _ hx1 (ne_of_obj N hol hx1 list_ne_inst).symm fun k u dx ix hk he => (hdk k u dx ix hk he).1
  have kx2 := hkept _ hx2 (ne_of_obj N hol hx2 (list_ne_ground hg)).symm fun k u dx ix hk he => (hdk k u dx ix hk he).2.1
  have ksl := hkept _ hsl hslol fun k u dx ix hk he => (hdk k u dx ix hk he).2.2
  obtain ⟨n, c0, c1, t0, t1, rfl⟩ := hg
  by_cases hjl : j < es.length
  · obtain ⟨⟨a, da, ix⟩, ha⟩ : ∃ e, es[j]? = some e := ⟨es[j], by simp [hjl]⟩
    obtain ⟨oa, ha1, ha2, hud, hix0, hix1⟩ := hE j a da ix ha
    have na1 : a ≠ ol := (ne_of_obj N hol ha1 list_ne_inst).symm
    have na2 : da ≠ ol := ne_of_obj N ha2 hol (up_ne_list hud)
    have hga : ∀ (k : Nat) (u dx : Addr) (ix : Int), k < j → es[k]? = some (u, dx, ix) → a ≠ dx ∧ da ≠ dx := fun k u dx ix' hk he => by
      obtain ⟨o, _, h2, h3, _⟩ := hE k u dx ix' he
      refine ⟨(ne_of_obj N h2 ha1 (up_ne_inst h3)).symm, ?_⟩
      rintro rfl
      have := hinj _ _ _ _ _ _ _ he ha
      omega
    have ka1 := hkept _ ha1 na1 fun k u dx ix hk he => (hga k u dx ix hk he).1
    have ka2 := hkept _ ha2 na2 fun k u dx ix hk he => (hga k u dx ix hk he).2
    have hdrop : es.drop j = (a, da, ix) :: es.drop (j + 1) := by
      rw [List.drop_eq_getElem_cons hjl]
      have : es[j] = (a, da, ix) := by simpa [hjl] using ha
      rw [this]
    have hgd : (es.map (·.2.2)).getD j 0 = ix := by simp [ha]
    rw [hdrop] at hol'
    replace hol' : (ol, W.listOf (Value.ref a :: refs ((es.drop (j + 1)).map (·.1))).toArray nl') ∈ nx := hol'
    have hit : (Value.ref a :: refs ((es.drop (j + 1)).map (·.1)))[(0 : Int).toNat]? = some (.ref a) := rfl
    have hlr : (Value.ref a :: refs ((es.drop (j + 1)).map (·.1))).length ≤ 1000 := by simp [refs]; omega
    have hl0 : 0 < (Value.ref a :: refs ((es.drop (j + 1)).map (·.1))).length := Nat.succ_pos _
    have hvt : vs[ix.toNat]? = some (vs.getD ix.toNat .none) := by
      have : ix.toNat < vs.length := by omega
      simp [List.getD, this]
    have q1 : x ≠ ol := (ne_of_obj N hol hx1 list_ne_inst).symm
    have q2 : dxg ≠ ol := (ne_of_obj N hol hx2 (list_ne_ground ⟨_, _, _, _, _, rfl⟩)).symm
    have q3 : x ≠ da := (ne_of_obj N ha2 hx1 (up_ne_inst hud)).symm
    have q4 : dxg ≠ da := (ne_of_obj N ha2 hx2 (up_ne_ground hud ⟨_, _, _, _, _, rfl⟩)).symm
    have q5 : sl ≠ da := (ne_of_obj N ha2 hsl (up_ne_list hud)).symm
    have q6 : a ≠ da := (ne_of_obj N ha2 ha1 (up_ne_inst hud)).symm
    have q7 : fl ≠ ol := Nat.ne_of_gt (l1 _ hol)
    have q8 : fl ≠ da := Nat.ne_of_gt (l1 _ ha2)
    have hfl9 : (refs ((es.take j).map (·.1))).length ≤ 1000 := by simp [refs]; omega
    obtain ⟨na, e0, e1, e2, e3, e4, e5, s0, s1, s2, s3, s4, s5, v0, v1, v2, ti, rfl⟩ := hud
    by_cases hlx : lv ≤ ix
    · (repeat' (first | (k_unfold; (try dsimp only)) | (refine unhide (by assumption) ?_; (try dsimp only)) | ((fail_if_success (with_reducible first | show wpAny _ _ (exec (Stmt.While _ _ _ _) _) _ _ _ | show wpAny _ _ (exec (Stmt.For _ _ _ _ _) _) _ _ _ | show wpAny _ _ (exec (Stmt.Assign _ (Expr.ListComp _ _ _ _) _) _) _ _ _ | show wpAny _ _ (eval (Expr.ListComp _ _ _ _) _) _ _ _ | show wpAny _ _ (call (Value.type "enumerate") _) _ _ _ | show wpAny _ _ (call (Value.type "zip") _) _ _ _ | refine stand_ref (by decide) ?_)); first | ((with_reducible first | (refine execs_one (by assumption) fun _ => ?_) | (refine execs_hid fun _ _ _ => ?_))) | ((with_reducible show wpAny _ _ (call (Value.builtin "len") [Value.ref _]) _ _ _); k_dflt (refine len_at (by k_asm) (by k_mem) (by ktr_units) ?_; k_whole); (try simp only [refs_length])) | ((with_reducible show wpAny _ _ (subscriptTail _ _ (Value.ref _) (Value.int _ _)) _ _ _); (with_unfolding_all refine item_litK (News.isList (by k_asm) (by k_mem)) (by first | decide | omega) (by first | decide | omega) (by assumption) ?_ (by with_unfolding_all rfl); k_whole)) | ((with_reducible show wpAny _ _ (call (Value.builtin "list.pop") [Value.ref _, Value.int _ _]) _ _ _); k_dflt (refine pop_at (by k_asm) (by k_asm) (by first | assumption | exact mem_put_self | exact mem_put (by first | assumption | exact mem_put_self | exact mem_put (by first | assumption | exact mem_put_self | exact mem_put (by assumption) (by ktr_unf)) (by ktr_unf)) (by ktr_unf)) (by ktr_units) ?_; k_whole); intro _ _ _; (try k_sweep)) | ((with_reducible show wpAny _ _ (getMethod (Value.ref _) (PySem.Str.ofString "append") _) _ _ _); k_dflt (refine listMethod_K (by k_asm) (by first | assumption | exact mem_put_self | exact mem_put (by first | assumption | exact mem_put_self | exact mem_put (by first | assumption | exact mem_put_self | exact mem_put (by assumption) (by ktr_unf)) (by ktr_unf)) (by ktr_unf)) PySem.F.slot_list_append PySem.F.type_list_append ?_)) | ((with_reducible show wpAny _ _ (call (Value.builtin "list.append") [Value.ref _, _]) _ _ _); k_dflt (refine app_at (by k_asm) (by k_asm) (by first | assumption | exact mem_put_self | exact mem_put (by first | assumption | exact mem_put_self | exact mem_put (by first | assumption | exact mem_put_self | exact mem_put (by assumption) (by ktr_unf)) (by ktr_unf)) (by ktr_unf)) (by ktr_units) ?_; k_whole); intro _ _ _; (try k_sweep)) | walk1 | ((with_reducible show wpAny _ _ (call (Value.builtin "list.append") [Value.ref _, _]) _ _ _); k_dflt (refine app_at (by k_asm) (by k_asm) (by k_mem) (by ktr_units) ?_; k_whole); intro _ _ _; (try k_sweep)) | (dsimp only; walk1) | fail "no step")))
      (rename Fr _ _ _ _ => F9); (rename News _ _ _ _ => N9)
      have etake : es.take (j + 1) = es.take j ++ [(a, da, ix)] := by rw [List.take_add_one, ha]; rfl
      have e1 : refs ((es.take (j + 1)).map (·.1)) = refs ((es.take j).map (·.1)) ++ [Value.ref a] := by rw [etake]; simp [refs]
      have q9 : ol ≠ da := na2.symm
      have q10 : ol ≠ fl := q7.symm
      have q11 : da ≠ fl := q8.symm
      refine ⟨_, _, _, _, es.length - (j + 1), rfl, F9, N9, by omega, j + 1, rfl, by omega, fun k hk => ?_, rfl, rfl, rfl, ⟨⟨nf + 1, ?_⟩, ⟨nl' + 1, ?_⟩, fun k u' dx ix' hk he => ?_, fun p hp hpol hpk => ?_⟩⟩
      · rcases Nat.lt_or_ge k j with h | h
        · exact hlv k h
        · have : k = j := by omega
          subst this; rw [hgd]; exact hlx
      · rw [e1]; exact mem_put_self
      · exact mem_put (mem_put (mem_put (mem_put mem_put_self q9) q9) q9) q10
      · rcases Nat.lt_or_ge k j with h | h
        · obtain ⟨o, ho, hod⟩ := hcl k u' dx ix' h he
          obtain ⟨o', _, h2, h3, _⟩ := hE k u' dx ix' he
          have r1 : dx ≠ ol := ne_of_obj N h2 hol (up_ne_list h3)
          have r2 : dx ≠ da := (hga k u' dx ix' h he).2.symm
          have r3 : dx ≠ fl := Nat.ne_of_lt (l1 _ h2)
          exact ⟨o, mem_put (mem_put (mem_put (mem_put (mem_put ho r1) r2) r2) r2) r3, hod⟩
        · have : k = j := by omega
          subst this
          rw [ha] at he; cases he
          exact ⟨_, mem_put mem_put_self q11, _, _, _, _, _, _, _, _, _, _, _, _, _, _, _, _, _, rfl⟩
      · have r2 : p.1 ≠ da := hpk j a da ix (by omega) ha
        have r3 : p.1 ≠ fl := Nat.ne_of_lt (l1 _ hp)
        exact mem_put (mem_put (mem_put (mem_put (mem_put (hkept p hp hpol fun k u' dx ix' hk he => hpk k u' dx ix' (by omega) he) hpol) r2) r2) r2) r3
    · (repeat' (first | (k_unfold; (try dsimp only)) | (refine unhide (by assumption) ?_; (try dsimp only)) | ((fail_if_success (with_reducible first | show wpAny _ _ (exec (Stmt.While _ _ _ _) _) _ _ _ | show wpAny _ _ (exec (Stmt.For _ _ _ _ _) _) _ _ _ | show wpAny _ _ (exec (Stmt.Assign _ (Expr.ListComp _ _ _ _) _) _) _ _ _ | show wpAny _ _ (eval (Expr.ListComp _ _ _ _) _) _ _ _ | show wpAny _ _ (call (Value.type "enumerate") _) _ _ _ | show wpAny _ _ (call (Value.type "zip") _) _ _ _ | refine stand_ref (by decide) ?_)); first | ((with_reducible first | (refine execs_one (by assumption) fun _ => ?_) | (refine execs_hid fun _ _ _ => ?_))) | ((with_reducible show wpAny _ _ (call (Value.builtin "len") [Value.ref _]) _ _ _); k_dflt (refine len_at (by k_asm) (by k_mem) (by ktr_units) ?_; k_whole); (try simp only [refs_length])) | ((with_reducible show wpAny _ _ (subscriptTail _ _ (Value.ref _) (Value.int _ _)) _ _ _); (with_unfolding_all refine item_litK (News.isList (by k_asm) (by k_mem)) (by first | decide | omega) (by first | decide | omega) (by assumption) ?_ (by with_unfolding_all rfl); k_whole)) | ((with_reducible show wpAny _ _ (call (Value.builtin "list.pop") [Value.ref _, Value.int _ _]) _ _ _); k_dflt (refine pop_at (by k_asm) (by k_asm) (by first | assumption | exact mem_put_self | exact mem_put (by first | assumption | exact mem_put_self | exact mem_put (by first | assumption | exact mem_put_self | exact mem_put (by assumption) (by ktr_unf)) (by ktr_unf)) (by ktr_unf)) (by ktr_units) ?_; k_whole); intro _ _ _; (try k_sweep)) | ((with_reducible show wpAny _ _ (getMethod (Value.ref _) (PySem.Str.ofString "append") _) _ _ _); k_dflt (refine listMethod_K (by k_asm) (by first | assumption | exact mem_put_self | exact mem_put (by first | assumption | exact mem_put_self | exact mem_put (by first | assumption | exact mem_put_self | exact mem_put (by assumption) (by ktr_unf)) (by ktr_unf)) (by ktr_unf)) PySem.F.slot_list_append PySem.F.type_list_append ?_)) | ((with_reducible show wpAny _ _ (call (Value.builtin "list.append") [Value.ref _, _]) _ _ _); k_dflt (refine app_at (by k_asm) (by k_asm) (by first | assumption | exact mem_put_self | exact mem_put (by first | assumption | exact mem_put_self | exact mem_put (by first | assumption | exact mem_put_self | exact mem_put (by assumption) (by ktr_unf)) (by ktr_unf)) (by ktr_unf)) (by ktr_units) ?_; k_whole); intro _ _ _; (try k_sweep)) | walk1 | ((with_reducible show wpAny _ _ (call (Value.builtin "list.append") [Value.ref _, _]) _ _ _); k_dflt (refine app_at (by k_asm) (by k_asm) (by k_mem) (by ktr_units) ?_; k_whole); intro _ _ _; (try k_sweep)) | (dsimp only; walk1) | fail "no step")))
      (rename Fr h₀ _ _ _ => F9); (rename News h₀ _ _ _ => N9)
      have e := take0_eq (lv := lv) (ixs := es.map (·.2.2)) (k := j) (by simp; omega) hlv (.inr (by rw [hgd]; exact hlx))
      rw [e] at post
      refine post fl _ _ _ F9 N9 l1 ⟨⟨_, hfl⟩, ⟨nl', ?_⟩, hcl, hkept⟩
      rw [hdrop]; exact hol'
  · have hjj : j = es.length := by omega
    subst hjj
    rw [List.drop_length] at hol'
    replace hol' : (ol, W.listOf ([] : List Value).toArray nl') ∈ nx := hol'
    (repeat' (first | (k_unfold; (try dsimp only)) | (refine unhide (by assumption) ?_; (try dsimp only)) | ((fail_if_success (with_reducible first | show wpAny _ _ (exec (Stmt.While _ _ _ _) _) _ _ _ | show wpAny _ _ (exec (Stmt.For _ _ _ _ _) _) _ _ _ | show wpAny _ _ (exec (Stmt.Assign _ (Expr.ListComp _ _ _ _) _) _) _ _ _ | show wpAny _ _ (eval (Expr.ListComp _ _ _ _) _) _ _ _ | show wpAny _ _ (call (Value.type "enumerate") _) _ _ _ | show wpAny _ _ (call (Value.type "zip") _) _ _ _ | refine stand_ref (by decide) ?_)); first | ((with_reducible first | (refine execs_one (by assumption) fun _ => ?_) | (refine execs_hid fun _ _ _ => ?_))) | ((with_reducible show wpAny _ _ (call (Value.builtin "len") [Value.ref _]) _ _ _); k_dflt (refine len_at (by k_asm) (by k_mem) (by ktr_units) ?_; k_whole); (try simp only [refs_length])) | ((with_reducible show wpAny _ _ (subscriptTail _ _ (Value.ref _) (Value.int _ _)) _ _ _); (with_unfolding_all refine item_litK (News.isList (by k_asm) (by k_mem)) (by first | decide | omega) (by first | decide | omega) (by assumption) ?_ (by with_unfolding_all rfl); k_whole)) | ((with_reducible show wpAny _ _ (call (Value.builtin "list.pop") [Value.ref _, Value.int _ _]) _ _ _); k_dflt (refine pop_at (by k_asm) (by k_asm) (by first | assumption | exact mem_put_self | exact mem_put (by first | assumption | exact mem_put_self | exact mem_put (by first | assumption | exact mem_put_self | exact mem_put (by assumption) (by ktr_unf)) (by ktr_unf)) (by ktr_unf)) (by ktr_units) ?_; k_whole); intro _ _ _; (try k_sweep)) | ((with_reducible show wpAny _ _ (getMethod (Value.ref _) (PySem.Str.ofString "append") _) _ _ _); k_dflt (refine listMethod_K (by k_asm) (by first | assumption | exact mem_put_self | exact mem_put (by first | assumption | exact mem_put_self | exact mem_put (by first | assumption | exact mem_put_self | exact mem_put (by assumption) (by ktr_unf)) (by ktr_unf)) (by ktr_unf)) PySem.F.slot_list_append PySem.F.type_list_append ?_)) | ((with_reducible show wpAny _ _ (call (Value.builtin "list.append") [Value.ref _, _]) _ _ _); k_dflt (refine app_at (by k_asm) (by k_asm) (by first | assumption | exact mem_put_self | exact mem_put (by first | assumption | exact mem_put_self | exact mem_put (by first | assumption | exact mem_put_self | exact mem_put (by assumption) (by ktr_unf)) (by ktr_unf)) (by ktr_unf)) (by ktr_units) ?_; k_whole); intro _ _ _; (try k_sweep)) | walk1 | ((with_reducible show wpAny _ _ (call (Value.builtin "list.append") [Value.ref _, _]) _ _ _); k_dflt (refine app_at (by k_asm) (by k_asm) (by k_mem) (by ktr_units) ?_; k_whole); intro _ _ _; (try k_sweep)) | (dsimp only; walk1) | fail "no step")))
    (rename Fr h₀ _ _ _ => F9); (rename News h₀ _ _ _ => N9)
    have e := take0_eq (lv := lv) (ixs := es.map (·.2.2)) (k := es.length) (by simp) hlv (.inl (by simp))
    rw [e] at post
    refine post fl _ _ _ F9 N9 l1 ⟨⟨_, hfl⟩, ⟨nl', ?_⟩, hcl, hkept⟩
    rw [List.drop_length]; exact hol'
end

end
section
open PyProof.Rows.LCg (NsObj ns_obj) in
section
variable {prog : Program} {w : World} {A : Around} {E : Value → Shared → Prop} {s : Shared}

/-- a comprehension's loop, any target, any tests -/
theorem cl_loop {elt target iter : PySem.Expr} {ifs : List PySem.Expr} {scope : Scope} {pos : Pos} {it acc : Value} {env : Env} {R : Result → Shared → Prop} (I : Nat → Shared → Prop)
    (turn : ∀ n s, I n s → wpAny (model prog w) A (pyNext it) (fun r s₁ => match r with
      | none => R (.ok .next) s₁
      | some v => wpAny (model prog w) A (letOwnedTupleGo target it v) (fun _ s₀ => wpAny (model prog w) A (assign target env v) (fun _ s₂ =>
          wpAny (model prog w) A (forIn ifs true fun c r => if r = true then do let ok ← isTrue c env (eval c env); pure (ForInStep.yield ok) else pure (ForInStep.yield r)) (fun ok s₃ => if ok = true then wpAny (model prog w) A (eval elt env) (fun x s₄ =>
            wpAny (model prog w) A (call (.builtin "list.append") [acc, x]) (fun _ s₅ => ∃ m, m < n ∧ I m s₅) (notedBy (model prog w) A env fun e s' => R (.error e) s') s₄) (notedBy (model prog w) A env fun e s' => R (.error e) s') s₃
            else ∃ m, m < n ∧ I m s₃) (notedBy (model prog w) A env fun e s' => R (.error e) s') s₂)
          (notedBy (model prog w) A env fun e s' => R (.error e) s') s₀) (notedBy (model prog w) A env fun e s' => R (.error e) s') s₁) (notedBy (model prog w) A env fun e s' => R (.error e) s') s)
    (n : Nat) (h : I n s) : codeAny (model prog w) A (.compLoop (.ListComp elt [⟨target, iter, ifs, 0⟩] scope pos) 0 it acc env) R s := by
  refine codeAny_loop rfl I (fun n s hI => ?_) n h
  show wpAny _ A ((compTurn (.ListComp elt [⟨target, iter, ifs, 0⟩] scope pos) 0 it acc env).onRaise (fun x => do noteFrame x env; theTreesLotGoes x)) _ _ s
  refine wpAny_noted ?_
  rw [compTurn_list]
  refine wpAny_bind (wpAny_standAt (wpAny_bind (wpAny_mono (turn n s hI) (fun r s₁ h₁ => ?_) fun _ _ h' => h')))
  cases r with
  | none => exact wpAny_pure h₁
  | some v =>
    refine wpAny_bind (wpAny_mono h₁ (fun _ s₀ h₀' => ?_) fun _ _ h' => h')
    refine wpAny_bind (wpAny_mono h₀' (fun _ s₂ h₂ => ?_) fun _ _ h' => h')
    refine wpAny_bind (wpAny_mono h₂ (fun okb s₃ h₃ => ?_) fun _ _ h' => h')
    cases okb with
    | false => exact wpAny_pure ⟨rfl, h₃⟩
    | true => exact wpAny_bind (wpAny_bind (wpAny_mono h₃ (fun x s₄ h₄ => wpAny_bind (wpAny_mono h₄ (fun _ s₅ h₅ => wpAny_pure (wpAny_pure ⟨rfl, h₅⟩)) fun _ _ h' => h')) fun _ _ h' => h'))

/-- a source of turns: what the target's names hold at turn i -/
structure TSrc (prog : Program) (w : World) (A : Around) (target : PySem.Expr) (names : List Str) (I : Addr) (fp wr : List Addr) (n : Nat) (B : Nat → (Str → Option Value) → Prop) (St : Nat → Heap → Prop) : Prop where
  sub : ∀ b ∈ wr, b ∈ fp
  frame : ∀ i h h', St i h → (∀ b ∈ fp, ∀ o, h.get? b = some o → h'.get? b = some o) → St i h'
  turn : ∀ i (s : Shared) (cenv : Env) (m₀ : Str → Option Value) (Q : Shared → Prop) (E : Value → Shared → Prop), i < n → St i s.heap → s.heap.Ns cenv.locals m₀ → cenv.locals ∉ fp →
    (∀ x ∈ names, cenv.kindOf x = some .local) → (cenv.scope.kind == .class || (cenv.scope.kind == .module && cenv.locals != cenv.globals)) = false →
    (∀ h' tk m', St (i + 1) h' → h'.Ns cenv.locals m' → B i m' → (∀ b o, b ∉ wr → b ≠ cenv.locals → s.heap.get? b = some o → h'.get? b = some o) → Q { s with heap := h', toks := tk }) →
    wpAny (model prog w) A (pyNext (.ref I)) (fun r s₁ => ∃ v, r = some v ∧ wpAny (model prog w) A (letOwnedTupleGo target (.ref I) v) (fun _ s₀ => wpAny (model prog w) A (assign target cenv v) (fun _ s₂ => Q s₂) E s₀) E s₁) E s
  done : ∀ (s : Shared) (Q : Option Value → Shared → Prop) (E : Value → Shared → Prop), St n s.heap →
    (∀ h' tk, (∀ b o, b ∉ wr → s.heap.get? b = some o → h'.get? b = some o) → Q none { s with heap := h', toks := tk }) → wpAny (model prog w) A (pyNext (.ref I)) Q E s
  self : ∀ i (s : Shared) (Q : Value → Shared → Prop) (E : Value → Shared → Prop), St i s.heap → Q (.ref I) s → wpAny (model prog w) A (pyIter (.ref I)) Q E s

theorem TSrc.turn' {target : PySem.Expr} {names : List Str} {I : Addr} {fp wr : List Addr} {n : Nat} {B : Nat → (Str → Option Value) → Prop} {St : Nat → Heap → Prop} (S : TSrc prog w A target names I fp wr n B St)
    (i : Nat) {cenv : Env} {m₀ : Str → Option Value} {X Q : Shared → Prop} (hi : i < n) (hst : St i s.heap) (hn : s.heap.Ns cenv.locals m₀) (hC : cenv.locals ∉ fp)
    (hx : ∀ x ∈ names, cenv.kindOf x = some .local) (hp : (cenv.scope.kind == .class || (cenv.scope.kind == .module && cenv.locals != cenv.globals)) = false)
    (h : ∀ h' tk m', St (i + 1) h' → h'.Ns cenv.locals m' → B i m' → (∀ b o, b ∉ wr → b ≠ cenv.locals → s.heap.get? b = some o → h'.get? b = some o) → Q { s with heap := h', toks := tk }) :
    wpAny (model prog w) A (pyNext (.ref I)) (fun r s₁ => match r with
      | none => X s₁
      | some v => wpAny (model prog w) A (letOwnedTupleGo target (.ref I) v) (fun _ s₀ => wpAny (model prog w) A (assign target cenv v) (fun _ s₂ => Q s₂) E s₀) E s₁) E s :=
  wpAny_mono (S.turn i s cenv m₀ Q E hi hst hn hC hx hp h) (fun r s₁ hr => by obtain ⟨v, rfl, hv⟩ := hr; exact hv) fun _ _ e => e

theorem TSrc.name {x : Str} {px : Pos} {I : Addr} {fp wr : List Addr} {n : Nat} {P : Nat → Value → Prop} {St : Nat → Heap → Prop} (W : Walks prog w A I fp wr n P St) :
    TSrc prog w A (.Name x px) [x] I fp wr n (fun i m => ∃ v, P i v ∧ m x = some v) St where
  sub := W.sub
  frame := W.frame
  turn := fun i s cenv m₀ Q E hi hst hn hC hx hp hQ => by
    refine W.item i s _ E hi hst fun v h₁ tk₁ hP hst₁ hk₁ => ⟨v, rfl, ?_⟩
    have e0 : letOwnedTupleGo (.Name x px) (.ref I) v = pure () := rfl
    rw [e0]
    refine wpAny_pure ?_
    refine wpAny_assign_Name (wpAny_storeName_local (hx x (by simp)) (hn.at' fun o e => hk₁ _ o (fun q => hC (W.sub _ q)) e) (fun h₂ hn₂ hs₂ => ?_) hp)
    refine hQ h₂ _ _ (W.frame _ _ _ hst₁ fun b hb o e => hs₂.extBut b o (fun q => hC (q ▸ hb)) e) hn₂ ⟨v, hP, by simp⟩ fun b o hb hbC e => hs₂.extBut b o hbC (hk₁ b o hb e)
  done := W.done
  self := W.self

theorem TSrc.pair {a b : Str} {pa pb tp : Pos} {kk : Nat} {I : Addr} {fp wr : List Addr} {n : Nat} {Pt : Nat → Array Value → Prop} {St : Nat → Heap → Prop} {Mid : Nat → Addr → Heap → Prop}
    (W : WalksT prog w A I fp wr n Pt St Mid) (hh : A.handled = none) (hab : a ≠ b) (hP : ∀ i vals, Pt i vals → ∃ x y, vals = #[x, y]) :
    TSrc prog w A (.Tuple [.Name a pa, .Name b pb] kk tp) [a, b] I fp wr n (fun i m => ∃ x y, Pt i #[x, y] ∧ m a = some x ∧ m b = some y) St where
  sub := W.sub
  frame := W.frame
  turn := fun i s cenv m₀ Q E hi hst hn hC hx hp hQ => by
    refine W.item i s _ E hi hst fun T vals h₁ tk₁ hPt hT htup hmid hk₁ => ⟨_, rfl, ?_⟩
    obtain ⟨x, y, rfl⟩ := hP i vals hPt
    refine W.go _ _ _ i T _ _ _ hmid fun h₂ hst₂ hk₂ => ?_
    have htup₂ : h₂.IsTuple T #[x, y] := htup.at fun o e => hk₂ T o (W.apart i T h₁ hmid) e
    have hCw : cenv.locals ∉ wr := fun q => hC (W.sub _ q)
    refine kcp_assign hh htup₂ (hx a (by simp)) (hx b (by simp)) hp (hn.at' fun o e => hk₂ _ o hCw (hk₁ _ o hCw e)) fun h₃ tk₃ hn₃ hk₃ => ?_
    refine hQ h₃ _ _ (W.frame _ _ _ hst₂ fun c hc o e => hk₃ c o (fun q => hC (q ▸ hc)) e) hn₃ ⟨x, y, hPt, by simp [hab], by simp⟩ fun c o hc hcC e => hk₃ c o hcC (hk₂ c o hc (hk₁ c o hc e))
  done := W.done
  self := W.self
end

open PyProof.Rows.LCg (NsObj ns_obj) in
section
variable {prog : Program} {w : World} {A : Around} {E : Value → Shared → Prop} {s : Shared} {h₀ : Heap} {L : Addr} {m : Str → Option Value} {env : Env}

/-- the tests and the element, quiet: they change no object -/
structure Quiet (prog : Program) (w : World) (A : Around) (env : Env) (scope : Scope) (cl : List (Str × Addr)) (ifs : List PySem.Expr) (elt : PySem.Expr) (h₀ : Heap) (L : Addr) (m : Str → Option Value) (news : List (Addr × Obj)) (s₂ : Shared)
    (n : Nat) (B : Nat → (Str → Option Value) → Prop) (p : Nat → Bool) (G : Nat → Value → Prop) : Prop where
  tests : ∀ i C oC m₂ h tk (E' : Value → Shared → Prop), i < n → B i m₂ → NsObj oC m₂ → Fr h₀ L h m → News h₀ L h ((C, oC) :: news) →
    wpAny (model prog w) A (forIn ifs true fun c r => if r = true then do let ok ← isTrue c (compEnvC scope cl C env) (eval c (compEnvC scope cl C env)); pure (ForInStep.yield ok) else pure (ForInStep.yield r))
      (fun ok s₃ => ok = p i ∧ ∃ tk', s₃ = { s₂ with heap := h, toks := tk' }) E' { s₂ with heap := h, toks := tk }
  elt : ∀ i C oC m₂ h tk (E' : Value → Shared → Prop), i < n → p i = true → B i m₂ → NsObj oC m₂ → Fr h₀ L h m → News h₀ L h ((C, oC) :: news) →
    wpAny (model prog w) A (eval elt (compEnvC scope cl C env)) (fun v s₃ => G i v ∧ ∃ tk', s₃ = { s₂ with heap := h, toks := tk' }) E' { s₂ with heap := h, toks := tk }

theorem filter_range_succ (p : Nat → Bool) (i : Nat) : (List.range (i + 1)).filter p = (List.range i).filter p ++ (if p i = true then [i] else []) := by
  rw [List.range_succ, List.filter_append]
  cases h : p i <;> simp [h]

theorem comp_block {elt target iter : PySem.Expr} {ifs : List PySem.Expr} {names : List Str} {scope : Scope} {cl : List (Str × Addr)} {pos : Pos} {s₂ : Shared} {I : Addr} {fp wr : List Addr} {n : Nat}
    {B : Nat → (Str → Option Value) → Prop} {St : Nat → Heap → Prop} {news : List (Addr × Obj)} {p : Nat → Bool} {G : Nat → Value → Prop} {RR : Value → Addr → Result → Shared → Prop}
    (S : TSrc prog w A target names I fp wr n B St) (hsz : n ≤ 100000)
    (hcell : ∀ y ∈ scope.names, y.2 ≠ .cell) (hkind : scope.kind = .function) (hx : ∀ x ∈ names, scope.names.lookup x = some .local) (hst : St 0 s₂.heap) (hfp : ∀ b ∈ fp, b < s₂.heap.objs.size)
    (F : Fr h₀ L s₂.heap m) (N : News h₀ L s₂.heap news) (hLw : L ∉ wr) (hw₀ : ∀ b ∈ wr, h₀.get? b = none) (off : ∀ q ∈ news, q.1 ∉ wr)
    (Qt : Quiet prog w A env scope cl ifs elt h₀ L m news s₂ n B p G)
    (hRR : ∀ D C h tk m' ys ep, Fr h₀ L h m → News h₀ L h ((D, W.listOf ys.toArray ep) :: news) → h.Ns C m' → h₀.get? C = none → C ≠ L → C ≠ D → (∀ q ∈ news, q.1 ≠ C) → (∀ q ∈ news, q.1 < D) →
      Paired G ((List.range n).filter p) ys → RR (.ref D) C (.ok .next) { s₂ with heap := h, toks := tk }) :
    wpAny (model prog w) A (newList []) (fun acc s₃ => wpAny (model prog w) A (newFunctionEnv scope env.globals cl [] env.qual none .none (some env)) (fun cenv s₄ =>
      codeAny (model prog w) A (.compStart (.ListComp elt [⟨target, iter, ifs, 0⟩] scope pos) 0 (.ref I) acc { cenv with scope := relabel scope env }) (RR acc cenv.locals) s₄) E s₃) E s₂ := by
  refine wpAny_newObj_type (wpAny_newFunctionEnv hcell (by intro y hy; simp at hy) (fun h₁ hns₁ hsb₁ => ?_) hkind)
  dsimp only at hns₁ hsb₁ ⊢
  generalize hH2 : s₂.heap.push { cls := .type "list", dict := none, data := .seq ([] : List Value).toArray } = H2 at hns₁ hsb₁ ⊢
  have hC : H2.objs.size = s₂.heap.objs.size + 1 := by rw [← hH2, Heap.size_push]
  have hDC : s₂.heap.objs.size ≠ H2.objs.size := by rw [hC]; exact Nat.ne_of_lt (Nat.lt_succ_self _)
  have below : ∀ b, b < s₂.heap.objs.size → b ≠ H2.objs.size ∧ b ≠ s₂.heap.objs.size := fun b hb => ⟨by rw [hC]; exact Nat.ne_of_lt (Nat.lt_succ_of_lt hb), Nat.ne_of_lt hb⟩
  have hDf : s₂.heap.objs.size ∉ fp := fun hm => Nat.lt_irrefl _ (hfp _ hm)
  have hCf : H2.objs.size ∉ fp := fun hm => by have := hfp _ hm; rw [hC] at this; exact Nat.lt_irrefl _ (Nat.lt_of_succ_lt this)
  have hDw : s₂.heap.objs.size ∉ wr := fun q => hDf (S.sub _ q)
  have hCw : H2.objs.size ∉ wr := fun q => hCf (S.sub _ q)
  have old : ∀ b o, s₂.heap.get? b = some o → h₁.get? b = some o := fun b o e => hsb₁.extBut b o (below b (Heap.lt_size e)).1 (Heap.get?_push_of_some _ (hH2 ▸ Heap.get?_push_of_some _ e))
  have hacc : h₁.get? s₂.heap.objs.size = some (W.listOf #[] 0) := hsb₁.extBut _ _ hDC (Heap.get?_push_of_some _ (hH2 ▸ Heap.get?_push_size _ rfl))
  have hst₁ : St 0 h₁ := S.frame _ _ _ hst fun b _ o e => old b o e
  have fresh₀ : ∀ a, s₂.heap.objs.size ≤ a → h₀.get? a = none := fun a ha => by
    cases e : h₀.get? a with
    | none => rfl
    | some o' => exact absurd (Heap.lt_size (F.keep a o' e)) (Nat.not_lt.mpr ha)
  have hD₀ : h₀.get? s₂.heap.objs.size = none := fresh₀ _ (Nat.le_refl _)
  have hC₀ : h₀.get? H2.objs.size = none := fresh₀ _ (by rw [hC]; exact Nat.le_succ _)
  have hLlt : L < s₂.heap.objs.size := F.ns.lt
  have hDL : s₂.heap.objs.size ≠ L := Ne.symm (below L hLlt).2
  have hCL : H2.objs.size ≠ L := Ne.symm (below L hLlt).1
  have nlt : ∀ q ∈ news, q.1 < s₂.heap.objs.size := fun q hq => Heap.lt_size (N q hq).1
  have loop : ∀ s₃ : Shared, s₃ = { s₂ with heap := h₁, toks := s₂.toks + ([] : List (Str × Value)).length } →
      codeAny (model prog w) A (.compLoop (.ListComp elt [⟨target, iter, ifs, 0⟩] scope pos) 0 (.ref I) (.ref s₂.heap.objs.size) (compEnvC scope cl H2.objs.size env))
        (RR (.ref s₂.heap.objs.size) H2.objs.size) s₃ := by
    rintro s₃ rfl
    refine cl_loop
      (fun k s' => ∃ h' tk i ys m' ep, s' = { s₂ with heap := h', toks := tk } ∧ i ≤ n ∧ k = n + 1 - i ∧ St i h' ∧ Fr h₀ L h' m ∧ h'.Ns H2.objs.size m' ∧ News h₀ L h' ((s₂.heap.objs.size, W.listOf ys.toArray ep) :: news) ∧
        Paired G ((List.range i).filter p) ys) ?_ (n + 1)
      ⟨h₁, _, 0, [], _, 0, rfl, Nat.zero_le _, rfl, hst₁, F.keeps old, hns₁, fun q hq => ?_, .nil⟩
    · rintro k s' ⟨h', tk, i, ys, m', ep, rfl, hi, rfl, hst', F', hn', N', hP⟩
      by_cases hlt : i < n
      · refine S.turn' i hlt hst' hn' hCf (fun x hxx => lookup_relabel_local (hx x hxx)) (by simp [compEnvC, relabel, hkind]) fun h₂ tk₂ m₂ hst₂ hn₂ hB hk₂ => ?_
        obtain ⟨oC, heC, hoC⟩ := ns_obj hn₂
        have keepsOf : ∀ b o, b ∉ wr → b ≠ H2.objs.size → h'.get? b = some o → h₂.get? b = some o := hk₂
        have F₂ : Fr h₀ L h₂ m := ⟨F'.ns.at' fun o e => keepsOf _ o hLw (Ne.symm hCL) e, fun b o e => keepsOf b o (fun q => by rw [hw₀ b q] at e; cases e) (fun q => by rw [q, hC₀] at e; cases e) (F'.keep b o e), F'.above⟩
        have ND : News h₀ L h₂ ((s₂.heap.objs.size, W.listOf ys.toArray ep) :: news) := fun q hq => by
          refine ⟨?_, (N' q hq).2⟩
          rcases List.mem_cons.mp hq with rfl | hq'
          · exact keepsOf _ _ hDw hDC (N' _ hq).1
          · exact keepsOf _ _ (off q hq') (below _ (nlt q hq')).1 (N' q hq).1
        have NC : News h₀ L h₂ ((H2.objs.size, oC) :: news) := fun q hq => by
          rcases List.mem_cons.mp hq with rfl | hq'
          · exact ⟨heC, hCL, hC₀⟩
          · exact ND q (List.mem_cons_of_mem _ hq')
        refine wpAny_mono (Qt.tests i _ oC m₂ h₂ tk₂ _ hlt hB hoC F₂ NC) (fun ok s₃ h₃ => ?_) fun _ _ e => e
        obtain ⟨rfl, tk₃, rfl⟩ := h₃
        cases hp : p i with
        | false =>
          simp only [Bool.false_eq_true, if_false]
          refine ⟨n + 1 - (i + 1), by lia, h₂, tk₃, i + 1, ys, m₂, ep, rfl, hlt, rfl, hst₂, F₂, hn₂, ND, ?_⟩
          rw [filter_range_succ, hp]; simpa using hP
        | true =>
          simp only [if_true]
          refine wpAny_mono (Qt.elt i _ oC m₂ h₂ tk₃ _ hlt hp hB hoC F₂ NC) (fun v s₄ h₄ => ?_) fun _ _ e => e
          obtain ⟨hG, tk₄, rfl⟩ := h₄
          have hlen : ys.length ≤ i := by
            have e1 := hP.length
            have e2 := List.length_filter_le p (List.range i)
            rw [List.length_range] at e2
            lia
          have zD := (ND _ (List.Mem.head _)).1
          refine append_at (hsz := by rw [List.size_toArray, sizeLine_eq]; lia) zD fun h₅ hs₅ hD₅ => ?_
          refine ⟨n + 1 - (i + 1), by lia, h₅, tk₄, i + 1, ys ++ [v], m₂, ep + 1, rfl, hlt, rfl, S.frame _ _ _ hst₂ fun b hb o e => hs₅.extBut b o (fun q => hDf (q ▸ hb)) e,
            F₂.change hs₅ hDL hD₀, hn₂.sameBut hs₅ (Ne.symm hDC), fun q hq => ?_, ?_⟩
          · rcases List.mem_cons.mp hq with rfl | hq'
            · exact ⟨hD₅.trans (by rw [List.push_toArray]), hDL, hD₀⟩
            · exact ⟨hs₅.extBut _ _ (below _ (nlt q hq')).2 (ND q (List.mem_cons_of_mem _ hq')).1, (N q hq').2⟩
          · rw [filter_range_succ, hp]; exact hP.snoc hG
      · obtain rfl : i = n := Nat.le_antisymm hi (Nat.not_lt.mp hlt)
        refine S.done _ _ _ hst' fun h₂ tk₂ hk₂ => ?_
        refine hRR _ _ h₂ tk₂ m' ys ep ⟨F'.ns.at' fun o e => hk₂ _ o hLw e, fun b o e => hk₂ b o (fun q => by rw [hw₀ b q] at e; cases e) (F'.keep b o e), F'.above⟩ (fun q hq => ⟨?_, (N' q hq).2⟩)
          (hn'.at' fun o e => hk₂ _ o hCw e) hC₀ hCL (Ne.symm hDC) (fun q hq => (below _ (nlt q hq)).1) nlt hP
        rcases List.mem_cons.mp hq with rfl | hq'
        · exact hk₂ _ _ hDw (N' _ hq).1
        · exact hk₂ _ _ (off q hq') (N' q hq).1
    · rcases List.mem_cons.mp hq with rfl | hq
      · exact ⟨hacc, hDL, hD₀⟩
      · exact ⟨old _ _ (N q hq).1, (N q hq).2⟩
  exact codeAny_compStart_list (loop _ rfl) (S.self 0 _ _ _ hst₁ (loop _ rfl))
end

open PyProof.Rows.LCg (NsObj ns_obj) in
section
variable {prog : Program} {w : World} {A : Around} {E : Value → Shared → Prop} {s : Shared} {h₀ : Heap} {L : Addr} {m : Str → Option Value} {env : Env}

def CompAt (prog : Program) (w : World) (A : Around) (env : Env) (scope : Scope) (cl : List (Str × Addr)) (target : PySem.Expr) (ifs : List PySem.Expr) (elt : PySem.Expr) (names : List Str) (h₀ : Heap) (L : Addr) (m : Str → Option Value)
    (Fin : Shared → List (Addr × Obj) → Nat → (Nat → Bool) → (Nat → Value → Prop) → Prop) (it : Value) (s₂ : Shared) : Prop :=
  ∃ I fp wr n B St news p G, it = .ref I ∧ TSrc prog w A target names I fp wr n B St ∧ n ≤ 100000 ∧ St 0 s₂.heap ∧ (∀ b ∈ fp, b < s₂.heap.objs.size) ∧ Fr h₀ L s₂.heap m ∧ News h₀ L s₂.heap news ∧ L ∉ wr ∧
    (∀ b ∈ wr, h₀.get? b = none) ∧ (∀ q ∈ news, q.1 ∉ wr) ∧ Quiet prog w A env scope cl ifs elt h₀ L m news s₂ n B p G ∧ Fin s₂ news n p G

def FinV (h₀ : Heap) (L : Addr) (m : Str → Option Value) (Q : Value → Shared → Prop) (s₂ : Shared) (news : List (Addr × Obj)) (n : Nat) (p : Nat → Bool) (G : Nat → Value → Prop) : Prop :=
  ∀ D h tk ys ep, Fr h₀ L h m → News h₀ L h ((D, W.listOf ys.toArray ep) :: news) → (∀ q ∈ news, q.1 < D) → Paired G ((List.range n).filter p) ys → Q (.ref D) { s₂ with heap := h, toks := tk }
def FinN (h₀ : Heap) (L : Addr) (m : Str → Option Value) (y : Str) (Q : Flow → Shared → Prop) (s₂ : Shared) (news : List (Addr × Obj)) (n : Nat) (p : Nat → Bool) (G : Nat → Value → Prop) : Prop :=
  ∀ D h tk ys ep, Fr h₀ L h (fun z => if z = y then some (.ref D) else m z) → News h₀ L h ((D, W.listOf ys.toArray ep) :: news) → (∀ q ∈ news, q.1 < D) → Paired G ((List.range n).filter p) ys → Q .next { s₂ with heap := h, toks := tk }

theorem ListComp_at {elt target iter : PySem.Expr} {ifs : List PySem.Expr} (names : List Str) {scope : Scope} {cl : List (Str × Addr)} {pos : Pos} {Q : Value → Shared → Prop} (_F₀ : Fr h₀ L s.heap m)
    (hclos : closureFor scope env = pure cl) (hcell : ∀ y ∈ scope.names, y.2 ≠ .cell) (hkind : scope.kind = .function)
    (hnames : ∀ y ∈ scope.names, y.2 = .local → scope.names.lookup y.1 = some .local) (hx : ∀ x ∈ names, scope.names.lookup x = some .local)
    (h : wpAny (model prog w) A (eval iter env) (fun xv s₁ => wpAny (model prog w) A (pyIter xv) (CompAt prog w A env scope cl target ifs elt names h₀ L m (FinV h₀ L m Q)) E s₁) E s)
    (hs : ∀ x, foldedSetIterable iter env x = pure x := by intro _; rfl) :
    wpAny (model prog w) A (eval (.ListComp elt [⟨target, iter, ifs, 0⟩] scope pos) env) Q E s := by
  rw [eval_ListComp]
  refine wpAny_comprehension_free (use := none) rfl hs hclos hkind hnames (wpAny_mono h (fun xv s₁ h₁ => wpAny_mono h₁ (fun it s₂ h₂ => ?_) fun _ _ e => e) fun _ _ e => e)
  obtain ⟨I, fp, wr, n, B, St, news, p, G, rfl, S, hsz, hst, hfp, F, N, hLw, hw₀, off, Qt, fin⟩ := h₂
  refine comp_block (RR := fun acc C => compPost (model prog w) A E none Q acc C) S hsz hcell hkind hx hst hfp F N hLw hw₀ off Qt ?_
  intro D C h tk m' ys ep F' N' hn hC₀ hCL hCD offC hlt hP
  refine ⟨m', hn, fun h'' hs'' => fin D h'' tk ys ep (F'.change hs'' hCL hC₀) (fun q hq => ⟨hs''.extBut _ _ ?_ (N' q hq).1, (N' q hq).2⟩) hlt hP⟩
  rcases List.mem_cons.mp hq with rfl | hq
  · exact Ne.symm hCD
  · exact offC q hq

theorem Assign_ListComp_at {elt target iter : PySem.Expr} {ifs : List PySem.Expr} (names : List Str) {y : Str} {py : Pos} {scope : Scope} {cl : List (Str × Addr)} {pos spos : Pos} {Q : Flow → Shared → Prop} (_F₀ : Fr h₀ L s.heap m) (hLe : env.locals = L)
    (hsw : swapsWith (.ListComp elt [⟨target, iter, ifs, 0⟩] scope pos) (some (.Name y py)) spos.line env = pure true)
    (hclos : closureFor scope env = pure cl) (hcell : ∀ z ∈ scope.names, z.2 ≠ .cell) (hkind : scope.kind = .function)
    (hnames : ∀ z ∈ scope.names, z.2 = .local → scope.names.lookup z.1 = some .local) (hx : ∀ x ∈ names, scope.names.lookup x = some .local)
    (hy : env.kindOf y = some .local) (hp : (env.scope.kind == .class || (env.scope.kind == .module && env.locals != env.globals)) = false)
    (h : wpAny (model prog w) A (eval iter env) (fun xv s₁ => wpAny (model prog w) A (pyIter xv) (CompAt prog w A env scope cl target ifs elt names h₀ L m (FinN h₀ L m y Q)) E s₁) E s)
    (hs : ∀ x, foldedSetIterable iter env x = pure x := by intro _; rfl) :
    wpAny (model prog w) A (exec (.Assign [.Name y py] (.ListComp elt [⟨target, iter, ifs, 0⟩] scope pos) spos) env) Q E s := by
  subst hLe
  rw [exec_Assign_Name_used _ _ _ _ hsw]
  refine wpAny_bind (wpAny_standAt (wpAny_bind ?_))
  show wpAny _ A (do let _ ← comprehension (.ListComp elt [⟨target, iter, ifs, 0⟩] scope pos) scope env _ (newList []) false (eval iter env) (some (assign (.Name y py) env))) _ _ s
  refine wpAny_bind (wpAny_mono (wpAny_comprehension_free (use := some (assign (.Name y py) env)) (Q := fun _ s' => Q .next s') rfl hs hclos hkind hnames
    (wpAny_mono h (fun xv s₁ h₁ => wpAny_mono h₁ (fun it s₂ h₂ => ?_) fun _ _ e => e) fun _ _ e => e)) (fun _ s' hq => wpAny_pure (wpAny_pure hq)) fun _ _ e => e)
  obtain ⟨I, fp, wr, n, B, St, news, p, G, rfl, S, hsz, hst, hfp, F, N, hLw, hw₀, off, Qt, fin⟩ := h₂
  refine comp_block (RR := fun acc C => compPost (model prog w) A E (some (assign (.Name y py) env)) (fun _ s' => Q .next s') acc C) S hsz hcell hkind hx hst hfp F N hLw hw₀ off Qt ?_
  intro D C h' tk m' ys ep F' N' hn hC₀ hCL hCD offC hlt hP
  show wpAny _ A (assign (.Name y py) env (.ref D)) _ _ _
  refine wpAny_assign_Name (wpAny_storeName_local hy F'.ns (fun h₂ hn₂ hs₂ => ?_) hp)
  have hL₀ : h₀.get? env.locals = none := Heap.get?_none_of_le F'.above
  have F₂ : Fr h₀ env.locals h₂ (fun z => if z = y then some (.ref D) else m z) := ⟨hn₂, fun b o e => hs₂.extBut b o (fun q => by rw [q, hL₀] at e; cases e) (F'.keep b o e), F'.above⟩
  refine ⟨m', hn.sameBut hs₂ hCL, fun h'' hs'' => fin D h'' _ ys ep (F₂.change hs'' hCL hC₀) (fun q hq => ?_) hlt hP⟩
  have z : h₂.get? q.1 = some q.2 := hs₂.extBut _ _ (N' q hq).2.1 (N' q hq).1
  refine ⟨hs''.extBut _ _ ?_ z, (N' q hq).2⟩
  rcases List.mem_cons.mp hq with rfl | hq
  · exact Ne.symm hCD
  · exact offC q hq

section
variable {scope : Scope} {cl : List (Str × Addr)} {ifs : List PySem.Expr} {elt : PySem.Expr} {Fin : Shared → List (Addr × Obj) → Nat → (Nat → Bool) → (Nat → Value → Prop) → Prop} {news : List (Addr × Obj)}

/-- the source is a list of the ledger -/
theorem src_list {x : Str} {px : Pos} {l : Addr} {vs : List Value} {k : Nat} (p : Nat → Bool) (G : Nat → Value → Prop) (hh : A.handled = none) (F : Fr h₀ L s.heap m) (N : News h₀ L s.heap news) (hm : (l, W.listOf vs.toArray k) ∈ news)
    (hsz : vs.length ≤ 100000) (Qt : ∀ s₂ : Shared, (∃ h, s₂ = { s with heap := h }) → Quiet prog w A env scope cl ifs elt h₀ L m news s₂ vs.length (fun i m => ∃ v, vs[i]? = some v ∧ m x = some v) p G)
    (fin : ∀ s₂ : Shared, (∃ h, s₂ = { s with heap := h }) → Fin s₂ news vs.length p G) :
    wpAny (model prog w) A (pyIter (.ref l)) (CompAt prog w A env scope cl (.Name x px) ifs elt [x] h₀ L m Fin) E s := by
  have hl : s.heap.IsList l vs.toArray := ⟨_, N.get hm, rfl, k, rfl⟩
  have hlt : l < s.heap.objs.size := Heap.lt_size (N.get hm)
  refine wpAny_pyIter_list hl ?_
  have W0 := Walks.list (prog := prog) (w := w) hh s.heap.objs.size l (Nat.ne_of_lt hlt) vs.toArray
  have e : vs.toArray.size = vs.length := by simp
  rw [e] at W0
  have up : ∀ b o, s.heap.get? b = some o → (s.heap.push { cls := .type "list_iterator", data := .fields #[.ref l, .int 0 0] }).get? b = some o := fun b o e => Heap.get?_push_of_some _ e
  refine ⟨s.heap.objs.size, _, _, vs.length, _, _, news, p, G, rfl, TSrc.name W0, hsz, ⟨⟨_, Heap.get?_push_size _ rfl, rfl, rfl⟩, hl.push _⟩, (fun b hb => ?_), F.keeps up, N.grown up, (fun q => ?_), (fun b hb => ?_), (fun q hq hb => ?_), ?_, fin _ ⟨_, rfl⟩⟩
  · rw [Heap.size_push]
    rcases List.mem_cons.mp hb with rfl | hb
    · exact Nat.lt_succ_self _
    · rw [List.mem_singleton.mp hb]; exact Nat.lt_succ_of_lt hlt
  · exact absurd F.ns.lt ((List.mem_singleton.mp q) ▸ Nat.lt_irrefl _)
  · rw [List.mem_singleton.mp hb]; exact next_is_new F
  · exact absurd (Heap.lt_size (N q hq).1) ((List.mem_singleton.mp hb) ▸ Nat.lt_irrefl _)
  · have := Qt { s with heap := s.heap.push { cls := .type "list_iterator", data := .fields #[.ref l, .int 0 0] } } ⟨_, rfl⟩
    simpa using this

/-- the source is enumerate of a list of the ledger -/
theorem src_enum {a b : Str} {pa pb tp : Pos} {kk : Nat} {l : Addr} {vs : List Value} {k : Nat} (p : Nat → Bool) (G : Nat → Value → Prop) (hh : A.handled = none) (hab : a ≠ b) (F : Fr h₀ L s.heap m) (N : News h₀ L s.heap news) (hm : (l, W.listOf vs.toArray k) ∈ news)
    (hsz : vs.length ≤ 100000) (Qt : ∀ s₂ : Shared, (∃ h, s₂ = { s with heap := h }) → Quiet prog w A env scope cl ifs elt h₀ L m news s₂ vs.length (fun i m => ∃ v t, vs[i]? = some v ∧ m a = some (.int (i : Nat) t) ∧ m b = some v) p G)
    (fin : ∀ s₂ : Shared, (∃ h, s₂ = { s with heap := h }) → Fin s₂ news vs.length p G) :
    wpAny (model prog w) A (call (.type "enumerate") [.ref l]) (fun xv s₁ => wpAny (model prog w) A (pyIter xv) (CompAt prog w A env scope cl (.Tuple [.Name a pa, .Name b pb] kk tp) ifs elt [a, b] h₀ L m Fin) E s₁) E s := by
  have hl : s.heap.IsList l vs.toArray := ⟨_, N.get hm, rfl, k, rfl⟩
  have hlt : @LT.lt Nat _ l s.heap.objs.size := Heap.lt_size (N.get hm)
  refine call_enumerate_list hl fun h' he hit hsz' hk => ?_
  refine wpAny_pyIter_enum he ?_
  have W0 := WalksT.enumerate (prog := prog) (w := w) hh (s.heap.objs.size + 1) s.heap.objs.size l (neN (by lia)) (neN (by lia)) (neN (by lia)) vs.toArray
  have e : vs.toArray.size = vs.length := by simp
  rw [e] at W0
  have T0 := TSrc.pair (pa := pa) (pb := pb) (tp := tp) (kk := kk) W0 hh hab (fun i vals hv => by obtain ⟨t, x, _, hv⟩ := hv; exact ⟨_, _, hv⟩)
  have hL : @LT.lt Nat _ L s.heap.objs.size := F.ns.lt
  refine ⟨s.heap.objs.size + 1, _, _, vs.length, _, _, news, p, G, rfl, T0, hsz, ⟨⟨_, he⟩, hit, hl.at fun o e => hk _ o e⟩, (fun b hb => ?_), F.keeps hk, N.grown hk, (fun q => ?_), (fun b hb => ?_), (fun q hq hb => ?_), ?_, fin _ ⟨_, rfl⟩⟩
  · show b < h'.objs.size
    rw [hsz']
    simp at hb
    rcases hb with rfl | rfl | rfl
    · exact Nat.lt_succ_self _
    · exact Nat.lt_succ_of_lt (Nat.lt_succ_self _)
    · exact Nat.lt_succ_of_lt (Nat.lt_succ_of_lt hlt)
  · simp at q
    rcases q with rfl | rfl
    · exact absurd hL (Nat.not_lt.mpr (Nat.le_succ _))
    · exact Nat.lt_irrefl _ hL
  · have : @LE.le Nat _ s.heap.objs.size b := by
      simp at hb
      rcases hb with rfl | rfl
      · exact Nat.le_succ _
      · exact Nat.le_refl _
    exact Heap.get?_none_of_le (Nat.le_trans (Nat.le_trans F.above (Nat.le_of_lt hL)) this)
  · have hq2 : @LT.lt Nat _ q.1 s.heap.objs.size := Heap.lt_size (N q hq).1
    simp at hb
    rcases hb with e | e
    · rw [e] at hq2; exact absurd hq2 (Nat.not_lt.mpr (Nat.le_succ _))
    · rw [e] at hq2; exact Nat.lt_irrefl _ hq2
  · have q := Qt { s with heap := h' } ⟨_, rfl⟩
    refine ⟨fun i C oC m₂ h tk E' hi hB => q.tests i C oC m₂ h tk E' hi ?_, fun i C oC m₂ h tk E' hi hp hB => q.elt i C oC m₂ h tk E' hi hp ?_⟩
    all_goals
      obtain ⟨x, y, ⟨t, v, hv, hxy⟩, h1, h2⟩ := hB
      simp at hxy
      obtain ⟨rfl, rfl⟩ := hxy
      exact ⟨_, t, by simpa using hv, h1, h2⟩

/-- the source is zip of two lists of the ledger -/
theorem src_zip {a b : Str} {pa pb tp : Pos} {kk : Nat} {l1 l2 : Addr} {vs us : List Value} {k1 k2 : Nat} (p : Nat → Bool) (G : Nat → Value → Prop) (hh : A.handled = none) (hab : a ≠ b) (F : Fr h₀ L s.heap m) (N : News h₀ L s.heap news)
    (hm1 : (l1, W.listOf vs.toArray k1) ∈ news) (hm2 : (l2, W.listOf us.toArray k2) ∈ news) (hlen : vs.length = us.length)
    (hsz : vs.length ≤ 100000) (Qt : ∀ s₂ : Shared, (∃ h, s₂ = { s with heap := h }) → Quiet prog w A env scope cl ifs elt h₀ L m news s₂ vs.length (fun i m => ∃ v u, vs[i]? = some v ∧ us[i]? = some u ∧ m a = some v ∧ m b = some u) p G)
    (fin : ∀ s₂ : Shared, (∃ h, s₂ = { s with heap := h }) → Fin s₂ news vs.length p G) :
    wpAny (model prog w) A (call (.type "zip") [.ref l1, .ref l2]) (fun xv s₁ => wpAny (model prog w) A (pyIter xv) (CompAt prog w A env scope cl (.Tuple [.Name a pa, .Name b pb] kk tp) ifs elt [a, b] h₀ L m Fin) E s₁) E s := by
  have hl1 : s.heap.IsList l1 vs.toArray := ⟨_, N.get hm1, rfl, k1, rfl⟩
  have hl2 : s.heap.IsList l2 us.toArray := ⟨_, N.get hm2, rfl, k2, rfl⟩
  have hlt1 : @LT.lt Nat _ l1 s.heap.objs.size := Heap.lt_size (N.get hm1)
  have hlt2 : @LT.lt Nat _ l2 s.heap.objs.size := Heap.lt_size (N.get hm2)
  refine call_zip_2 hl1 hl2 fun h' hz hTI hTO hi1 hi2 hsz' hk => ?_
  refine wpAny_pyIter_zip hz ?_
  have D0 : ZipApart (s.heap.objs.size + 4) (s.heap.objs.size + 2) (s.heap.objs.size + 3) s.heap.objs.size (s.heap.objs.size + 1) l1 l2 := by
    constructor <;> exact neN (by lia)
  have W0 := WalksT.zip2 (prog := prog) (w := w) hh _ _ _ _ _ _ _ D0 vs.toArray us.toArray
  have e : min vs.toArray.size us.toArray.size = vs.length := by simp [hlen]
  rw [e] at W0
  have T0 := TSrc.pair (pa := pa) (pb := pb) (tp := tp) (kk := kk) W0 hh hab (fun i vals hv => by obtain ⟨t, x, _, _, hv⟩ := hv; exact ⟨_, _, hv⟩)
  have hL : @LT.lt Nat _ L s.heap.objs.size := F.ns.lt
  refine ⟨s.heap.objs.size + 4, _, _, vs.length, _, _, news, p, G, rfl, T0, hsz, ⟨hz, hTI, ⟨_, _, hTO⟩, hi1, hi2, hl1.at fun o e => hk _ o e, hl2.at fun o e => hk _ o e⟩, (fun b hb => ?_), F.keeps hk, N.grown hk, (fun q => ?_), (fun b hb => ?_), (fun q hq hb => ?_), ?_, fin _ ⟨_, rfl⟩⟩
  · show b < h'.objs.size
    rw [hsz']
    have q0 : ∀ c : Nat, c < s.heap.objs.size + 5 → @LT.lt Nat _ c (s.heap.objs.size + 5) := fun c h => h
    simp at hb
    rcases hb with rfl | rfl | rfl | rfl | rfl | rfl | rfl <;> exact q0 _ (by lia)
  · have hw9 : ∀ c : Nat, s.heap.objs.size ≤ c → L = c → False := fun c h e => by rw [e] at hL; lia
    simp at q
    rcases q with e | e | e | e <;> exact hw9 _ (by lia) e
  · have : @LE.le Nat _ s.heap.objs.size b := by
      have q0 : ∀ c : Nat, s.heap.objs.size ≤ c → @LE.le Nat _ s.heap.objs.size c := fun c h => h
      simp at hb
      rcases hb with rfl | rfl | rfl | rfl <;> exact q0 _ (by lia)
    exact Heap.get?_none_of_le (Nat.le_trans (Nat.le_trans F.above (Nat.le_of_lt hL)) this)
  · have hq2 : @LT.lt Nat _ q.1 s.heap.objs.size := Heap.lt_size (N q hq).1
    have hw9 : ∀ c : Nat, s.heap.objs.size ≤ c → q.1 = c → False := fun c h e => by rw [e] at hq2; lia
    simp at hb
    rcases hb with e | e | e | e <;> exact hw9 _ (by lia) e
  · have q := Qt { s with heap := h' } ⟨_, rfl⟩
    refine ⟨fun i C oC m₂ h tk E' hi hB => q.tests i C oC m₂ h tk E' hi ?_, fun i C oC m₂ h tk E' hi hp hB => q.elt i C oC m₂ h tk E' hi hp ?_⟩
    all_goals
      obtain ⟨x, y, ⟨v, u, hv, hu, hxy⟩, h1, h2⟩ := hB
      simp at hxy
      obtain ⟨rfl, rfl⟩ := hxy
      exact ⟨_, _, by simpa using hv, by simpa using hu, h1, h2⟩
end
end

end
section
structure Up where
  th : Option Nat
  ix : Int
  vl : Option Int
  deriving Inhabited
structure Cell where
  wh : Nat
  pl : Nat
  op : Bool
  vl : Option Int
  deriving Inhabited
/-- what the law's objects hold: the grounds' stacks, their open variables, the variables; the law's own mirror -/
structure Dt where
  gst : List (List Int)
  opn : List (List Nat)
  ups : List Up
  kn : Nat
  mst : List (List Int)
  cel : List Cell

inductive Role where
  | S | G | C | K
  | mir (i : Nat) | gi (i : Nat) | gd (i : Nat) | gs (i : Nat) | go (i : Nat)
  | cl (k : Nat) | ui (k : Nat) | ud (k : Nat)
  deriving DecidableEq

def Ok (d : Dt) : Role → Prop
  | .S => True | .G => True | .C => True | .K => True
  | .mir i => i < d.mst.length
  | .gi i => i < d.gst.length | .gd i => i < d.gst.length | .gs i => i < d.gst.length | .go i => i < d.gst.length
  | .cl k => k < d.cel.length
  | .ui k => k < d.ups.length | .ud k => k < d.ups.length

def OptVal (v : Value) : Option Int → Prop
  | none => v = .none
  | some i => ∃ t, v = .int i t
def thOf (A : Role → Addr) : Option Nat → Value
  | none => .none
  | some i => .ref (A (.gi i))
def upAt (d : Dt) (k : Nat) : Up := d.ups.getD k default
def celAt (d : Dt) (k : Nat) : Cell := d.cel.getD k default
def opnAt (d : Dt) (i : Nat) : List Nat := d.opn.getD i []
def gstAt (d : Dt) (i : Nat) : List Int := d.gst.getD i []
def mstAt (d : Dt) (i : Nat) : List Int := d.mst.getD i []
def row (f : Nat → Addr) (n : Nat) : List Addr := (List.range n).map f

def objOf (A : Role → Addr) (d : Dt) : Role → Obj → Prop
  | .S, o => ∃ n, o = W.listOf (refs (row (fun i => A (.mir i)) d.mst.length)).toArray n
  | .G, o => ∃ n, o = W.listOf (refs (row (fun i => A (.gi i)) d.gst.length)).toArray n
  | .C, o => ∃ n, o = W.listOf (refs (row (fun k => A (.cl k)) d.cel.length)).toArray n
  | .K, o => ∃ n, o = W.listOf (refs (row (fun k => A (.ui k)) d.kn)).toArray n
  | .mir i, o => ∃ vs n, IntsAre vs (mstAt d i) ∧ o = W.listOf vs.toArray n
  | .gi i, o => o = instObj 100 (A (.gd i))
  | .gd i, o => GroundDict o (A (.gs i)) (A (.go i))
  | .gs i, o => ∃ vs n, IntsAre vs (gstAt d i) ∧ o = W.listOf vs.toArray n
  | .go i, o => ∃ n, o = W.listOf (refs ((opnAt d i).map fun k => A (.ui k))).toArray n
  | .cl k, o => ∃ t1 t2 v n, OptVal v (celAt d k).vl ∧ o = W.listOf [.int (celAt d k).wh t1, .int (celAt d k).pl t2, .bool (celAt d k).op, v].toArray n
  | .ui k, o => o = instObj 81 (A (.ud k))
  | .ud k, o => ∃ vl, OptVal vl (upAt d k).vl ∧ UpDict o (thOf A (upAt d k).th) (upAt d k).ix vl

/-- the ledger bears the data -/
structure H (news : List (Addr × Obj)) (A : Role → Addr) (d : Dt) : Prop where
  inj : ∀ r r', Ok d r → Ok d r' → A r = A r' → r = r'
  has : ∀ r, Ok d r → ∃ o, (A r, o) ∈ news ∧ objOf A d r o

/-- sizes and shapes that every step keeps -/
structure Wf (d : Dt) : Prop where
  n2 : d.opn.length = d.gst.length
  nm : d.mst.length = d.gst.length
  kn : d.kn ≤ d.ups.length
  ck : d.cel.length = d.kn
  few : d.ups.length ≤ 300
  gfew : d.gst.length ≤ 10
  ofew : ∀ i, (opnAt d i).length ≤ 300
  gfit : ∀ i, (gstAt d i).length ≤ 300
  mfit : ∀ i, (mstAt d i).length ≤ 300
  ok : ∀ i k, k ∈ opnAt d i → k < d.ups.length
  op : ∀ i k, k ∈ opnAt d i → (upAt d k).th = some i ∧ 0 ≤ (upAt d k).ix ∧ (upAt d k).ix < (gstAt d i).length ∧ (upAt d k).vl = none
  nd : ∀ i, (opnAt d i).Nodup
  th : ∀ k, k < d.ups.length → ∀ g, (upAt d k).th = some g → g < d.gst.length

theorem H.ne {news : List (Addr × Obj)} {A : Role → Addr} {d : Dt} (h : H news A d) {r r' : Role} (hr : Ok d r) (hr' : Ok d r') (e : r ≠ r') : A r ≠ A r' := fun q => e (h.inj r r' hr hr' q)
theorem H.mono {news news' : List (Addr × Obj)} {A : Role → Addr} {d : Dt} (h : H news A d) (k : ∀ p ∈ news, p ∈ news') : H news' A d :=
  ⟨h.inj, fun r hr => let ⟨o, a, b⟩ := h.has r hr; ⟨o, k _ a, b⟩⟩
/-- one object turned -/
theorem H.put {news : List (Addr × Obj)} {A : Role → Addr} {d d' : Dt} (h : H news A d) (r : Role) (o : Obj) (hok : ∀ r', Ok d' r' ↔ Ok d r') (hr : Ok d r) (ho : objOf A d' r o)
    (hother : ∀ r', r' ≠ r → Ok d r' → ∀ o', objOf A d r' o' → objOf A d' r' o') : H (put (A r) o news) A d' where
  inj := fun a b ha hb e => h.inj a b ((hok a).mp ha) ((hok b).mp hb) e
  has := fun r' hr' => by
    by_cases e : r' = r
    · subst e; exact ⟨o, mem_put_self, ho⟩
    · have h' := (hok r').mp hr'
      obtain ⟨o', a, b⟩ := h.has r' h'
      exact ⟨o', mem_put a (h.ne h' hr e), hother r' e h' o' b⟩
/-- what else stood in the ledger still stands -/
def Kept (A : Role → Addr) (d : Dt) (news news' : List (Addr × Obj)) : Prop := ∀ p ∈ news, (∀ r, Ok d r → p.1 ≠ A r) → p ∈ news'
theorem Kept.refl {A : Role → Addr} {d : Dt} {news : List (Addr × Obj)} : Kept A d news news := fun _ h _ => h
theorem Kept.put {A : Role → Addr} {d : Dt} {news : List (Addr × Obj)} {r : Role} {o : Obj} (hr : Ok d r) : Kept A d news (put (A r) o news) := fun _ h k => mem_put h (k r hr)
theorem Kept.mono {A : Role → Addr} {d : Dt} {a b c : List (Addr × Obj)} (h : Kept A d a b) (k : ∀ p ∈ b, p ∈ c) : Kept A d a c := fun p hp hq => k p (h p hp hq)
/-- the roles of d stand where they stood; the new ones are new -/
structure Ext (A : Role → Addr) (d : Dt) (news : List (Addr × Obj)) (A' : Role → Addr) (d' : Dt) : Prop where
  sub : ∀ r, Ok d r → Ok d' r
  same : ∀ r, Ok d r → A' r = A r
  new : ∀ r, Ok d' r → ¬ Ok d r → ∀ p ∈ news, p.1 ≠ A' r
theorem Ext.refl {A : Role → Addr} {d : Dt} {news : List (Addr × Obj)} : Ext A d news A d := ⟨fun _ h => h, fun _ _ => rfl, fun _ h h' => absurd h h'⟩
theorem Ext.eq {A : Role → Addr} {d d' : Dt} {news : List (Addr × Obj)} (hok : ∀ r', Ok d' r' ↔ Ok d r') : Ext A d news A d' := ⟨fun r h => (hok r).mpr h, fun _ _ => rfl, fun r h h' => absurd ((hok r).mp h) h'⟩
theorem Ext.trans {A A' A'' : Role → Addr} {d d' d'' : Dt} {a b : List (Addr × Obj)} (h : Ext A d a A' d') (h' : Ext A' d' b A'' d'') (k : Kept A d a b) (hA : ∀ p ∈ a, (∃ r, Ok d r ∧ p.1 = A r) → ∃ o, (p.1, o) ∈ b) : Ext A d a A'' d'' where
  sub := fun r hr => h'.sub r (h.sub r hr)
  same := fun r hr => (h'.same r (h.sub r hr)).trans (h.same r hr)
  new := fun r hr hn p hp => by
    by_cases q : Ok d' r
    · rw [h'.same r q]; exact h.new r q hn p hp
    · by_cases e : ∃ r', Ok d r' ∧ p.1 = A r'
      · obtain ⟨o, ho⟩ := hA p hp e
        exact h'.new r hr q (p.1, o) ho
      · exact h'.new r hr q p (k p hp fun r' hr' e' => e ⟨r', hr', e'⟩)
theorem Kept.trans {A A' : Role → Addr} {d d' : Dt} {a b c : List (Addr × Obj)} (k : Kept A d a b) (e : Ext A d a A' d') (k' : Kept A' d' b c) : Kept A d a c := fun p hp hq => by
  refine k' p (k p hp hq) fun r hr => ?_
  by_cases q : Ok d r
  · rw [e.same r q]; exact hq r q
  · exact e.new r hr q p hp
theorem H.live {news : List (Addr × Obj)} {A A' : Role → Addr} {d d' : Dt} {a : List (Addr × Obj)} (h : H news A' d') (e : Ext A d a A' d') : ∀ p ∈ a, (∃ r, Ok d r ∧ p.1 = A r) → ∃ o, (p.1, o) ∈ news := by
  rintro p _ ⟨r, hr, q⟩
  obtain ⟨o, ho, _⟩ := h.has r (e.sub r hr)
  exact ⟨o, by rw [q, ← e.same r hr]; exact ho⟩

section
variable {news : List (Addr × Obj)} {A : Role → Addr} {d : Dt}
theorem H.ground (h : H news A d) {i : Nat} (hi : i < d.gst.length) : GroundAt news (A (.gi i)) (A (.gs i)) (A (.go i)) := by
  obtain ⟨o, a, b⟩ := h.has (.gi i) hi
  obtain ⟨o', a', b'⟩ := h.has (.gd i) hi
  have e : o = instObj 100 (A (.gd i)) := b
  subst e
  exact ⟨_, _, a, a', b'⟩
theorem H.open (h : H news A d) {i : Nat} (hi : i < d.gst.length) : ∃ n, (A (.go i), W.listOf (refs ((opnAt d i).map fun k => A (.ui k))).toArray n) ∈ news := by
  obtain ⟨o, a, n, b⟩ := h.has (.go i) hi
  exact ⟨n, b ▸ a⟩
theorem H.gstack (h : H news A d) {i : Nat} (hi : i < d.gst.length) : ∃ vs n, IntsAre vs (gstAt d i) ∧ (A (.gs i), W.listOf vs.toArray n) ∈ news := by
  obtain ⟨o, a, vs, n, hi, b⟩ := h.has (.gs i) hi
  exact ⟨vs, n, hi, b ▸ a⟩
theorem H.mirror (h : H news A d) {i : Nat} (hi : i < d.mst.length) : ∃ vs n, IntsAre vs (mstAt d i) ∧ (A (.mir i), W.listOf vs.toArray n) ∈ news := by
  obtain ⟨o, a, vs, n, hi, b⟩ := h.has (.mir i) hi
  exact ⟨vs, n, hi, b ▸ a⟩
theorem H.up (h : H news A d) {k : Nat} (hk : k < d.ups.length) : ∃ o vl, (A (.ui k), instObj 81 (A (.ud k))) ∈ news ∧ (A (.ud k), o) ∈ news ∧ OptVal vl (upAt d k).vl ∧ UpDict o (thOf A (upAt d k).th) (upAt d k).ix vl := by
  obtain ⟨o, a, b⟩ := h.has (.ui k) hk
  obtain ⟨o', a', vl, b', c'⟩ := h.has (.ud k) hk
  have e : o = instObj 81 (A (.ud k)) := b
  subst e
  exact ⟨o', vl, a, a', b', c'⟩
theorem H.cell (h : H news A d) {k : Nat} (hk : k < d.cel.length) : ∃ t1 t2 v n, OptVal v (celAt d k).vl ∧ (A (.cl k), W.listOf [.int (celAt d k).wh t1, .int (celAt d k).pl t2, .bool (celAt d k).op, v].toArray n) ∈ news := by
  obtain ⟨o, a, t1, t2, v, n, b, c⟩ := h.has (.cl k) hk
  exact ⟨t1, t2, v, n, b, c ▸ a⟩
theorem H.lS (h : H news A d) : ∃ n, (A .S, W.listOf (refs (row (fun i => A (.mir i)) d.mst.length)).toArray n) ∈ news := by
  obtain ⟨o, a, n, b⟩ := h.has .S trivial; exact ⟨n, b ▸ a⟩
theorem H.lG (h : H news A d) : ∃ n, (A .G, W.listOf (refs (row (fun i => A (.gi i)) d.gst.length)).toArray n) ∈ news := by
  obtain ⟨o, a, n, b⟩ := h.has .G trivial; exact ⟨n, b ▸ a⟩
theorem H.lC (h : H news A d) : ∃ n, (A .C, W.listOf (refs (row (fun k => A (.cl k)) d.cel.length)).toArray n) ∈ news := by
  obtain ⟨o, a, n, b⟩ := h.has .C trivial; exact ⟨n, b ▸ a⟩
theorem H.lK (h : H news A d) : ∃ n, (A .K, W.listOf (refs (row (fun k => A (.ui k)) d.kn)).toArray n) ∈ news := by
  obtain ⟨o, a, n, b⟩ := h.has .K trivial; exact ⟨n, b ▸ a⟩
theorem H.upsAt (h : H news A d) (w : Wf d) (i : Nat) : ∀ k u, ((opnAt d i).map fun k => A (.ui k))[k]? = some u → ∃ th vl, UpAt news u th (((opnAt d i).map fun k => (upAt d k).ix).getD k 0) vl := by
  intro k u hu
  rw [List.getElem?_map] at hu
  cases e : (opnAt d i)[k]? with
  | none => rw [e] at hu; cases hu
  | some j =>
    rw [e] at hu
    have hj : j < d.ups.length := w.ok i j (List.mem_of_getElem? e)
    obtain ⟨o, vl, a, b, c, c'⟩ := h.up hj
    cases hu
    have : ((opnAt d i).map fun k => (upAt d k).ix).getD k 0 = (upAt d j).ix := by simp [e]
    rw [this]
    exact ⟨thOf A (upAt d j).th, vl, A (.ud j), o, a, b, c'⟩
end
theorem row_get {f : Nat → Addr} {n i : Nat} (h : i < n) : (row f n)[i]? = some (f i) := by simp [row, h]
theorem row_length {f : Nat → Addr} {n : Nat} : (row f n).length = n := by simp [row]
theorem refs_get {us : List Addr} {i : Nat} {a : Addr} (h : us[i]? = some a) : (refs us)[i]? = some (.ref a) := by simp [refs, h]

theorem H.off {news : List (Addr × Obj)} {A : Role → Addr} {d : Dt} (h : H news A d) {a : Addr} {o : Obj} (k : ∀ r, Ok d r → A r ≠ a) : H (Mine.put a o news) A d :=
  ⟨h.inj, fun r hr => let ⟨o, x, y⟩ := h.has r hr; ⟨o, mem_put x (k r hr), y⟩⟩
theorem H.lt {news : List (Addr × Obj)} {A : Role → Addr} {d : Dt} {L : Addr} (h : H news A d) (l : ∀ p ∈ news, p.1 < L) : ∀ r, Ok d r → A r < L := fun r hr => by
  obtain ⟨o, a, _⟩ := h.has r hr; exact l _ a
theorem row_succ {f : Nat → Addr} {n : Nat} : row f (n + 1) = row f n ++ [f n] := by simp [row, List.range_succ]
theorem refs_append {a b : List Addr} : refs (a ++ b) = refs a ++ refs b := by simp [refs]
/-- one more variable known -/
theorem H.know {news : List (Addr × Obj)} {A : Role → Addr} {d : Dt} (h : H news A d) {n : Nat} :
    H (Mine.put (A .K) (W.listOf (refs (row (fun k => A (.ui k)) d.kn) ++ [Value.ref (A (.ui d.kn))]).toArray n) news) A { d with kn := d.kn + 1 } := by
  refine h.put .K _ (fun r => by cases r <;> exact Iff.rfl) trivial ⟨n, ?_⟩ fun r hr _ o ho => ?_
  · show _ = W.listOf (refs (row _ (d.kn + 1))).toArray n
    rw [row_succ, refs_append]; rfl
  · cases r <;> first | exact ho | exact absurd rfl hr
def addCel (d : Dt) (c : Cell) : Dt := { d with cel := d.cel ++ [c] }
def celAdr (A : Role → Addr) (n : Nat) (l : Addr) : Role → Addr := fun r => if r = .cl n then l else A r
theorem celAt_add {d : Dt} {c : Cell} {k : Nat} (h : k < d.cel.length) : celAt (addCel d c) k = celAt d k := by
  simp [celAt, addCel, List.getD, List.getElem?_append_left h]
theorem celAt_add_new {d : Dt} {c : Cell} : celAt (addCel d c) d.cel.length = c := by simp [celAt, addCel, List.getD]
/-- one more cell -/
theorem H.addCel {news : List (Addr × Obj)} {A : Role → Addr} {d : Dt} (h : H news A d) (w : d.kn ≤ d.ups.length) {l : Addr} {i pl : Nat} {t1 t2 : Tok} {n n' : Nat} (lt : ∀ p ∈ news, p.1 < l) :
    H (Mine.put (A .C) (W.listOf (refs (row (fun k => A (.cl k)) d.cel.length) ++ [Value.ref l]).toArray n) ((l, W.listOf [.int (i : Nat) t1, .int (pl : Nat) t2, .bool true, .none].toArray n') :: news))
      (celAdr A d.cel.length l) (Mine.addCel d ⟨i, pl, true, none⟩) ∧ Ext A d news (celAdr A d.cel.length l) (Mine.addCel d ⟨i, pl, true, none⟩) := by
  have hlt : ∀ r, Ok d r → A r < l := h.lt lt
  have okn : ∀ r, Ok (Mine.addCel d ⟨i, pl, true, none⟩) r → Ok d r ∨ r = .cl d.cel.length := fun r hr => by
    cases r with
    | cl k =>
      have : k < d.cel.length + 1 := by simpa [Ok, Mine.addCel] using hr
      rcases Nat.lt_or_ge k d.cel.length with q | q
      · exact .inl q
      · have : k = d.cel.length := by lia
        subst this; exact .inr rfl
    | _ => exact .inl hr
  have nu : ∀ r, Ok d r → r ≠ .cl d.cel.length := fun r hr => by
    rintro rfl; exact Nat.lt_irrefl _ (show d.cel.length < d.cel.length from hr)
  have same : ∀ r, Ok d r → celAdr A d.cel.length l r = A r := fun r hr => by
    unfold celAdr; rw [if_neg (nu r hr)]
  have ecl : celAdr A d.cel.length l (.cl d.cel.length) = l := by simp [celAdr]
  have sub : ∀ r, Ok d r → Ok (Mine.addCel d ⟨i, pl, true, none⟩) r := fun r hr => by
    cases r with
    | cl k => exact (show k < (d.cel ++ [_]).length by simp; exact Nat.lt_succ_of_lt hr)
    | _ => exact hr
  refine ⟨⟨?_, ?_⟩, ⟨sub, same, ?_⟩⟩
  · intro r r' hr hr' e
    rcases okn r hr with q | rfl <;> rcases okn r' hr' with q' | rfl
    · rw [same r q, same r' q'] at e; exact h.inj r r' q q' e
    · rw [same r q, ecl] at e; exact absurd (hlt r q) (by rw [e]; exact Nat.lt_irrefl _)
    · rw [same r' q', ecl] at e; exact absurd (hlt r' q') (by rw [← e]; exact Nat.lt_irrefl _)
    · rfl
  · intro r hr
    have hC := hlt .C trivial
    rcases okn r hr with q | rfl
    · by_cases eg : r = .C
      · subst eg
        refine ⟨_, by rw [same _ q]; exact mem_put_self, n, ?_⟩
        have e1 : row (fun k => celAdr A d.cel.length l (.cl k)) (d.cel.length + 1) = row (fun k => A (.cl k)) d.cel.length ++ [l] := by
          rw [row_succ, ecl]
          congr 1
          exact List.map_congr_left fun k hk => same (.cl k) (List.mem_range.mp hk)
        show _ = W.listOf (refs (row (fun k => celAdr A d.cel.length l (.cl k)) (d.cel ++ [_]).length)).toArray n
        rw [List.length_append, List.length_singleton, e1, refs_append]; rfl
      · obtain ⟨o, a, b⟩ := h.has r q
        refine ⟨o, ?_, ?_⟩
        · rw [same r q]
          exact mem_put (List.Mem.tail _ a) (h.ne q (r' := .C) trivial eg)
        · cases r with
          | C => exact absurd rfl eg
          | cl k =>
            obtain ⟨q1, q2, v, m, b1, b2⟩ := b
            refine ⟨q1, q2, v, m, ?_, ?_⟩
            · rw [celAt_add q]; exact b1
            · rw [celAt_add q]; exact b2
          | K => exact b
          | ui k => exact b
          | ud k =>
            obtain ⟨vl, b1, b2⟩ := b
            refine ⟨vl, b1, ?_⟩
            have e1 : thOf (celAdr A d.cel.length l) (upAt d k).th = thOf A (upAt d k).th := by
              cases (upAt d k).th with
              | none => rfl
              | some g => simp [thOf, celAdr]
            show UpDict o (thOf (celAdr A d.cel.length l) (upAt d k).th) _ _
            rw [e1]; exact b2
          | S => exact b
          | G => exact b
          | mir j => exact b
          | gi j => exact b
          | gd j => exact b
          | gs j => exact b
          | go j => exact b
    · refine ⟨_, by rw [ecl]; exact mem_put (List.Mem.head _) (Nat.ne_of_gt hC), t1, t2, .none, n', ?_, ?_⟩
      · rw [celAt_add_new]; rfl
      · rw [celAt_add_new]
  · intro r hr hn p hp
    rcases okn r hr with q | rfl
    · exact absurd q hn
    · rw [ecl]; exact Nat.ne_of_lt (lt p hp)
theorem Ext.less {A A' : Role → Addr} {d d' : Dt} {news big : List (Addr × Obj)} (e : Ext A d big A' d') (k : ∀ p ∈ news, p ∈ big) : Ext A d news A' d' := ⟨e.sub, e.same, fun r hr hn p hp => e.new r hr hn p (k p hp)⟩

end
section
def addUp (d : Dt) (i : Nat) (place : Int) (n : Nat) : Dt :=
  { d with ups := d.ups ++ [⟨some i, place, none⟩], opn := d.opn.set i ((opnAt d i).take n ++ d.ups.length :: (opnAt d i).drop n) }
def newAdr (A : Role → Addr) (K : Nat) (y dy : Addr) : Role → Addr := fun r => if r = .ui K then y else if r = .ud K then dy else A r
def ixsAt (d : Dt) (i : Nat) : List Int := (opnAt d i).map fun k => (upAt d k).ix

theorem upAt_add {d : Dt} {i : Nat} {place : Int} {n k : Nat} (h : k < d.ups.length) : upAt (addUp d i place n) k = upAt d k := by
  simp [upAt, addUp, List.getD, List.getElem?_append_left h]
theorem upAt_add_new {d : Dt} {i : Nat} {place : Int} {n : Nat} : upAt (addUp d i place n) d.ups.length = ⟨some i, place, none⟩ := by
  simp [upAt, addUp, List.getD]
theorem opnAt_add {d : Dt} {i j : Nat} {place : Int} {n : Nat} (h : j ≠ i) : opnAt (addUp d i place n) j = opnAt d j := by
  simp [opnAt, addUp, List.getD, List.getElem?_set, Ne.symm h]
theorem opnAt_add_new {d : Dt} {i : Nat} {place : Int} {n : Nat} (h : i < d.opn.length) : opnAt (addUp d i place n) i = (opnAt d i).take n ++ d.ups.length :: (opnAt d i).drop n := by
  simp [opnAt, addUp, List.getD, List.getElem?_set, h]

theorem H.addUp {news : List (Addr × Obj)} {A : Role → Addr} {d : Dt} (h : H news A d) (w : Wf d) {i : Nat} (hi : i < d.gst.length) {place : Int} {n nl : Nat} {y dy : Addr} {oy : Obj}
    (l1 : ∀ p ∈ news, p.1 < dy) (l2 : dy < y) (hu : UpDict oy (.ref (A (.gi i))) place .none) :
    H (Mine.put (A (.go i)) (W.listOf (refs (((opnAt d i).map fun k => A (.ui k)).take n ++ y :: ((opnAt d i).map fun k => A (.ui k)).drop n)).toArray nl) ((y, instObj 81 dy) :: (dy, oy) :: news))
      (newAdr A d.ups.length y dy) (Mine.addUp d i place n) ∧ Ext A d news (newAdr A d.ups.length y dy) (Mine.addUp d i place n) := by
  have lt : ∀ r, Ok d r → A r < dy := fun r hr => by
    obtain ⟨o, a, _⟩ := h.has r hr
    exact l1 _ a
  have okn : ∀ r, Ok (Mine.addUp d i place n) r → Ok d r ∨ r = .ui d.ups.length ∨ r = .ud d.ups.length := fun r hr => by
    cases r with
    | ui k =>
      have : k < d.ups.length + 1 := by simpa [Ok, Mine.addUp] using hr
      rcases Nat.lt_or_ge k d.ups.length with q | q
      · exact .inl q
      · have : k = d.ups.length := by lia
        subst this; exact .inr (.inl rfl)
    | ud k =>
      have : k < d.ups.length + 1 := by simpa [Ok, Mine.addUp] using hr
      rcases Nat.lt_or_ge k d.ups.length with q | q
      · exact .inl q
      · have : k = d.ups.length := by lia
        subst this; exact .inr (.inr rfl)
    | _ => exact .inl hr
  have nu : ∀ r, Ok d r → r ≠ .ui d.ups.length ∧ r ≠ .ud d.ups.length := fun r hr => by
    constructor
    · rintro rfl; exact Nat.lt_irrefl _ (show d.ups.length < d.ups.length from hr)
    · rintro rfl; exact Nat.lt_irrefl _ (show d.ups.length < d.ups.length from hr)
  have same : ∀ r, Ok d r → newAdr A d.ups.length y dy r = A r := fun r hr => by
    unfold newAdr; rw [if_neg (nu r hr).1, if_neg (nu r hr).2]
  have eui : newAdr A d.ups.length y dy (.ui d.ups.length) = y := by simp [newAdr]
  have eud : newAdr A d.ups.length y dy (.ud d.ups.length) = dy := by simp [newAdr]
  have sub : ∀ r, Ok d r → Ok (Mine.addUp d i place n) r := fun r hr => by
    cases r with
    | ui k => exact (show k < (d.ups ++ [_]).length by simp; exact Nat.lt_succ_of_lt hr)
    | ud k => exact (show k < (d.ups ++ [_]).length by simp; exact Nat.lt_succ_of_lt hr)
    | _ => exact hr
  have eo : i < d.opn.length := by rw [w.n2]; exact hi
  refine ⟨⟨?_, ?_⟩, ⟨sub, same, ?_⟩⟩
  · intro r r' hr hr' e
    rcases okn r hr with q | rfl | rfl <;> rcases okn r' hr' with q' | rfl | rfl
    · rw [same r q, same r' q'] at e; exact h.inj r r' q q' e
    · rw [same r q, eui] at e; exact absurd (lt r q) (by rw [e]; exact Nat.lt_asymm l2)
    · rw [same r q, eud] at e; exact absurd (lt r q) (by rw [e]; exact Nat.lt_irrefl _)
    · rw [same r' q', eui] at e; exact absurd (lt r' q') (by rw [← e]; exact Nat.lt_asymm l2)
    · rfl
    · rw [eui, eud] at e; exact absurd l2 (by rw [e]; exact Nat.lt_irrefl _)
    · rw [same r' q', eud] at e; exact absurd (lt r' q') (by rw [← e]; exact Nat.lt_irrefl _)
    · rw [eui, eud] at e; exact absurd l2 (by rw [e]; exact Nat.lt_irrefl _)
    · rfl
  · intro r hr
    have hgo := lt (.go i) hi
    rcases okn r hr with q | rfl | rfl
    · by_cases eg : r = .go i
      · subst eg
        refine ⟨_, by rw [same _ q]; exact mem_put_self, nl, ?_⟩
        have e1 : ((opnAt (Mine.addUp d i place n) i).map fun k => newAdr A d.ups.length y dy (.ui k)) = ((opnAt d i).map fun k => A (.ui k)).take n ++ y :: ((opnAt d i).map fun k => A (.ui k)).drop n := by
          rw [opnAt_add_new eo, List.map_append, List.map_cons, eui, ← List.map_take, ← List.map_drop]
          congr 1
          · exact List.map_congr_left fun k hk => same (.ui k) (w.ok i k (List.mem_of_mem_take hk))
          · congr 1
            exact List.map_congr_left fun k hk => same (.ui k) (w.ok i k (List.mem_of_mem_drop hk))
        rw [e1]
      · obtain ⟨o, a, b⟩ := h.has r q
        refine ⟨o, ?_, ?_⟩
        · rw [same r q]
          exact mem_put (in_cons2 _ a) (h.ne q (r' := .go i) hi eg)
        · cases r with
          | S => exact b
          | G => exact b
          | C => exact b
          | K =>
            obtain ⟨m, b⟩ := b
            refine ⟨m, ?_⟩
            have e1 : row (fun k => newAdr A d.ups.length y dy (.ui k)) d.kn = row (fun k => A (.ui k)) d.kn :=
              List.map_congr_left fun k hk => same (.ui k) (Nat.lt_of_lt_of_le (List.mem_range.mp hk) w.kn)
            rw [b]
            show W.listOf (refs (row _ d.kn)).toArray m = W.listOf (refs (row (fun k => newAdr A d.ups.length y dy (.ui k)) d.kn)).toArray m
            rw [e1]
          | mir j => exact b
          | gi j => exact b
          | gd j => exact b
          | gs j => exact b
          | go j =>
            obtain ⟨m, b⟩ := b
            refine ⟨m, ?_⟩
            have hj : j ≠ i := fun e => eg (by rw [e])
            have e1 : ((opnAt (Mine.addUp d i place n) j).map fun k => newAdr A d.ups.length y dy (.ui k)) = (opnAt d j).map fun k => A (.ui k) := by
              rw [opnAt_add hj]
              exact List.map_congr_left fun k hk => same (.ui k) (w.ok j k hk)
            rw [b, e1]
          | cl k => exact b
          | ui k =>
            have e1 := same (.ud k) q
            show o = instObj 81 (newAdr A d.ups.length y dy (.ud k))
            rw [e1]; exact b
          | ud k =>
            obtain ⟨vl, b1, b2⟩ := b
            refine ⟨vl, ?_, ?_⟩
            · rw [upAt_add q]; exact b1
            · rw [upAt_add q]
              have e1 : thOf (newAdr A d.ups.length y dy) (upAt d k).th = thOf A (upAt d k).th := by
                cases (upAt d k).th with
                | none => rfl
                | some g => simp [thOf, newAdr]
              rw [e1]; exact b2
    · refine ⟨instObj 81 dy, ?_, ?_⟩
      · rw [eui]; exact mem_put (List.Mem.head _) (Nat.ne_of_gt (Nat.lt_trans hgo l2))
      · show instObj 81 dy = instObj 81 (newAdr A d.ups.length y dy (.ud d.ups.length))
        rw [eud]
    · refine ⟨oy, ?_, .none, ?_, ?_⟩
      · rw [eud]; exact mem_put (List.Mem.tail _ (List.Mem.head _)) (Nat.ne_of_gt hgo)
      · rw [upAt_add_new]; rfl
      · rw [upAt_add_new]
        have e1 : thOf (newAdr A d.ups.length y dy) (some i) = .ref (A (.gi i)) := by simp [thOf, newAdr]
        rw [e1]; exact hu
  · intro r hr hn p hp
    rcases okn r hr with q | rfl | rfl
    · exact absurd q hn
    · rw [eui]; exact Nat.ne_of_lt (Nat.lt_trans (l1 p hp) l2)
    · rw [eud]; exact Nat.ne_of_lt (l1 p hp)

section
variable {w : World} {base h₀ : Heap} {outer : List Env} {A₀ : Around} {dp u : Nat} {env : Env} {L : Addr} {m mg mb : Str → Option Value}
    {loose : List Str} {mean : ExcName → Option Value} {p : Program} {s : Shared} {news : List (Addr × Obj)} {R : Result → Shared → Prop}

theorem find_H (C : Cx w A₀ base h₀ outer L s m mg mb loose mean p news env) (hd : dp ≤ 480) (hu : u ≤ 4800) {A : Role → Addr} {d : Dt} (h : H news A d) (hw : Wf d) {i : Nat} (hi : i < d.gst.length) {place : Int} {t : Tok} {x : Addr} (hx : x = A (.gi i))
    (old : ∀ k, (opnAt d i)[lead place (ixsAt d i)]? = some k → (upAt d k).ix = place → ∀ h' tk, Fr h₀ L h' m → News h₀ L h' news → R (.ok (.ret (.ref (A (.ui k))))) { s with heap := h', toks := tk })
    (new : (∀ k, (opnAt d i)[lead place (ixsAt d i)]? = some k → (upAt d k).ix ≠ place) → ∀ A' h' tk news', Fr h₀ L h' m → News h₀ L h' news' →
      H news' A' (addUp d i place (lead place (ixsAt d i))) → Ext A d news A' (addUp d i place (lead place (ixsAt d i))) → Kept A d news news' →
      R (.ok (.ret (.ref (A' (.ui d.ups.length))))) { s with heap := h', toks := tk }) :
    codeAny (model Challenge.rw_nt0630_01.row.prog w) ⟨none, dp, some (env :: outer), some [], u⟩ (.call (.ref 132) ⟨[.ref x, .int place t], []⟩) R s := by
  subst hx
  obtain ⟨nl, hol⟩ := h.open hi
  refine find_plain_ctr C hd hu (h.ground hi) hol (ixs := ixsAt d i) (by simp [ixsAt]) (by have := hw.ofew i; simp; lia) (h.upsAt hw i) ?_ ?_
  · intro a ha he h' tk F N
    rw [List.getElem?_map] at ha
    cases e : (opnAt d i)[lead place (ixsAt d i)]? with
    | none => rw [e] at ha; cases ha
    | some k =>
      rw [e] at ha
      cases ha
      refine old k e ?_ h' tk F N
      have : (ixsAt d i).getD (lead place (ixsAt d i)) 0 = (upAt d k).ix := by unfold ixsAt at *; simp [e]
      rw [← this]; exact he
  · intro hn y dy oy h' tk F l1 l2 hu' N
    obtain ⟨h2, h3⟩ := h.addUp hw hi (place := place) (n := lead place (ixsAt d i)) (nl := nl + 1) l1 l2 hu'
    have e : (newAdr A d.ups.length y dy) (.ui d.ups.length) = y := by simp [newAdr]
    have := new (fun k hk he => ?_) _ h' tk _ F N h2 h3 (fun q hq hk => mem_put (in_cons2 _ hq) (hk _ hi))
    · rw [e] at this; exact this
    · rcases hn with hn | hn
      · rw [List.getElem?_map, hk] at hn; cases hn
      · refine hn ?_
        have : (ixsAt d i).getD (lead place (ixsAt d i)) 0 = (upAt d k).ix := by
          unfold ixsAt at *
          simp [hk]
        rw [this]; exact he

def FoundAt (d : Dt) (i : Nat) (place : Int) (d1 : Dt) (kf : Nat) : Prop :=
  (d1 = d ∧ (opnAt d i)[lead place (ixsAt d i)]? = some kf ∧ (upAt d kf).ix = place) ∨
  (d1 = addUp d i place (lead place (ixsAt d i)) ∧ kf = d.ups.length ∧ ∀ k, (opnAt d i)[lead place (ixsAt d i)]? = some k → (upAt d k).ix ≠ place)
theorem find_H1 (C : Cx w A₀ base h₀ outer L s m mg mb loose mean p news env) (hd : dp ≤ 480) (hu : u ≤ 4800) {A : Role → Addr} {d : Dt} (h : H news A d) (hw : Wf d) {i : Nat} (hi : i < d.gst.length) {place : Int} {t : Tok} {x : Addr} (hx : x = A (.gi i))
    (post : ∀ A1 d1 kf h' tk news1, FoundAt d i place d1 kf → Fr h₀ L h' m → News h₀ L h' news1 → H news1 A1 d1 → Ext A d news A1 d1 → Kept A d news news1 → R (.ok (.ret (.ref (A1 (.ui kf))))) { s with heap := h', toks := tk }) :
    codeAny (model Challenge.rw_nt0630_01.row.prog w) ⟨none, dp, some (env :: outer), some [], u⟩ (.call (.ref 132) ⟨[.ref x, .int place t], []⟩) R s :=
  find_H C hd hu h hw hi hx (fun k hk he h' tk F N => post A d k h' tk news (.inl ⟨rfl, hk, he⟩) F N h .refl .refl)
    fun hn A' h' tk news' F N h2 e k => post A' _ _ h' tk news' (.inr ⟨rfl, rfl, hn⟩) F N h2 e k
end

end
section
def closed (d : Dt) (i : Nat) (k : Nat) : Up := ⟨none, -1, some ((gstAt d i).getD (upAt d k).ix.toNat 0)⟩
def shut (d : Dt) (i n : Nat) : Dt :=
  { d with ups := (List.range d.ups.length).map fun k => if k ∈ (opnAt d i).take n then closed d i k else upAt d k, opn := d.opn.set i ((opnAt d i).drop n) }
theorem upAt_shut {d : Dt} {i n k : Nat} (h : k < d.ups.length) : upAt (shut d i n) k = if k ∈ (opnAt d i).take n then closed d i k else upAt d k := by
  simp [upAt, shut, List.getD, h]
theorem opnAt_shut {d : Dt} {i n j : Nat} (h : j ≠ i) : opnAt (shut d i n) j = opnAt d j := by
  simp [opnAt, shut, List.getD, List.getElem?_set, Ne.symm h]
theorem opnAt_shut_self {d : Dt} {i n : Nat} (h : i < d.opn.length) : opnAt (shut d i n) i = (opnAt d i).drop n := by
  simp [opnAt, shut, List.getD, List.getElem?_set, h]
theorem ok_shut {d : Dt} {i n : Nat} : ∀ r, Ok (shut d i n) r ↔ Ok d r := fun r => by
  cases r <;> simp [Ok, shut]
theorem ints_getD {vs : List Value} {ns : List Int} (h : IntsAre vs ns) {j : Nat} (hj : j < ns.length) : ∃ t, vs.getD j .none = .int (ns.getD j 0) t := by
  obtain ⟨t, ht⟩ := h.get j ns[j] (by simp [hj])
  refine ⟨t, ?_⟩
  simp [List.getD, ht, hj]

section
variable {w : World} {base h₀ : Heap} {outer : List Env} {A₀ : Around} {dp u : Nat} {env : Env} {L : Addr} {m mg mb : Str → Option Value}
    {loose : List Str} {mean : ExcName → Option Value} {p : Program} {s : Shared} {news : List (Addr × Obj)} {R : Result → Shared → Prop}

theorem take_H (C : Cx w A₀ base h₀ outer L s m mg mb loose mean p news env) (hd : dp ≤ 480) (hu : u ≤ 4800) {A : Role → Addr} {d : Dt} (h : H news A d) (hw : Wf d) {i : Nat} (hi : i < d.gst.length) {lv : Int} {t : Tok} {x : Addr} (hx : x = A (.gi i))
    (post : ∀ fl nf h' tk news', Fr h₀ L h' m → News h₀ L h' news' → H news' A (shut d i (take0 lv (ixsAt d i))) → Kept A d news news' → (∀ p ∈ news, p.1 < fl) →
      (fl, W.listOf (refs (((opnAt d i).take (take0 lv (ixsAt d i))).map fun k => A (.ui k))).toArray nf) ∈ news' → R (.ok (.ret (.ref fl))) { s with heap := h', toks := tk }) :
    codeAny (model Challenge.rw_nt0630_01.row.prog w) ⟨none, dp, some (env :: outer), some [], u⟩ (.call (.ref 139) ⟨[.ref x, .int lv t], []⟩) R s := by
  subst hx
  obtain ⟨og, hg1, hg2⟩ := h.has (.gd i) hi
  obtain ⟨o1, hx1, hx2⟩ := h.has (.gi i) hi
  have e : o1 = instObj 100 (A (.gd i)) := hx2
  subst e
  obtain ⟨nl, hol⟩ := h.open hi
  obtain ⟨vs, ns, hvs, hsl⟩ := h.gstack hi
  have hvl : vs.length = (gstAt d i).length := hvs.length
  let es : List E3 := (opnAt d i).map fun k => (A (.ui k), A (.ud k), (upAt d k).ix)
  have he1 : es.map (·.1) = (opnAt d i).map fun k => A (.ui k) := by simp [es, Function.comp_def]
  have he3 : es.map (·.2.2) = ixsAt d i := by simp [es, ixsAt, Function.comp_def]
  have hel : es.length = (opnAt d i).length := by simp [es]
  have hget : ∀ (k : Nat) (a b : Addr) (ix : Int), es[k]? = some (a, b, ix) → ∃ j, (opnAt d i)[k]? = some j ∧ a = A (.ui j) ∧ b = A (.ud j) ∧ ix = (upAt d j).ix := by
    intro k a b ix hk
    simp only [es, List.getElem?_map] at hk
    cases e : (opnAt d i)[k]? with
    | none => rw [e] at hk; cases hk
    | some j =>
      rw [e] at hk
      simp only [Option.map_some, Option.some.injEq, Prod.mk.injEq] at hk
      exact ⟨j, rfl, hk.1.symm, hk.2.1.symm, hk.2.2.symm⟩
  refine take_closed_ctr C hd hu (es := es) (vs := vs) (nl := nl) (ns := ns) hx1 hg1 hg2 hsl (by rw [he1]; exact hol) (h.ne (r := .gs i) (r' := .go i) hi hi (by simp)) (by have := hw.ofew i; lia) (by have := hw.gfit i; lia) ?_ ?_ ?_
  · intro k a b ix hk
    obtain ⟨j, hj, rfl, rfl, rfl⟩ := hget k a b ix hk
    have hm := List.mem_of_getElem? hj
    obtain ⟨q1, q2, q3, q4⟩ := hw.op i j hm
    obtain ⟨o, vl, a1, a2, a3, a4⟩ := h.up (hw.ok i j hm)
    rw [q1] at a4
    rw [q4] at a3
    have a3' : vl = .none := a3
    subst a3'
    exact ⟨o, a1, a2, a4, q2, by lia⟩
  · intro k k' a a' b ix ix' hk hk'
    obtain ⟨j, hj, _, e2, _⟩ := hget k a b ix hk
    obtain ⟨j', hj', _, e2', _⟩ := hget k' a' b ix' hk'
    have := h.inj (.ud j) (.ud j') (hw.ok i j (List.mem_of_getElem? hj)) (hw.ok i j' (List.mem_of_getElem? hj')) (by rw [← e2, ← e2'])
    cases this
    have hlt : k < (opnAt d i).length := (List.getElem?_eq_some_iff.mp hj).1
    exact (List.getElem?_inj hlt (hw.nd i)).mp (hj.trans hj'.symm)
  · intro fl h' tk news' F N l1 T
    rw [he3] at T
    generalize hn : take0 lv (ixsAt d i) = n at T post
    obtain ⟨⟨nf, t1⟩, ⟨nl', t2⟩, t3, t4⟩ := T
    have ef : (es.take n).map (·.1) = ((opnAt d i).take n).map fun k => A (.ui k) := by simp [es, ← List.map_take, Function.comp_def]
    have ed : (es.drop n).map (·.1) = ((opnAt d i).drop n).map fun k => A (.ui k) := by simp [es, ← List.map_drop, Function.comp_def]
    rw [ef] at t1
    rw [ed] at t2
    have inTake : ∀ k, k < n → ∀ j, (opnAt d i)[k]? = some j → j ∈ (opnAt d i).take n := fun k hk j hj => by
      have : ((opnAt d i).take n)[k]? = some j := by rw [List.getElem?_take, if_pos hk]; exact hj
      exact List.mem_of_getElem? this
    have keep : ∀ r o, Ok d r → (A r, o) ∈ news → r ≠ .go i → (∀ k, r = .ud k → k ∉ (opnAt d i).take n) → (A r, o) ∈ news' := fun r o hr ho hgo hud => by
      refine t4 _ ho (h.ne hr (r' := .go i) hi hgo) fun k a b ix hk he => ?_
      obtain ⟨j, hj, _, rfl, _⟩ := hget k a b ix he
      have hjk := hw.ok i j (List.mem_of_getElem? hj)
      refine h.ne hr (r' := .ud j) hjk ?_
      rintro rfl
      exact hud j rfl (inTake k hk j hj)
    refine post fl nf h' tk news' F N ⟨fun r r' hr hr' e => h.inj r r' ((ok_shut r).mp hr) ((ok_shut r').mp hr') e, fun r hr => ?_⟩ (fun q hq hk => ?_) l1 t1
    · have hr' := (ok_shut r).mp hr
      have hopn : i < d.opn.length := by rw [hw.n2]; exact hi
      by_cases eg : r = .go i
      · subst eg
        refine ⟨_, t2, nl', ?_⟩
        rw [opnAt_shut_self hopn]
      · obtain ⟨o, a, b⟩ := h.has r hr'
        cases r with
        | ud k =>
          by_cases hk : k ∈ (opnAt d i).take n
          · obtain ⟨kk, hkk⟩ := List.mem_iff_getElem?.mp hk
            have hlt : kk < n := by
              have := (List.getElem?_eq_some_iff.mp hkk).1
              simp at this; lia
            have hkk' : (opnAt d i)[kk]? = some k := by rw [List.getElem?_take, if_pos hlt] at hkk; exact hkk
            obtain ⟨o', c1, c2⟩ := t3 kk (A (.ui k)) (A (.ud k)) (upAt d k).ix hlt (by simp [es, hkk'])
            obtain ⟨q1, q2, q3, q4⟩ := hw.op i k (List.mem_of_getElem? hkk')
            obtain ⟨tt, htt⟩ := ints_getD hvs (j := (upAt d k).ix.toNat) (by lia)
            refine ⟨o', c1, vs.getD (upAt d k).ix.toNat .none, ?_, ?_⟩
            · rw [upAt_shut hr', if_pos hk]; exact ⟨tt, htt⟩
            · rw [upAt_shut hr', if_pos hk]; exact c2
          · refine ⟨o, keep _ o hr' a (by simp) (fun k' e => by cases e; exact hk), ?_⟩
            obtain ⟨vl, b1, b2⟩ := b
            refine ⟨vl, ?_, ?_⟩
            · rw [upAt_shut hr', if_neg hk]; exact b1
            · rw [upAt_shut hr', if_neg hk]; exact b2
        | go j =>
          refine ⟨o, keep _ o hr' a eg (fun k' e => by cases e), ?_⟩
          obtain ⟨q, b⟩ := b
          have hj : j ≠ i := fun e => eg (by rw [e])
          exact ⟨q, by rw [opnAt_shut hj]; exact b⟩
        | S => exact ⟨o, keep _ o hr' a eg (fun k' e => by cases e), b⟩
        | G => exact ⟨o, keep _ o hr' a eg (fun k' e => by cases e), b⟩
        | C => exact ⟨o, keep _ o hr' a eg (fun k' e => by cases e), b⟩
        | K => exact ⟨o, keep _ o hr' a eg (fun k' e => by cases e), b⟩
        | mir j => exact ⟨o, keep _ o hr' a eg (fun k' e => by cases e), b⟩
        | gi j => exact ⟨o, keep _ o hr' a eg (fun k' e => by cases e), b⟩
        | gd j => exact ⟨o, keep _ o hr' a eg (fun k' e => by cases e), b⟩
        | gs j => exact ⟨o, keep _ o hr' a eg (fun k' e => by cases e), b⟩
        | cl j => exact ⟨o, keep _ o hr' a eg (fun k' e => by cases e), b⟩
        | ui j => exact ⟨o, keep _ o hr' a eg (fun k' e => by cases e), b⟩
    · refine t4 q hq (hk (.go i) hi) fun k a b ix _ he => ?_
      obtain ⟨j, hj, _, rfl, _⟩ := hget k a b ix he
      exact hk (.ud j) (hw.ok i j (List.mem_of_getElem? hj))
end

end
section
open PySem.Calls Builtin
section
variable {prog : Program} {w : World} {A : Around} {E : Value → Shared → Prop} {s : Shared} {K : Frag} {x y C : Addr} {ox oy : Obj} {od od' : Option Obj}

theorem ifBound_B {M : Model} {name : Str} {id : String} {args : List Value} {Q : Option Value → Shared → Prop} (X : K.In s.heap) (I : InstAt s.heap x ox C od) (hs : findIn K (.ref C) name = some (some (.builtin id)))
    (hb : ∀ self, bindSpecial (.builtin id) self = pure (.builtin id, [self])) (h : wpAny M A (call (.builtin id) (.ref x :: args)) (fun v => Q (some v)) E s) : wpAny M A (callSpecialIfBound? (.ref x) name args) Q E s := by
  simp only [callSpecialIfBound?, bindSpecialIfBound?]
  refine wpAny_holding (wpAny_bind (wpAny_bind (wpAny_bind (I.type.here ((looks_findIn X hs).here ?_)))))
  refine wpAny_bind (wpAny_askSetting (wpAny_ite ?_))
  have fin : wpAny M A (call (.builtin id) ([.ref x] ++ args) >>= fun v => pure (some v)) Q E s := wpAny_bind (wpAny_mono h (fun v s' h' => wpAny_pure h') fun _ _ h' => h')
  split
  · exact wpAny_bind ((Looks.of_pure (hb _)).here (wpAny_pure (by exact fin)))
  · exact wpAny_tryCatch (wpAny_bind ((Looks.of_pure (hb _)).here (wpAny_pure (by exact fin))))

/-- object's own == of two instances -/
theorem objEq_call {Q : Value → Shared → Prop} (X : K.In s.heap) (I : InstAt s.heap x ox C od) (J : InstAt s.heap y oy C od') (hm : mroIn K C (.type "object") = some true)
    (h : Q (if x = y then .bool true else .notImplemented) s) : wpAny (model prog w) A (call (.builtin "object.__eq__") [.ref x, .ref y]) Q E s := by
  refine wpAny_call (codeAny_call_builtin PySem.F.cmp_object.eq.plain PySem.F.cmpEntry_eq (check_slot (i := "object.__eq__") (owner := "object") (n := "__eq__") PySem.F.cmpKind_eq PySem.F.cmpSplit_eq (I.type.andThen (looks_mroIn X hm)) (PySem.F.cmpArgs_eq _ _) ?_))
  by_cases e : x = y
  · subst e
    rw [if_pos rfl] at h
    exact objEq_entry_same h
  · rw [if_neg e] at h
    exact objEq_entry_other e I.at_ J.at_ (by rw [I.cls]; intro q; cases q) h

theorem eqK {Q : Value → Shared → Prop} (hu : A.units < cLine) (X : K.In s.heap) (I : InstAt s.heap x ox C od) (J : InstAt s.heap y oy C od') (he : findIn K (.ref C) "__eq__" = some (some (.builtin "object.__eq__")))
    (hm : mroIn K C (.type "object") = some true) (h : Q (.bool (decide (x = y))) s) : wpAny (model prog w) A (compareOp .Eq (.ref x) (.ref y)) Q E s := by
  refine cmp_ofEq ?_
  unfold richCompare
  simp only [oneThing_ref]
  refine wpAny_holding (wpAny_bind (wpAny_cRoomFor hu ?_))
  refine wpAny_bind (I.type.here (wpAny_bind (J.type.here ?_)))
  simp only [bne_self_eq_false, Bool.false_eq_true, if_false]
  refine wpAny_bind (wpAny_pure ?_)
  simp only [Bool.false_eq_true, if_false]
  by_cases e : x = y
  · subst e
    refine wpAny_bind (m := tryCompare (.ref x) _ (.ref x)) ?_
    unfold tryCompare
    refine wpAny_bind (ifBound_B X I he PySem.F.cmp_object.eq.bind (objEq_call X I I hm ?_))
    rw [if_pos rfl]
    refine wpAny_pure (wpAny_pure ?_)
    simpa using h
  · refine wpAny_bind (m := tryCompare (.ref x) _ (.ref y)) ?_
    unfold tryCompare
    refine wpAny_bind (ifBound_B X I he PySem.F.cmp_object.eq.bind (objEq_call X I J hm ?_))
    rw [if_neg e]
    refine wpAny_pure ?_
    simp only [Bool.not_false, if_true]
    refine wpAny_bind (m := tryCompare (.ref y) _ (.ref x)) ?_
    unfold tryCompare
    refine wpAny_bind (ifBound_B X J he PySem.F.cmp_object.eq.bind (objEq_call X J I hm ?_))
    rw [if_neg (Ne.symm e)]
    refine wpAny_pure ?_
    refine wpAny_bind (wpAny_rule (wpAny_bind (wpAny_isSame_ref_other e I.at_ J.at_ (by rw [I.cls]; intro q; cases q) (wpAny_pure ?_))))
    simpa [e] using h

theorem objNe_call {Q : Value → Shared → Prop} (hu : A.in1.units < cLine) (X : K.In s.heap) (I : InstAt s.heap x ox C od) (J : InstAt s.heap y oy C od') (he : findIn K (.ref C) "__eq__" = some (some (.builtin "object.__eq__"))) (hm : mroIn K C (.type "object") = some true)
    (h : Q (if x = y then .bool false else .notImplemented) s) : wpAny (model prog w) A (call (.builtin "object.__ne__") [.ref x, .ref y]) Q E s := by
  refine wpAny_call (codeAny_call_builtin PySem.F.cmp_object.ne.plain PySem.F.cmpEntry_ne (check_slot (i := "object.__ne__") (owner := "object") (n := "__ne__") PySem.F.cmpKind_ne PySem.F.cmpSplit_ne (I.type.andThen (looks_mroIn X hm)) (PySem.F.cmpArgs_ne _ _) ?_))
  unfold Builtin.«object.__ne__»
  refine wpAny_bind (m := slotArgs "__ne__" 1 _) (wpAny_pure ?_)
  refine wpAny_bind (m := cRoomFor _ _) (wpAny_cRoomFor hu ?_)
  refine wpAny_bind (m := callSpecialIfBound? (.ref x) (Str.ofString "__eq__") [.ref y]) (ifBound_B X I he PySem.F.cmp_object.eq.bind (objEq_call X I J hm ?_))
  by_cases e : x = y
  · rw [if_pos e]
    rw [if_pos e] at h
    exact wpAny_bind (m := truthy (.bool true)) (wpAny_truthy_bool (wpAny_pure h))
  · rw [if_neg e]
    rw [if_neg e] at h
    exact wpAny_pure h

theorem neK {Q : Value → Shared → Prop} (hu : A.units + 1 < cLine) (X : K.In s.heap) (I : InstAt s.heap x ox C od) (J : InstAt s.heap y oy C od') (he : findIn K (.ref C) "__eq__" = some (some (.builtin "object.__eq__")))
    (hn : findIn K (.ref C) "__ne__" = some (some (.builtin "object.__ne__")))
    (hm : mroIn K C (.type "object") = some true) (h : Q (.bool (!decide (x = y))) s) : wpAny (model prog w) A (compareOp .NotEq (.ref x) (.ref y)) Q E s := by
  refine cmp_ofNotEq ?_
  unfold richCompare
  simp only [oneThing_ref]
  refine wpAny_holding (wpAny_bind (wpAny_cRoomFor (Nat.lt_of_succ_lt hu) ?_))
  refine wpAny_bind (I.type.here (wpAny_bind (J.type.here ?_)))
  simp only [bne_self_eq_false, Bool.false_eq_true, if_false]
  refine wpAny_bind (wpAny_pure ?_)
  simp only [Bool.false_eq_true, if_false]
  by_cases e : x = y
  · subst e
    refine wpAny_bind (m := tryCompare (.ref x) _ (.ref x)) ?_
    unfold tryCompare
    refine wpAny_bind (ifBound_B X I hn PySem.F.cmp_object.ne.bind (objNe_call hu X I I he hm ?_))
    rw [if_pos rfl]
    refine wpAny_pure (wpAny_pure ?_)
    simpa using h
  · refine wpAny_bind (m := tryCompare (.ref x) _ (.ref y)) ?_
    unfold tryCompare
    refine wpAny_bind (ifBound_B X I hn PySem.F.cmp_object.ne.bind (objNe_call hu X I J he hm ?_))
    rw [if_neg e]
    refine wpAny_pure ?_
    simp only [Bool.not_false, if_true]
    refine wpAny_bind (m := tryCompare (.ref y) _ (.ref x)) ?_
    unfold tryCompare
    refine wpAny_bind (ifBound_B X J hn PySem.F.cmp_object.ne.bind (objNe_call hu X J I he hm ?_))
    rw [if_neg (Ne.symm e)]
    refine wpAny_pure ?_
    refine wpAny_bind (wpAny_rule (wpAny_bind (wpAny_isSame_ref_other e I.at_ J.at_ (by rw [I.cls]; intro q; cases q) (wpAny_pure ?_))))
    simpa [e] using h
end

end
local macro_rules | `(tactic| walk_at "last compareOp Eq ref ref") => `(tactic| (k_here; k_dflt (refine' eqK ?u ?X ?I ?J ?e ?m ?_; (case u => (show _ < (9900 : Nat)); ktr_room); (case X => k_in); (case I => k_inst); (case J => k_inst); (case e => k_is); (case m => k_is); k_whole)))
local macro_rules | `(tactic| walk_at "last compareOp NotEq ref ref") => `(tactic| (k_here; k_dflt (refine' neK ?u ?X ?I ?J ?e ?n ?m ?_; (case u => (show _ < (9900 : Nat)); ktr_room); (case X => k_in); (case I => k_inst); (case J => k_inst); (case e => k_is); (case n => k_is); (case m => k_is); k_whole)))
section
theorem and3_1 {o : Bool} {a b i p : Nat} (h1 : o = true) (h2 : (a : Int) = i) (h3 : (b : Int) = p) : true = (o && (a == i && b == p)) := by
  have e2 : a = i := by lia
  have e3 : b = p := by lia
  simp [h1, e2, e3]
theorem and3_2 {o : Bool} {a b i p : Nat} (h3 : (b : Int) ≠ p) : false = (o && (a == i && b == p)) := by
  have e3 : ¬ b = p := by lia
  simp [e3]
theorem and3_3 {o : Bool} {a b i p : Nat} (h2 : (a : Int) ≠ i) : false = (o && (a == i && b == p)) := by
  have e2 : ¬ a = i := by lia
  simp [e2]
theorem and3_4 {o : Bool} {a b i p : Nat} (h1 : o = false) : false = (o && (a == i && b == p)) := by simp [h1]
/-- the open cells of a place -/
def oo (d : Dt) (i place : Nat) : List Nat := (List.range d.cel.length).filter fun k => (celAt d k).op && ((celAt d k).wh == i && (celAt d k).pl == place)
def askNew (d : Dt) (i place : Nat) : Dt := addCel { addUp d i place (lead place (ixsAt d i)) with kn := d.kn + 1 } ⟨i, place, true, none⟩

section
variable {w : World} {base h₀ : Heap} {outer : List Env} {A₀ : Around} {dp u : Nat} {env : Env} {L : Addr} {m mg mb : Str → Option Value}
    {loose : List Str} {mean : ExcName → Option Value} {p : Program} {s : Shared} {news : List (Addr × Obj)} {R : Result → Shared → Prop}
set_option maxHeartbeats 8000000 in
theorem asked_H (C : Cx w A₀ base h₀ outer L s m mg mb loose mean p news env) (hd : dp ≤ 400) (hu : u ≤ 4000) {A : Role → Addr} {d : Dt} (h : H news A d) (hw : Wf d) {i : Nat} (hi : i < d.gst.length) {place : Nat} {t1 t2 : Tok}
    (hold : ∀ k, (opnAt d i)[lead place (ixsAt d i)]? = some k → (upAt d k).ix = place → k < d.kn ∧ ∃ r, oo d i place = k :: r)
    (hnew : (∀ k, (opnAt d i)[lead place (ixsAt d i)]? = some k → (upAt d k).ix ≠ place) → oo d i place = [] ∧ d.kn = d.ups.length)
    (pold : ∀ A' h' tk news', Fr h₀ L h' m → News h₀ L h' news' → H news' A' d → Ext A d news A' d → Kept A d news news' → R (.ok (.ret (.bool true))) { s with heap := h', toks := tk })
    (pnew : (∀ k, (opnAt d i)[lead place (ixsAt d i)]? = some k → (upAt d k).ix ≠ place) → ∀ A' h' tk news', Fr h₀ L h' m → News h₀ L h' news' → H news' A' (askNew d i place) → Ext A d news A' (askNew d i place) → Kept A d news news' → R (.ok (.ret (.bool true))) { s with heap := h', toks := tk }) :
    codeAny (model Challenge.rw_nt0630_01.row.prog w) ⟨none, dp, some (env :: outer), some [], u⟩ (.call (.ref 170) ⟨[.ref (A .G), .ref (A .C), .ref (A .K), .int (i : Nat) t1, .int (place : Nat) t2], []⟩) R s := by
  obtain ⟨B, F, X, T, N, hf, hke⟩ := C
  obtain ⟨nG, hG⟩ := h.lG
  have hit : (refs (row (fun i => A (.gi i)) d.gst.length))[((i : Nat) : Int).toNat]? = some (.ref (A (.gi i))) := refs_get (row_get hi)
  have hil : ((i : Nat) : Int) < 2 ^ 63 := by have := hw.gfew; lia
  tb_start
  rename_i g L1 h1 tk1 FG F1 B1 X1 T1 l1 oc1 oc2 oc3 dc1 dc2 dc3 N1 Q0 hQ0
  (repeat' (first | (k_unfold; (try dsimp only)) | (refine unhide (by assumption) ?_; (try dsimp only)) | ((fail_if_success (with_reducible first | show wpAny _ _ (exec (Stmt.While _ _ _ _) _) _ _ _ | show wpAny _ _ (exec (Stmt.For _ _ _ _ _) _) _ _ _ | show wpAny _ _ (exec (Stmt.Assign _ (Expr.ListComp _ _ _ _) _) _) _ _ _ | show wpAny _ _ (eval (Expr.ListComp _ _ _ _) _) _ _ _ | show wpAny _ _ (call (Value.type "enumerate") _) _ _ _ | show wpAny _ _ (call (Value.type "zip") _) _ _ _ | refine stand_ref (by decide) ?_)); first | ((with_reducible first | (refine execs_one (by assumption) fun _ => ?_) | (refine execs_hid fun _ _ _ => ?_))) | ((with_reducible show wpAny _ _ (call (Value.builtin "len") [Value.ref _]) _ _ _); k_dflt (refine len_at (by k_asm) (by k_mem) (by ktr_units) ?_; k_whole); (try simp only [refs_length])) | ((with_reducible show wpAny _ _ (subscriptTail _ _ (Value.ref _) (Value.int _ _)) _ _ _); (with_unfolding_all refine item_litK (News.isList (by k_asm) (by k_mem)) (by first | decide | omega) (by first | decide | omega) (by assumption) ?_ (by with_unfolding_all rfl); k_whole)) | ((with_reducible show wpAny _ _ (call (Value.builtin "list.append") [Value.ref _, _]) _ _ _); k_dflt (refine app_at (by k_asm) (by k_asm) (by first | assumption | exact mem_put_self | exact mem_put (by first | assumption | exact mem_put_self | exact mem_put (by first | assumption | exact mem_put_self | exact mem_put (by assumption) (by ktr_unf)) (by ktr_unf)) (by ktr_unf)) (by ktr_units) ?_; k_whole); intro _ _ _; (try k_sweep)) | ((with_reducible show wpAny _ _ (getMethod (Value.ref _) (PySem.Str.ofString "append") _) _ _ _); k_dflt (refine listMethod_K (by k_asm) (by first | assumption | exact mem_put_self | exact mem_put (by first | assumption | exact mem_put_self | exact mem_put (by first | assumption | exact mem_put_self | exact mem_put (by assumption) (by ktr_unf)) (by ktr_unf)) (by ktr_unf)) PySem.F.slot_list_append PySem.F.type_list_append ?_)) | walk1 | ((with_reducible show wpAny _ _ (call (Value.builtin "list.append") [Value.ref _, _]) _ _ _); k_dflt (refine app_at (by k_asm) (by k_asm) (by k_mem) (by ktr_units) ?_; k_whole); intro _ _ _; (try k_sweep)) | (dsimp only; walk1) | fail "no step")))
  replace dc1 : oc1.data = .cell none := dc1
  replace dc2 : oc2.data = .cell (some (.int (place : Nat) t2)) := dc2
  replace dc3 : oc3.data = .cell (some (.int (i : Nat) t1)) := dc3
  have hlt := h.lt l1
  refine wpAny_call (find_H1 (news := (L1 + 1 + 1 + 1, oc1) :: (L1 + 1 + 1, oc2) :: (L1 + 1, oc3) :: news) ⟨B1, F1, X1, T1, N1, rfl, rfl⟩ (by ktr_room) (by ktr_room) (h.mono fun q hq => .tail _ (.tail _ (.tail _ hq))) hw hi rfl ?_)
  intro A1 d1 kf h2 tk2 news1 hfa F2 N2 h3 ext kept
  have c1 : (L1 + 1 + 1 + 1, oc1) ∈ news1 := kept _ (.head _) fun r hr => neN (by have := hlt r hr; have q : @LT.lt Nat _ (A r) L1 := this; dsimp only; lia)
  have c2 : (L1 + 1 + 1, oc2) ∈ news1 := kept _ (.tail _ (.head _)) fun r hr => neN (by have := hlt r hr; have q : @LT.lt Nat _ (A r) L1 := this; dsimp only; lia)
  have c3 : (L1 + 1, oc3) ∈ news1 := kept _ (.tail _ (.tail _ (.head _))) fun r hr => neN (by have := hlt r hr; have q : @LT.lt Nat _ (A r) L1 := this; dsimp only; lia)
  dsimp only
  (repeat' (first | (k_unfold; (try dsimp only)) | (refine unhide (by assumption) ?_; (try dsimp only)) | ((fail_if_success (with_reducible first | show wpAny _ _ (exec (Stmt.While _ _ _ _) _) _ _ _ | show wpAny _ _ (exec (Stmt.For _ _ _ _ _) _) _ _ _ | show wpAny _ _ (exec (Stmt.Assign _ (Expr.ListComp _ _ _ _) _) _) _ _ _ | show wpAny _ _ (eval (Expr.ListComp _ _ _ _) _) _ _ _ | show wpAny _ _ (call (Value.type "enumerate") _) _ _ _ | show wpAny _ _ (call (Value.type "zip") _) _ _ _ | refine stand_ref (by decide) ?_)); first | ((with_reducible first | (refine execs_one (by assumption) fun _ => ?_) | (refine execs_hid fun _ _ _ => ?_))) | ((with_reducible show wpAny _ _ (call (Value.builtin "len") [Value.ref _]) _ _ _); k_dflt (refine len_at (by k_asm) (by k_mem) (by ktr_units) ?_; k_whole); (try simp only [refs_length])) | ((with_reducible show wpAny _ _ (subscriptTail _ _ (Value.ref _) (Value.int _ _)) _ _ _); (with_unfolding_all refine item_litK (News.isList (by k_asm) (by k_mem)) (by first | decide | omega) (by first | decide | omega) (by assumption) ?_ (by with_unfolding_all rfl); k_whole)) | ((with_reducible show wpAny _ _ (call (Value.builtin "list.append") [Value.ref _, _]) _ _ _); k_dflt (refine app_at (by k_asm) (by k_asm) (by first | assumption | exact mem_put_self | exact mem_put (by first | assumption | exact mem_put_self | exact mem_put (by first | assumption | exact mem_put_self | exact mem_put (by assumption) (by ktr_unf)) (by ktr_unf)) (by ktr_unf)) (by ktr_units) ?_; k_whole); intro _ _ _; (try k_sweep)) | ((with_reducible show wpAny _ _ (getMethod (Value.ref _) (PySem.Str.ofString "append") _) _ _ _); k_dflt (refine listMethod_K (by k_asm) (by first | assumption | exact mem_put_self | exact mem_put (by first | assumption | exact mem_put_self | exact mem_put (by first | assumption | exact mem_put_self | exact mem_put (by assumption) (by ktr_unf)) (by ktr_unf)) (by ktr_unf)) PySem.F.slot_list_append PySem.F.type_list_append ?_)) | walk1 | ((with_reducible show wpAny _ _ (call (Value.builtin "list.append") [Value.ref _, _]) _ _ _); k_dflt (refine app_at (by k_asm) (by k_asm) (by k_mem) (by ktr_units) ?_; k_whole); intro _ _ _; (try k_sweep)) | (dsimp only; walk1) | fail "no step")))
  rename_i h5 o5 F5 N5 d5 _ _ _
  have hlt1 : ∀ r, Ok d1 r → A1 r ≠ L1 + 1 + 1 + 1 := fun r hr => by
    by_cases q : Ok d r
    · rw [ext.same r q]; exact neN (by have := hlt r q; have q : @LT.lt Nat _ (A r) L1 := this; lia)
    · exact (ext.new r hr q _ (List.Mem.head _)).symm
  have h4 := h3.off (o := o5) hlt1
  have cc1 : (L1 + 1 + 1 + 1, o5) ∈ put (L1 + 1 + 1 + 1) o5 news1 := mem_put_self
  have cc2 : (L1 + 1 + 1, oc2) ∈ put (L1 + 1 + 1 + 1) o5 news1 := mem_put c2 (neN (by lia))
  have cc3 : (L1 + 1, oc3) ∈ put (L1 + 1 + 1 + 1) o5 news1 := mem_put c3 (neN (by lia))
  have kept5 : ∀ q ∈ news, (∀ r, Ok d r → q.1 ≠ A r) → q ∈ put (L1 + 1 + 1 + 1) o5 news1 := fun q hq hr =>
    mem_put (kept q (.tail _ (.tail _ (.tail _ hq))) hr) (neN (by have q : @LT.lt Nat _ q.1 L1 := l1 q hq; lia))
  generalize hled : put (L1 + 1 + 1 + 1) o5 news1 = led at N5 h4 cc1 cc2 cc3 kept5
  clear hled c1 c2 c3
  obtain ⟨nC, hC⟩ := h4.lC
  have hcel : d1.cel.length ≤ 300 := by
    have e : d1.cel = d.cel := by rcases hfa with ⟨rfl, _⟩ | ⟨rfl, _⟩ <;> rfl
    have q1 := hw.ck; have q2 := hw.kn; have q3 := hw.few
    rw [e]; lia
  (with_unfolding_all refine' Assign_ListComp_at [Str.ofString "at", Str.ofString "cell"] F5 ?qe ?qs ?qc ?qd ?qk ?qn ?qx ?qy ?qp ?_ ?qf)
  (case qe => exact rfl)
  (case qs => exact rfl)
  (case qc => exact rfl)
  (case qd => decide)
  (case qk => exact rfl)
  (case qn => decide)
  (case qx => decide)
  (case qy => exact rfl)
  (case qp => exact rfl)
  (case qf => (intro _; exact rfl))
  (repeat' (first | (k_unfold; (try dsimp only)) | (refine unhide (by assumption) ?_; (try dsimp only)) | ((fail_if_success (with_reducible first | show wpAny _ _ (exec (Stmt.While _ _ _ _) _) _ _ _ | show wpAny _ _ (exec (Stmt.For _ _ _ _ _) _) _ _ _ | show wpAny _ _ (exec (Stmt.Assign _ (Expr.ListComp _ _ _ _) _) _) _ _ _ | show wpAny _ _ (eval (Expr.ListComp _ _ _ _) _) _ _ _ | show wpAny _ _ (call (Value.type "enumerate") _) _ _ _ | show wpAny _ _ (call (Value.type "zip") _) _ _ _ | refine stand_ref (by decide) ?_)); first | ((with_reducible first | (refine execs_one (by assumption) fun _ => ?_) | (refine execs_hid fun _ _ _ => ?_))) | ((with_reducible show wpAny _ _ (call (Value.builtin "len") [Value.ref _]) _ _ _); k_dflt (refine len_at (by k_asm) (by k_mem) (by ktr_units) ?_; k_whole); (try simp only [refs_length])) | ((with_reducible show wpAny _ _ (subscriptTail _ _ (Value.ref _) (Value.int _ _)) _ _ _); (with_unfolding_all refine item_litK (News.isList (by k_asm) (by k_mem)) (by first | decide | omega) (by first | decide | omega) (by assumption) ?_ (by with_unfolding_all rfl); k_whole)) | ((with_reducible show wpAny _ _ (call (Value.builtin "list.append") [Value.ref _, _]) _ _ _); k_dflt (refine app_at (by k_asm) (by k_asm) (by first | assumption | exact mem_put_self | exact mem_put (by first | assumption | exact mem_put_self | exact mem_put (by first | assumption | exact mem_put_self | exact mem_put (by assumption) (by ktr_unf)) (by ktr_unf)) (by ktr_unf)) (by ktr_units) ?_; k_whole); intro _ _ _; (try k_sweep)) | ((with_reducible show wpAny _ _ (getMethod (Value.ref _) (PySem.Str.ofString "append") _) _ _ _); k_dflt (refine listMethod_K (by k_asm) (by first | assumption | exact mem_put_self | exact mem_put (by first | assumption | exact mem_put_self | exact mem_put (by first | assumption | exact mem_put_self | exact mem_put (by assumption) (by ktr_unf)) (by ktr_unf)) (by ktr_unf)) PySem.F.slot_list_append PySem.F.type_list_append ?_)) | walk1 | ((with_reducible show wpAny _ _ (call (Value.builtin "list.append") [Value.ref _, _]) _ _ _); k_dflt (refine app_at (by k_asm) (by k_asm) (by k_mem) (by ktr_units) ?_; k_whole); intro _ _ _; (try k_sweep)) | (dsimp only; walk1) | fail "no step")))
  rw [ext.same .C trivial] at hC
  refine src_enum (fun k => (celAt d1 k).op && ((celAt d1 k).wh == i && (celAt d1 k).pl == place)) (fun k v => ∃ t, v = .int (k : Nat) t) rfl (by decide) F5 N5 hC (by rw [refs_length, row_length]; lia) ?_ ?_
  · rintro s₂ ⟨hh, rfl⟩
    constructor
    · intro k C oC m₂ hk tk E' hkl hB hNs F9 N9
      obtain ⟨v, tt, hv, hb1, hb2⟩ := hB
      have hkl' : k < d1.cel.length := by simpa [refs, row] using hkl
      have hv' : v = .ref (A1 (.cl k)) := by
        have := refs_get (row_get (f := fun k => A1 (.cl k)) hkl')
        rw [this] at hv; exact (Option.some.inj hv).symm
      subst hv'
      obtain ⟨ta, tb, vv, nn, hov, hcl⟩ := h4.cell hkl'
      have i0 : [Value.int (celAt d1 k).wh ta, .int (celAt d1 k).pl tb, .bool (celAt d1 k).op, vv][(0 : Int).toNat]? = some (.int (celAt d1 k).wh ta) := rfl
      have i1 : [Value.int (celAt d1 k).wh ta, .int (celAt d1 k).pl tb, .bool (celAt d1 k).op, vv][(1 : Int).toNat]? = some (.int (celAt d1 k).pl tb) := rfl
      have i2 : [Value.int (celAt d1 k).wh ta, .int (celAt d1 k).pl tb, .bool (celAt d1 k).op, vv][(2 : Int).toNat]? = some (.bool (celAt d1 k).op) := rfl
      refine wpAny_tests_one ?_
      (repeat' (first | (k_unfold; (try dsimp only)) | (refine unhide (by assumption) ?_; (try dsimp only)) | ((fail_if_success (with_reducible first | show wpAny _ _ (exec (Stmt.While _ _ _ _) _) _ _ _ | show wpAny _ _ (exec (Stmt.For _ _ _ _ _) _) _ _ _ | show wpAny _ _ (exec (Stmt.Assign _ (Expr.ListComp _ _ _ _) _) _) _ _ _ | show wpAny _ _ (eval (Expr.ListComp _ _ _ _) _) _ _ _ | show wpAny _ _ (call (Value.type "enumerate") _) _ _ _ | show wpAny _ _ (call (Value.type "zip") _) _ _ _ | refine stand_ref (by decide) ?_)); first | ((with_reducible first | (refine execs_one (by assumption) fun _ => ?_) | (refine execs_hid fun _ _ _ => ?_))) | ((with_reducible show wpAny _ _ (call (Value.builtin "len") [Value.ref _]) _ _ _); k_dflt (refine len_at (by k_asm) (by k_mem) (by ktr_units) ?_; k_whole); (try simp only [refs_length])) | ((with_reducible show wpAny _ _ (subscriptTail _ _ (Value.ref _) (Value.int _ _)) _ _ _); (with_unfolding_all refine item_litK (News.isList (by k_asm) (by k_mem)) (by first | decide | omega) (by first | decide | omega) (by assumption) ?_ (by with_unfolding_all rfl); k_whole)) | ((with_reducible show wpAny _ _ (call (Value.builtin "list.append") [Value.ref _, _]) _ _ _); k_dflt (refine app_at (by k_asm) (by k_asm) (by first | assumption | exact mem_put_self | exact mem_put (by first | assumption | exact mem_put_self | exact mem_put (by first | assumption | exact mem_put_self | exact mem_put (by assumption) (by ktr_unf)) (by ktr_unf)) (by ktr_unf)) (by ktr_units) ?_; k_whole); intro _ _ _; (try k_sweep)) | ((with_reducible show wpAny _ _ (getMethod (Value.ref _) (PySem.Str.ofString "append") _) _ _ _); k_dflt (refine listMethod_K (by k_asm) (by first | assumption | exact mem_put_self | exact mem_put (by first | assumption | exact mem_put_self | exact mem_put (by first | assumption | exact mem_put_self | exact mem_put (by assumption) (by ktr_unf)) (by ktr_unf)) (by ktr_unf)) PySem.F.slot_list_append PySem.F.type_list_append ?_)) | walk1 | ((with_reducible show wpAny _ _ (call (Value.builtin "list.append") [Value.ref _, _]) _ _ _); k_dflt (refine app_at (by k_asm) (by k_asm) (by k_mem) (by ktr_units) ?_; k_whole); intro _ _ _; (try k_sweep)) | (dsimp only; walk1) | fail "no step")))
      all_goals first | exact and3_1 (by assumption) (by assumption) (by assumption) | exact and3_2 (by assumption) | exact and3_3 (by assumption) | exact and3_4 (by assumption)
    · intro k C oC m₂ hk tk E' hkl hp hB hNs F9 N9
      obtain ⟨v, tt, hv, hb1, hb2⟩ := hB
      (repeat' (first | (k_unfold; (try dsimp only)) | (refine unhide (by assumption) ?_; (try dsimp only)) | ((fail_if_success (with_reducible first | show wpAny _ _ (exec (Stmt.While _ _ _ _) _) _ _ _ | show wpAny _ _ (exec (Stmt.For _ _ _ _ _) _) _ _ _ | show wpAny _ _ (exec (Stmt.Assign _ (Expr.ListComp _ _ _ _) _) _) _ _ _ | show wpAny _ _ (eval (Expr.ListComp _ _ _ _) _) _ _ _ | show wpAny _ _ (call (Value.type "enumerate") _) _ _ _ | show wpAny _ _ (call (Value.type "zip") _) _ _ _ | refine stand_ref (by decide) ?_)); first | ((with_reducible first | (refine execs_one (by assumption) fun _ => ?_) | (refine execs_hid fun _ _ _ => ?_))) | ((with_reducible show wpAny _ _ (call (Value.builtin "len") [Value.ref _]) _ _ _); k_dflt (refine len_at (by k_asm) (by k_mem) (by ktr_units) ?_; k_whole); (try simp only [refs_length])) | ((with_reducible show wpAny _ _ (subscriptTail _ _ (Value.ref _) (Value.int _ _)) _ _ _); (with_unfolding_all refine item_litK (News.isList (by k_asm) (by k_mem)) (by first | decide | omega) (by first | decide | omega) (by assumption) ?_ (by with_unfolding_all rfl); k_whole)) | ((with_reducible show wpAny _ _ (call (Value.builtin "list.append") [Value.ref _, _]) _ _ _); k_dflt (refine app_at (by k_asm) (by k_asm) (by first | assumption | exact mem_put_self | exact mem_put (by first | assumption | exact mem_put_self | exact mem_put (by first | assumption | exact mem_put_self | exact mem_put (by assumption) (by ktr_unf)) (by ktr_unf)) (by ktr_unf)) (by ktr_units) ?_; k_whole); intro _ _ _; (try k_sweep)) | ((with_reducible show wpAny _ _ (getMethod (Value.ref _) (PySem.Str.ofString "append") _) _ _ _); k_dflt (refine listMethod_K (by k_asm) (by first | assumption | exact mem_put_self | exact mem_put (by first | assumption | exact mem_put_self | exact mem_put (by first | assumption | exact mem_put_self | exact mem_put (by assumption) (by ktr_unf)) (by ktr_unf)) (by ktr_unf)) PySem.F.slot_list_append PySem.F.type_list_append ?_)) | walk1 | ((with_reducible show wpAny _ _ (call (Value.builtin "list.append") [Value.ref _, _]) _ _ _); k_dflt (refine app_at (by k_asm) (by k_asm) (by k_mem) (by ktr_units) ?_; k_whole); intro _ _ _; (try k_sweep)) | (dsimp only; walk1) | fail "no step")))
  · rintro s₂ ⟨hh, rfl⟩ D h9 tk9 ys ep F9 N9 hD hP
    rw [refs_length, row_length] at hP
    have hyl9 : ys.length ≤ 300 := by
      have e1 := hP.length
      have e2 := List.length_filter_le (fun k => (celAt d1 k).op && ((celAt d1 k).wh == i && (celAt d1 k).pl == place)) (List.range d1.cel.length)
      rw [List.length_range] at e2
      lia
    rcases hfa with ⟨rfl, hk, he⟩ | ⟨rfl, rfl, hne⟩
    · obtain ⟨hkn, r, hr⟩ := hold kf hk he
      have hr' : (List.range d1.cel.length).filter (fun k => (celAt d1 k).op && ((celAt d1 k).wh == i && (celAt d1 k).pl == place)) = kf :: r := hr
      rw [hr'] at hP
      cases hP with
      | cons hG hP' =>
        rename_i ys'
        obtain ⟨tq, rfl⟩ := hG
        have hy0 : (Value.int (kf : Nat) tq :: ys')[(0 : Int).toNat]? = some (.int (kf : Nat) tq) := rfl
        have hyl : 0 < (Value.int (kf : Nat) tq :: ys').length := Nat.succ_pos _
        have hyf : (Value.int (kf : Nat) tq :: ys').length ≤ 300 := hyl9
        obtain ⟨nK, hK⟩ := h4.lK
        rw [ext.same .K trivial] at hK
        have hkk : (refs (row (fun k => A1 (.ui k)) d1.kn))[((kf : Nat) : Int).toNat]? = some (.ref (A1 (.ui kf))) := refs_get (row_get hkn)
        have hkf : ((kf : Nat) : Int) < 2 ^ 63 := by have := hw.kn; have := hw.few; lia
        obtain ⟨oU, vlU, hu1, hu2, _⟩ := h4.up (k := kf) (by have := hw.kn; lia)
        (repeat' (first | (k_unfold; (try dsimp only)) | (refine unhide (by assumption) ?_; (try dsimp only)) | ((fail_if_success (with_reducible first | show wpAny _ _ (exec (Stmt.While _ _ _ _) _) _ _ _ | show wpAny _ _ (exec (Stmt.For _ _ _ _ _) _) _ _ _ | show wpAny _ _ (exec (Stmt.Assign _ (Expr.ListComp _ _ _ _) _) _) _ _ _ | show wpAny _ _ (eval (Expr.ListComp _ _ _ _) _) _ _ _ | show wpAny _ _ (call (Value.type "enumerate") _) _ _ _ | show wpAny _ _ (call (Value.type "zip") _) _ _ _ | refine stand_ref (by decide) ?_)); first | ((with_reducible first | (refine execs_one (by assumption) fun _ => ?_) | (refine execs_hid fun _ _ _ => ?_))) | ((with_reducible show wpAny _ _ (call (Value.builtin "len") [Value.ref _]) _ _ _); k_dflt (refine len_at (by k_asm) (by k_mem) (by ktr_units) ?_; k_whole); (try simp only [refs_length])) | ((with_reducible show wpAny _ _ (subscriptTail _ _ (Value.ref _) (Value.int _ _)) _ _ _); (with_unfolding_all refine item_litK (News.isList (by k_asm) (by k_mem)) (by first | decide | omega) (by first | decide | omega) (by assumption) ?_ (by with_unfolding_all rfl); k_whole)) | ((with_reducible show wpAny _ _ (call (Value.builtin "list.append") [Value.ref _, _]) _ _ _); k_dflt (refine app_at (by k_asm) (by k_asm) (by first | assumption | exact mem_put_self | exact mem_put (by first | assumption | exact mem_put_self | exact mem_put (by first | assumption | exact mem_put_self | exact mem_put (by assumption) (by ktr_unf)) (by ktr_unf)) (by ktr_unf)) (by ktr_units) ?_; k_whole); intro _ _ _; (try k_sweep)) | ((with_reducible show wpAny _ _ (getMethod (Value.ref _) (PySem.Str.ofString "append") _) _ _ _); k_dflt (refine listMethod_K (by k_asm) (by first | assumption | exact mem_put_self | exact mem_put (by first | assumption | exact mem_put_self | exact mem_put (by first | assumption | exact mem_put_self | exact mem_put (by assumption) (by ktr_unf)) (by ktr_unf)) (by ktr_unf)) PySem.F.slot_list_append PySem.F.type_list_append ?_)) | walk1 | ((with_reducible show wpAny _ _ (call (Value.builtin "list.append") [Value.ref _, _]) _ _ _); k_dflt (refine app_at (by k_asm) (by k_asm) (by k_mem) (by ktr_units) ?_; k_whole); intro _ _ _; (try k_sweep)) | (dsimp only; walk1) | fail "no step")))
        (rename Fr h₀ _ _ _ => kF); (rename News h₀ _ _ _ => kN)
        have e9 : decide (A1 (Role.ui kf) = A1 (Role.ui kf)) = true := by simp
        rw [e9]
        exact pold A1 _ _ _ kF kN (h4.mono fun q hq => List.mem_cons_of_mem _ hq) (ext.less fun q hq => .tail _ (.tail _ (.tail _ hq))) fun q hq hr => List.mem_cons_of_mem _ (kept5 q hq hr)
    · obtain ⟨hoo, hkn⟩ := hnew hne
      have hr' : (List.range (addUp d i place (lead place (ixsAt d i))).cel.length).filter (fun k => (celAt (addUp d i place (lead place (ixsAt d i))) k).op && ((celAt (addUp d i place (lead place (ixsAt d i))) k).wh == i && (celAt (addUp d i place (lead place (ixsAt d i))) k).pl == place)) = [] := hoo
      rw [hr'] at hP
      cases hP
      (repeat' (first | (k_unfold; (try dsimp only)) | (refine unhide (by assumption) ?_; (try dsimp only)) | ((fail_if_success (with_reducible first | show wpAny _ _ (exec (Stmt.While _ _ _ _) _) _ _ _ | show wpAny _ _ (exec (Stmt.For _ _ _ _ _) _) _ _ _ | show wpAny _ _ (exec (Stmt.Assign _ (Expr.ListComp _ _ _ _) _) _) _ _ _ | show wpAny _ _ (eval (Expr.ListComp _ _ _ _) _) _ _ _ | show wpAny _ _ (call (Value.type "enumerate") _) _ _ _ | show wpAny _ _ (call (Value.type "zip") _) _ _ _ | refine stand_ref (by decide) ?_)); first | ((with_reducible first | (refine execs_one (by assumption) fun _ => ?_) | (refine execs_hid fun _ _ _ => ?_))) | ((with_reducible show wpAny _ _ (call (Value.builtin "len") [Value.ref _]) _ _ _); k_dflt (refine len_at (by k_asm) (by k_mem) (by ktr_units) ?_; k_whole); (try simp only [refs_length])) | ((with_reducible show wpAny _ _ (subscriptTail _ _ (Value.ref _) (Value.int _ _)) _ _ _); (with_unfolding_all refine item_litK (News.isList (by k_asm) (by k_mem)) (by first | decide | omega) (by first | decide | omega) (by assumption) ?_ (by with_unfolding_all rfl); k_whole)) | ((with_reducible show wpAny _ _ (call (Value.builtin "list.append") [Value.ref _, _]) _ _ _); k_dflt (refine app_at (by k_asm) (by k_asm) (by first | assumption | exact mem_put_self | exact mem_put (by first | assumption | exact mem_put_self | exact mem_put (by first | assumption | exact mem_put_self | exact mem_put (by assumption) (by ktr_unf)) (by ktr_unf)) (by ktr_unf)) (by ktr_units) ?_; k_whole); intro _ _ _; (try k_sweep)) | ((with_reducible show wpAny _ _ (getMethod (Value.ref _) (PySem.Str.ofString "append") _) _ _ _); k_dflt (refine listMethod_K (by k_asm) (by first | assumption | exact mem_put_self | exact mem_put (by first | assumption | exact mem_put_self | exact mem_put (by first | assumption | exact mem_put_self | exact mem_put (by assumption) (by ktr_unf)) (by ktr_unf)) (by ktr_unf)) PySem.F.slot_list_append PySem.F.type_list_append ?_)) | walk1 | ((with_reducible show wpAny _ _ (call (Value.builtin "list.append") [Value.ref _, _]) _ _ _); k_dflt (refine app_at (by k_asm) (by k_asm) (by k_mem) (by ktr_units) ?_; k_whole); intro _ _ _; (try k_sweep)) | (dsimp only; walk1) | fail "no step")))
      obtain ⟨nK, hK⟩ := h4.lK
      rw [ext.same .K trivial] at hK
      (with_unfolding_all refine' ListComp_at [Str.ofString "one"] F9 ?qc ?qd ?qk ?qn ?qx ?_ ?qf)
      (case qc => exact rfl)
      (case qd => decide)
      (case qk => exact rfl)
      (case qn => decide)
      (case qx => decide)
      (case qf => (intro _; exact rfl))
      (repeat' (first | (k_unfold; (try dsimp only)) | (refine unhide (by assumption) ?_; (try dsimp only)) | ((fail_if_success (with_reducible first | show wpAny _ _ (exec (Stmt.While _ _ _ _) _) _ _ _ | show wpAny _ _ (exec (Stmt.For _ _ _ _ _) _) _ _ _ | show wpAny _ _ (exec (Stmt.Assign _ (Expr.ListComp _ _ _ _) _) _) _ _ _ | show wpAny _ _ (eval (Expr.ListComp _ _ _ _) _) _ _ _ | show wpAny _ _ (call (Value.type "enumerate") _) _ _ _ | show wpAny _ _ (call (Value.type "zip") _) _ _ _ | refine stand_ref (by decide) ?_)); first | ((with_reducible first | (refine execs_one (by assumption) fun _ => ?_) | (refine execs_hid fun _ _ _ => ?_))) | ((with_reducible show wpAny _ _ (call (Value.builtin "len") [Value.ref _]) _ _ _); k_dflt (refine len_at (by k_asm) (by k_mem) (by ktr_units) ?_; k_whole); (try simp only [refs_length])) | ((with_reducible show wpAny _ _ (subscriptTail _ _ (Value.ref _) (Value.int _ _)) _ _ _); (with_unfolding_all refine item_litK (News.isList (by k_asm) (by k_mem)) (by first | decide | omega) (by first | decide | omega) (by assumption) ?_ (by with_unfolding_all rfl); k_whole)) | ((with_reducible show wpAny _ _ (call (Value.builtin "list.append") [Value.ref _, _]) _ _ _); k_dflt (refine app_at (by k_asm) (by k_asm) (by first | assumption | exact mem_put_self | exact mem_put (by first | assumption | exact mem_put_self | exact mem_put (by first | assumption | exact mem_put_self | exact mem_put (by assumption) (by ktr_unf)) (by ktr_unf)) (by ktr_unf)) (by ktr_units) ?_; k_whole); intro _ _ _; (try k_sweep)) | ((with_reducible show wpAny _ _ (getMethod (Value.ref _) (PySem.Str.ofString "append") _) _ _ _); k_dflt (refine listMethod_K (by k_asm) (by first | assumption | exact mem_put_self | exact mem_put (by first | assumption | exact mem_put_self | exact mem_put (by first | assumption | exact mem_put_self | exact mem_put (by assumption) (by ktr_unf)) (by ktr_unf)) (by ktr_unf)) PySem.F.slot_list_append PySem.F.type_list_append ?_)) | walk1 | ((with_reducible show wpAny _ _ (call (Value.builtin "list.append") [Value.ref _, _]) _ _ _); k_dflt (refine app_at (by k_asm) (by k_asm) (by k_mem) (by ktr_units) ?_; k_whole); intro _ _ _; (try k_sweep)) | (dsimp only; walk1) | fail "no step")))
      refine src_list (fun _ => false) (fun _ _ => True) rfl F9 N9 (.tail _ hK) (by rw [refs_length, row_length]; have := hw.kn; have := hw.few; show d.kn ≤ _; lia) ?_ ?_
      · rintro s₂ ⟨hh, rfl⟩
        constructor
        · intro k C oC m₂ hk tk E' hkl hB hNs F10 N10
          obtain ⟨v, hv, hb1⟩ := hB
          have hkl' : k < d.kn := by rw [refs_length, row_length] at hkl; exact hkl
          have hv' : v = .ref (A1 (.ui k)) := by
            have := refs_get (row_get (f := fun k => A1 (.ui k)) hkl')
            have e2 : some (Value.ref (A1 (Role.ui k))) = some v := this.symm.trans hv
            exact (Option.some.inj e2).symm
          subst hv'
          have hku : k < (addUp d i place (lead place (ixsAt d i))).ups.length := by simp [addUp]; lia
          have hnu : d.ups.length < (addUp d i place (lead place (ixsAt d i))).ups.length := by simp [addUp]
          obtain ⟨oU, vlU, hu1, hu2, _⟩ := h4.up hku
          obtain ⟨oV, vlV, hw1, hw2, _⟩ := h4.up hnu
          have hne9 : A1 (.ui k) ≠ A1 (.ui d.ups.length) := h4.ne (r := .ui k) (r' := .ui d.ups.length) hku hnu (by intro e; cases e; lia)
          refine wpAny_tests_one ?_
          (repeat' (first | (k_unfold; (try dsimp only)) | (refine unhide (by assumption) ?_; (try dsimp only)) | ((fail_if_success (with_reducible first | show wpAny _ _ (exec (Stmt.While _ _ _ _) _) _ _ _ | show wpAny _ _ (exec (Stmt.For _ _ _ _ _) _) _ _ _ | show wpAny _ _ (exec (Stmt.Assign _ (Expr.ListComp _ _ _ _) _) _) _ _ _ | show wpAny _ _ (eval (Expr.ListComp _ _ _ _) _) _ _ _ | show wpAny _ _ (call (Value.type "enumerate") _) _ _ _ | show wpAny _ _ (call (Value.type "zip") _) _ _ _ | refine stand_ref (by decide) ?_)); first | ((with_reducible first | (refine execs_one (by assumption) fun _ => ?_) | (refine execs_hid fun _ _ _ => ?_))) | ((with_reducible show wpAny _ _ (call (Value.builtin "len") [Value.ref _]) _ _ _); k_dflt (refine len_at (by k_asm) (by k_mem) (by ktr_units) ?_; k_whole); (try simp only [refs_length])) | ((with_reducible show wpAny _ _ (subscriptTail _ _ (Value.ref _) (Value.int _ _)) _ _ _); (with_unfolding_all refine item_litK (News.isList (by k_asm) (by k_mem)) (by first | decide | omega) (by first | decide | omega) (by assumption) ?_ (by with_unfolding_all rfl); k_whole)) | ((with_reducible show wpAny _ _ (call (Value.builtin "list.append") [Value.ref _, _]) _ _ _); k_dflt (refine app_at (by k_asm) (by k_asm) (by first | assumption | exact mem_put_self | exact mem_put (by first | assumption | exact mem_put_self | exact mem_put (by first | assumption | exact mem_put_self | exact mem_put (by assumption) (by ktr_unf)) (by ktr_unf)) (by ktr_unf)) (by ktr_units) ?_; k_whole); intro _ _ _; (try k_sweep)) | ((with_reducible show wpAny _ _ (getMethod (Value.ref _) (PySem.Str.ofString "append") _) _ _ _); k_dflt (refine listMethod_K (by k_asm) (by first | assumption | exact mem_put_self | exact mem_put (by first | assumption | exact mem_put_self | exact mem_put (by first | assumption | exact mem_put_self | exact mem_put (by assumption) (by ktr_unf)) (by ktr_unf)) (by ktr_unf)) PySem.F.slot_list_append PySem.F.type_list_append ?_)) | walk1 | ((with_reducible show wpAny _ _ (call (Value.builtin "list.append") [Value.ref _, _]) _ _ _); k_dflt (refine app_at (by k_asm) (by k_asm) (by k_mem) (by ktr_units) ?_; k_whole); intro _ _ _; (try k_sweep)) | (dsimp only; walk1) | fail "no step")))
          all_goals simp [hne9]
        · intro k C oC m₂ hk tk E' hkl hp
          cases hp
      · rintro s₂ ⟨hh, rfl⟩ D2 h10 tk10 ys2 ep2 F10 N10 hD2 hP2
        have e0 : (List.range (refs (row (fun k => A1 (.ui k)) d.kn)).length).filter (fun _ => false) = [] := by simp
        have hP3 : Paired (fun (_ : Nat) (_ : Value) => True) [] ys2 := by rw [← e0]; exact hP2
        cases hP3
        have hKl : (refs (row (fun k => A1 (.ui k)) (addUp d i place (lead place (ixsAt d i))).kn)).length ≤ 300 := by
          rw [refs_length, row_length]; have := hw.kn; have := hw.few; show d.kn ≤ _; lia
        have hCl : (refs (row (fun k => A1 (.cl k)) (addUp d i place (lead place (ixsAt d i))).cel.length)).length ≤ 300 := by
          rw [refs_length, row_length]; exact hcel
        have hCK : A .C ≠ A .K := h.ne (r := .C) (r' := .K) trivial trivial (by simp)
        have h9' : H ((D2, W.listOf #[] ep2) :: (D, W.listOf #[] ep) :: led) A1 (addUp d i place (lead place (ixsAt d i))) := h4.mono fun q hq => List.mem_cons_of_mem _ (List.mem_cons_of_mem _ hq)
        have kept9 : ∀ q ∈ news, (∀ r, Ok d r → q.1 ≠ A r) → q ∈ (D2, W.listOf #[] ep2) :: (D, W.listOf #[] ep) :: led := fun q hq hr => List.mem_cons_of_mem _ (List.mem_cons_of_mem _ (kept5 q hq hr))
        replace hC : (A .C, W.listOf (refs (row (fun k => A1 (.cl k)) (addUp d i place (lead place (ixsAt d i))).cel.length)).toArray nC) ∈ (D2, W.listOf #[] ep2) :: (D, W.listOf #[] ep) :: led := List.mem_cons_of_mem _ (List.mem_cons_of_mem _ hC)
        replace hK : (A .K, W.listOf (refs (row (fun k => A1 (.ui k)) (addUp d i place (lead place (ixsAt d i))).kn)).toArray nK) ∈ (D2, W.listOf #[] ep2) :: (D, W.listOf #[] ep) :: led := List.mem_cons_of_mem _ (List.mem_cons_of_mem _ hK)
        replace cc1 : (L1 + 1 + 1 + 1, o5) ∈ (D2, W.listOf #[] ep2) :: (D, W.listOf #[] ep) :: led := List.mem_cons_of_mem _ (List.mem_cons_of_mem _ cc1)
        replace cc2 : (L1 + 1 + 1, oc2) ∈ (D2, W.listOf #[] ep2) :: (D, W.listOf #[] ep) :: led := List.mem_cons_of_mem _ (List.mem_cons_of_mem _ cc2)
        replace cc3 : (L1 + 1, oc3) ∈ (D2, W.listOf #[] ep2) :: (D, W.listOf #[] ep) :: led := List.mem_cons_of_mem _ (List.mem_cons_of_mem _ cc3)
        have hk1 : L1 + 1 + 1 + 1 ≠ A .K := neN (by have q : @LT.lt Nat _ (A .K) L1 := hlt .K trivial; lia)
        have hk2 : L1 + 1 + 1 ≠ A .K := neN (by have q : @LT.lt Nat _ (A .K) L1 := hlt .K trivial; lia)
        have hk3 : L1 + 1 ≠ A .K := neN (by have q : @LT.lt Nat _ (A .K) L1 := hlt .K trivial; lia)
        have cD : (D2, W.listOf ([] : List Value).toArray ep2) ∈ (D2, W.listOf #[] ep2) :: (D, W.listOf #[] ep) :: led := List.Mem.head _
        generalize hbig : (D2, W.listOf #[] ep2) :: (D, W.listOf #[] ep) :: led = big at N10 h9' kept9 hC hK cc1 cc2 cc3 cD
        clear hbig N9
        dsimp only
        (repeat' (first | (k_unfold; (try dsimp only)) | (refine unhide (by assumption) ?_; (try dsimp only)) | ((fail_if_success (with_reducible first | show wpAny _ _ (exec (Stmt.While _ _ _ _) _) _ _ _ | show wpAny _ _ (exec (Stmt.For _ _ _ _ _) _) _ _ _ | show wpAny _ _ (exec (Stmt.Assign _ (Expr.ListComp _ _ _ _) _) _) _ _ _ | show wpAny _ _ (eval (Expr.ListComp _ _ _ _) _) _ _ _ | show wpAny _ _ (call (Value.type "enumerate") _) _ _ _ | show wpAny _ _ (call (Value.type "zip") _) _ _ _ | refine stand_ref (by decide) ?_)); first | ((with_reducible first | (refine execs_one (by assumption) fun _ => ?_) | (refine execs_hid fun _ _ _ => ?_))) | ((with_reducible show wpAny _ _ (call (Value.builtin "len") [Value.ref _]) _ _ _); k_dflt (refine len_at (by k_asm) (by k_mem) (by ktr_units) ?_; k_whole); (try simp only [refs_length])) | ((with_reducible show wpAny _ _ (subscriptTail _ _ (Value.ref _) (Value.int _ _)) _ _ _); (with_unfolding_all refine item_litK (News.isList (by k_asm) (by k_mem)) (by first | decide | omega) (by first | decide | omega) (by assumption) ?_ (by with_unfolding_all rfl); k_whole)) | ((with_reducible show wpAny _ _ (call (Value.builtin "list.append") [Value.ref _, _]) _ _ _); k_dflt (refine app_at (by k_asm) (by k_asm) (by first | assumption | exact mem_put_self | exact mem_put (by first | assumption | exact mem_put_self | exact mem_put (by first | assumption | exact mem_put_self | exact mem_put (by assumption) (by ktr_unf)) (by ktr_unf)) (by ktr_unf)) (by ktr_units) ?_; k_whole); intro _ _ _; (try k_sweep)) | ((with_reducible show wpAny _ _ (getMethod (Value.ref _) (PySem.Str.ofString "append") _) _ _ _); k_dflt (refine listMethod_K (by k_asm) (by first | assumption | exact mem_put_self | exact mem_put (by first | assumption | exact mem_put_self | exact mem_put (by first | assumption | exact mem_put_self | exact mem_put (by assumption) (by ktr_unf)) (by ktr_unf)) (by ktr_unf)) PySem.F.slot_list_append PySem.F.type_list_append ?_)) | walk1 | ((with_reducible show wpAny _ _ (call (Value.builtin "list.append") [Value.ref _, _]) _ _ _); k_dflt (refine app_at (by k_asm) (by k_asm) (by k_mem) (by ktr_units) ?_; k_whole); intro _ _ _; (try k_sweep)) | (dsimp only; walk1) | fail "no step")))
        (rename Fr h₀ _ _ _ => kF); (rename News h₀ _ _ _ => kN); (rename ∀ q ∈ put (A .K) _ _, q.1 < _ => lt9)
        have e1 : Ext A d news A1 (addUp d i place (lead place (ixsAt d i))) := ext.less fun q hq => .tail _ (.tail _ (.tail _ hq))
        have hkn' := h9'.know (n := nK + 1)
        rw [ext.same .K trivial] at hkn'
        have e2 : Ext A1 (addUp d i place (lead place (ixsAt d i))) big A1 { addUp d i place (lead place (ixsAt d i)) with kn := d.kn + 1 } := Ext.eq fun r => by cases r <;> exact Iff.rfl
        rw [← hkn] at kN lt9
        obtain ⟨h12, e3⟩ := hkn'.addCel (i := i) (pl := place) (t1 := t1) (t2 := t2) (n := nC + 1) (n' := 0) (by show d.kn + 1 ≤ (d.ups ++ [_]).length; simp; have := hw.kn; lia) lt9
        rw [ext.same .C trivial] at h12
        have k2 : Kept A1 (addUp d i place (lead place (ixsAt d i))) big (put (A .K) (W.listOf (refs (row (fun k => A1 (.ui k)) d.kn) ++ [Value.ref (A1 (.ui d.kn))]).toArray (nK + 1)) big) := by
          rw [← ext.same .K trivial]; exact Kept.put trivial
        have e13 := e1.trans (e2.trans e3 k2 (hkn'.live e2)) kept9 (h9'.live e1)
        refine pnew hne _ _ _ _ kF kN h12 e13 fun q hq hr => ?_
        exact mem_put (.tail _ (mem_put (kept9 q hq hr) (hr .K trivial))) (hr .C trivial)
end

end
section
/-- what _law_seen hands back -/
def SeenVal (d : Dt) (k : Nat) (v : Value) : Prop :=
  if (celAt d k).op = true then ∃ t, v = .int ((mstAt d (celAt d k).wh).getD (celAt d k).pl 0) t else OptVal v (celAt d k).vl
theorem ints_get? {vs : List Value} {ns : List Int} (h : IntsAre vs ns) {j : Nat} (hj : j < ns.length) : ∃ t, vs[j]? = some (.int (ns.getD j 0) t) := by
  obtain ⟨t, ht⟩ := h.get j ns[j] (by simp [hj])
  refine ⟨t, ?_⟩
  simp [List.getD, ht, hj]

section
variable {w : World} {base h₀ : Heap} {outer : List Env} {A₀ : Around} {dp u : Nat} {env : Env} {L : Addr} {m mg mb : Str → Option Value}
    {loose : List Str} {mean : ExcName → Option Value} {p : Program} {s : Shared} {news : List (Addr × Obj)} {R : Result → Shared → Prop}
set_option maxHeartbeats 4000000 in
theorem seen_H (C : Cx w A₀ base h₀ outer L s m mg mb loose mean p news env) (hd : dp ≤ 480) (hu : u ≤ 4800) {A : Role → Addr} {d : Dt} (h : H news A d) (hw : Wf d) {k : Nat} {t : Tok} (hk : k < d.cel.length)
    (hwh : (celAt d k).wh < d.mst.length) (hpl : (celAt d k).pl < (mstAt d (celAt d k).wh).length)
    (post : ∀ v h' tk, SeenVal d k v → Fr h₀ L h' m → News h₀ L h' news → R (.ok (.ret v)) { s with heap := h', toks := tk }) :
    codeAny (model Challenge.rw_nt0630_01.row.prog w) ⟨none, dp, some (env :: outer), some [], u⟩ (.call (.ref 165) ⟨[.ref (A .C), .ref (A .S), .int (k : Nat) t], []⟩) R s := by
  obtain ⟨B, F, X, T, N, hf, hke⟩ := C
  obtain ⟨nC, hC⟩ := h.lC
  obtain ⟨nS, hS⟩ := h.lS
  obtain ⟨ta, tb, vv, nn, hov, hcl⟩ := h.cell hk
  obtain ⟨vs, nm, hvs, hml⟩ := h.mirror hwh
  have i0 : [Value.int (celAt d k).wh ta, .int (celAt d k).pl tb, .bool (celAt d k).op, vv][(0 : Int).toNat]? = some (.int (celAt d k).wh ta) := rfl
  have i1 : [Value.int (celAt d k).wh ta, .int (celAt d k).pl tb, .bool (celAt d k).op, vv][(1 : Int).toNat]? = some (.int (celAt d k).pl tb) := rfl
  have i2 : [Value.int (celAt d k).wh ta, .int (celAt d k).pl tb, .bool (celAt d k).op, vv][(2 : Int).toNat]? = some (.bool (celAt d k).op) := rfl
  have i3 : [Value.int (celAt d k).wh ta, .int (celAt d k).pl tb, .bool (celAt d k).op, vv][(3 : Int).toNat]? = some vv := rfl
  have j0 : (refs (row (fun k => A (.cl k)) d.cel.length))[((k : Nat) : Int).toNat]? = some (.ref (A (.cl k))) := refs_get (row_get hk)
  have j1 : (refs (row (fun i => A (.mir i)) d.mst.length))[(((celAt d k).wh : Nat) : Int).toNat]? = some (.ref (A (.mir (celAt d k).wh))) := refs_get (row_get hwh)
  obtain ⟨tv, htv⟩ := ints_get? hvs hpl
  have j2 : vs[(((celAt d k).pl : Nat) : Int).toNat]? = some (.int ((mstAt d (celAt d k).wh).getD (celAt d k).pl 0) tv) := htv
  have b1 : ((k : Nat) : Int) < 2 ^ 63 := by have := hw.ck; have := hw.kn; have := hw.few; omega
  have b2 : (((celAt d k).wh : Nat) : Int) < 2 ^ 63 := by have := hw.nm; have := hw.gfew; omega
  have b3 : (((celAt d k).pl : Nat) : Int) < 2 ^ 63 := by have := hw.mfit (celAt d k).wh; omega
  cases hop : (celAt d k).op with
  | true =>
    simp only [hop] at hcl i0 i1 i2 i3
    tb_start
    (repeat' (first | (k_unfold; (try dsimp only)) | (refine unhide (by assumption) ?_; (try dsimp only)) | ((fail_if_success (with_reducible first | show wpAny _ _ (exec (Stmt.While _ _ _ _) _) _ _ _ | show wpAny _ _ (exec (Stmt.For _ _ _ _ _) _) _ _ _ | show wpAny _ _ (exec (Stmt.Assign _ (Expr.ListComp _ _ _ _) _) _) _ _ _ | show wpAny _ _ (eval (Expr.ListComp _ _ _ _) _) _ _ _ | show wpAny _ _ (call (Value.type "enumerate") _) _ _ _ | show wpAny _ _ (call (Value.type "zip") _) _ _ _ | refine stand_ref (by decide) ?_)); first | ((with_reducible first | (refine execs_one (by assumption) fun _ => ?_) | (refine execs_hid fun _ _ _ => ?_))) | ((with_reducible show wpAny _ _ (subscriptTail _ _ (Value.ref _) (Value.int _ _)) _ _ _); (with_unfolding_all refine item_litK (News.isList (by k_asm) (by k_mem)) (by first | decide | omega) (by first | decide | omega) (by assumption) ?_ (by with_unfolding_all rfl); k_whole)) | walk1  | (dsimp only; walk1) | fail "no step")))
    (rename Fr h₀ _ _ _ => kF); (rename News h₀ _ _ _ => kN)
    exact post _ _ _ (by unfold SeenVal; rw [if_pos hop]; exact ⟨_, rfl⟩) kF kN
  | false =>
    simp only [hop] at hcl i0 i1 i2 i3
    tb_start
    (repeat' (first | (k_unfold; (try dsimp only)) | (refine unhide (by assumption) ?_; (try dsimp only)) | ((fail_if_success (with_reducible first | show wpAny _ _ (exec (Stmt.While _ _ _ _) _) _ _ _ | show wpAny _ _ (exec (Stmt.For _ _ _ _ _) _) _ _ _ | show wpAny _ _ (exec (Stmt.Assign _ (Expr.ListComp _ _ _ _) _) _) _ _ _ | show wpAny _ _ (eval (Expr.ListComp _ _ _ _) _) _ _ _ | show wpAny _ _ (call (Value.type "enumerate") _) _ _ _ | show wpAny _ _ (call (Value.type "zip") _) _ _ _ | refine stand_ref (by decide) ?_)); first | ((with_reducible first | (refine execs_one (by assumption) fun _ => ?_) | (refine execs_hid fun _ _ _ => ?_))) | ((with_reducible show wpAny _ _ (subscriptTail _ _ (Value.ref _) (Value.int _ _)) _ _ _); (with_unfolding_all refine item_litK (News.isList (by k_asm) (by k_mem)) (by first | decide | omega) (by first | decide | omega) (by assumption) ?_ (by with_unfolding_all rfl); k_whole)) | walk1  | (dsimp only; walk1) | fail "no step")))
    (rename Fr h₀ _ _ _ => kF); (rename News h₀ _ _ _ => kN)
    exact post _ _ _ (by unfold SeenVal; rw [hop]; exact hov) kF kN
end

end
section
section
variable {prog : Program} {w : World} {A : Around} {E : Value → Shared → Prop} {s : Shared} {env : Env} {h₀ : Heap} {Q : Flow → Shared → Prop}

/-- how a turn over pairs may end -/
def TurnG (h₀ : Heap) (L : Addr) (J : (Str → Option Value) → List (Addr × Obj) → Prop) (wr : List Addr) (own : List (Addr × Obj)) (s : Shared) (Q : Flow → Shared → Prop) (f : Flow) (s₂ : Shared) : Prop :=
  match f with
  | .ret v => Q (.ret v) s₂
  | .brk => Q .next s₂
  | _ => ∃ h' tk m' news' nx, s₂ = { s with heap := h', toks := tk } ∧ Fr h₀ L h' m' ∧ News h₀ L h' news' ∧ (∀ p ∈ nx, p ∈ news') ∧ (∀ p ∈ own, p ∈ news') ∧ (∀ p ∈ nx, p.1 ∉ wr) ∧ J m' nx

def PairAtG (prog : Program) (w : World) (A : Around) (h₀ : Heap) (env : Env) (xi : Str) (pk : Pos) (xc : Str) (pv : Pos) (body : List Stmt) (Q : Flow → Shared → Prop) (E : Value → Shared → Prop) (it : Value) (s₂ : Shared) : Prop :=
  ∃ (I : Addr) (fp wr : List Addr) (n : Nat) (Pt : Nat → Array Value → Prop) (St : Nat → Heap → Prop) (Mid : Nat → Addr → Heap → Prop) (P2 : Nat → Value → Value → Prop) (m : Str → Option Value) (news : List (Addr × Obj))
    (J : Nat → (Str → Option Value) → List (Addr × Obj) → Prop),
    it = .ref I ∧ WalksT prog w A I fp wr n Pt St Mid ∧ (∀ i vals, Pt i vals → ∃ v0 v1, vals = #[v0, v1] ∧ P2 i v0 v1) ∧ env.locals ∉ fp ∧ (∀ b ∈ wr, h₀.get? b = none) ∧ (∀ p ∈ news, p.1 ∉ wr) ∧ St 0 s₂.heap ∧
    Fr h₀ env.locals s₂.heap m ∧ News h₀ env.locals s₂.heap news ∧ J 0 m news ∧
    (∀ i v0 v1 m₁ nx h tk own, i < n → P2 i v0 v1 → J i m₁ nx → (∀ p ∈ nx, p.1 ∉ wr) → (∀ p ∈ own, p.1 ∈ fp) → Fr h₀ env.locals h m₁ → News h₀ env.locals h (nx ++ own) →
      wpAny (model prog w) A (assign (.Name xi pk) env v0) (fun _ s₃ => wpAny (model prog w) A (assign (.Name xc pv) env v1) (fun _ s₄ => wpAny (model prog w) A (execs body env) (TurnG h₀ env.locals (J (i + 1)) wr own s₂ Q) E s₄) E s₃) E { s₂ with heap := h, toks := tk }) ∧
    (∀ h' tk m' nx, Fr h₀ env.locals h' m' → News h₀ env.locals h' nx → J n m' nx → Q .next { s₂ with heap := h', toks := tk })

theorem For_pairG {xi xc : Str} {pk pv pt pos : Pos} {x1 : Nat} {iter : PySem.Expr} {body : List Stmt} {m : Str → Option Value} (_F : Fr h₀ env.locals s.heap m) (hh : A.handled = none)
    (h : wpAny (model prog w) A (eval iter env) (fun xv s₁ => wpAny (model prog w) A (pyIter xv) (fun it s₂ => PairAtG prog w A h₀ env xi pk xc pv body Q E it s₂) E s₁) E s)
    (hs : ∀ x, foldedSetIterable iter env x = pure x := by intro _; rfl)
    (hE : PassesOwn (model prog w) A env E := by passes_own) :
    wpAny (model prog w) A (exec (.For (.Tuple [.Name xi pk, .Name xc pv] x1 pt) iter body [] pos) env) Q E s := by
  refine wpAny_For (wpAny_mono h (fun xv s₁ h₁ => wpAny_mono h₁ (fun it s₂ h₂ => ?_) fun _ _ e => e) fun _ _ e => e) hs
  obtain ⟨I, fp, wr, n, Pt, St, Mid, P2, m, news, J, rfl, W, h2, hLf, hwr, hnw, hst, F, N, h0, step, hQ⟩ := h₂
  have hLw : env.locals ∉ wr := fun h => hLf (W.sub _ h)
  have old : ∀ b o, h₀.get? b = some o → b ∉ wr := fun b o e hb => by rw [hwr b hb] at e; cases e
  refine codeAny_forLoop_any
    (fun k s' => ∃ h' tk m' nx i, s' = { s₂ with heap := h', toks := tk } ∧ St i h' ∧ Fr h₀ env.locals h' m' ∧ News h₀ env.locals h' nx ∧ (∀ p ∈ nx, p.1 ∉ wr) ∧ J i m' nx ∧ i ≤ n ∧ k = n + 1 - i) ?_ (n + 1)
    ⟨s₂.heap, s₂.toks, m, news, 0, rfl, hst, F, N, hnw, h0, Nat.zero_le _, rfl⟩
  rintro k s' ⟨H, tk, m', nx, i, rfl, hst', F', N', hnw', hJ, hi, rfl⟩
  have next : ∀ h₁ : Heap, (∀ b o, b ∉ wr → H.get? b = some o → h₁.get? b = some o) → Fr h₀ env.locals h₁ m' ∧ News h₀ env.locals h₁ nx := fun h₁ hk₁ =>
    ⟨⟨F'.ns.at' fun o e => hk₁ _ o hLw e, fun b o e => hk₁ b o (old b o e) (F'.keep b o e), F'.above⟩, fun p hp => ⟨hk₁ _ _ (hnw' p hp) (N' p hp).1, (N' p hp).2⟩⟩
  by_cases hlt : i < n
  · refine W.item i _ _ _ hlt hst' fun T vals h₁ tk₁ hPt _ hT hMid hk₁ => ?_
    obtain ⟨v0, v1, rfl, hP2⟩ := h2 i vals hPt
    refine W.go _ x1 pt i T _ _ _ hMid fun h₂ hst₂ hk₂ => ?_
    have ht₂ : h₂.IsTuple T #[v0, v1] := hT.at fun o e => hk₂ T o (W.apart i T h₁ hMid) e
    refine wpAny_assign_Tuple hh ht₂ rfl rfl fun h₃ hx₃ => ?_
    replace hx₃ : Heap.ExtBut h₂.objs.size h₂ h₃ := hx₃
    have up₃ : ∀ b o, h₂.get? b = some o → h₃.get? b = some o := fun b o x => hx₃ b o (Nat.ne_of_lt (Heap.lt_size x)) x
    obtain ⟨F₃, N₃⟩ := next h₃ fun b o hb x => up₃ b o (hk₂ b o hb (hk₁ b o hb x))
    have hst₃ : St (i + 1) h₃ := W.frame _ _ _ hst₂ fun b hb o e => up₃ b o e
    have Nown : News h₀ env.locals h₃ (ownOf h₀ fp h₃) := news_ownOf hLf
    have N₅ : News h₀ env.locals h₃ (nx ++ ownOf h₀ fp h₃) := N₃.append Nown
    show wpAny _ A (do holding [v1] (assign (.Name xi pk) env v0); do holding [] (assign (.Name xc pv) env v1); pure ()) _ _ _
    refine wpAny_bind (wpAny_holding (wpAny_mono (wpAny_passesOwn hE (step i v0 v1 m' nx h₃ _ (ownOf h₀ fp h₃) hlt hP2 hJ hnw' ownOf_sub F₃ N₅)) (fun _ s₃ g₃ => ?_) fun _ _ e => e))
    refine wpAny_bind (wpAny_holding (wpAny_mono (wpAny_passesOwn hE g₃) (fun _ s₄ g₄ => wpAny_pure ?_) fun _ _ e => e))
    refine wpAny_mono (wpAny_passesOwn hE g₄) (fun f s₅ h₆ => ?_) fun _ _ e => e
    have fin : (∃ h' tk m' news' nx, s₅ = { s₂ with heap := h', toks := tk } ∧ Fr h₀ env.locals h' m' ∧ News h₀ env.locals h' news' ∧ (∀ p ∈ nx, p ∈ news') ∧ (∀ p ∈ ownOf h₀ fp h₃, p ∈ news') ∧ (∀ p ∈ nx, p.1 ∉ wr) ∧ J (i + 1) m' nx) →
        ∃ k', k' < n + 1 - i ∧ ∃ h' tk m' nx i, s₅ = { s₂ with heap := h', toks := tk } ∧ St i h' ∧ Fr h₀ env.locals h' m' ∧ News h₀ env.locals h' nx ∧ (∀ p ∈ nx, p.1 ∉ wr) ∧ J i m' nx ∧ i ≤ n ∧ k' = n + 1 - i := by
      rintro ⟨h₆', tk₆, m₂, news₂, nx₂, rfl, F₆, N₆, hn₆, ho₆, ha₆, hJ₆⟩
      refine ⟨n + 1 - (i + 1), by lia, h₆', tk₆, m₂, nx₂, i + 1, rfl, ?_, F₆, fun p hp => N₆ p (hn₆ p hp), ha₆, hJ₆, hlt, rfl⟩
      refine W.frame _ _ _ hst₃ fun b hb o e => ?_
      cases hn : h₀.get? b with
      | some o₀ =>
        have : o₀ = o := by have q := F₃.keep b o₀ hn; rw [e] at q; exact (Option.some.inj q).symm
        exact this ▸ F₆.keep b o₀ hn
      | none => exact (N₆ _ (ho₆ _ (mem_ownOf hb hn e))).1
    cases f with
    | ret v => exact h₆
    | brk => exact h₆
    | cont => exact fin h₆
    | next => exact fin h₆
  · have hin : i = n := by lia
    subst hin
    refine W.done _ _ _ hst' fun h₁ tk₁ hk₁ => wpAny_execs_nil ?_
    obtain ⟨F₁, N₁⟩ := next h₁ hk₁
    exact hQ h₁ tk₁ m' nx F₁ N₁ hJ

/-- enumerate of a list of the ledger -/
theorem enum_at {xi xc : Str} {pk pv : Pos} {body : List Stmt} {l : Addr} {vs : List Value} {k : Nat} {m₀ : Str → Option Value} {news : List (Addr × Obj)} (J : Nat → (Str → Option Value) → List (Addr × Obj) → Prop)
    (hh : A.handled = none) (F : Fr h₀ env.locals s.heap m₀) (N : News h₀ env.locals s.heap news) (hm : (l, W.listOf vs.toArray k) ∈ news) (hj : J 0 m₀ news)
    (turn : ∀ (wr fp : List Addr) i v t m₁ nx h tk own, vs[i]? = some v → (∀ p ∈ news, p.1 ∉ wr) → J i m₁ nx → (∀ p ∈ nx, p.1 ∉ wr) → (∀ p ∈ own, p.1 ∈ fp) → (∀ a ∈ fp, a ∈ wr ∨ a = l) → Fr h₀ env.locals h m₁ → News h₀ env.locals h (nx ++ own) →
      wpAny (model prog w) A (assign (.Name xi pk) env (.int (i : Nat) t)) (fun _ s₃ => wpAny (model prog w) A (assign (.Name xc pv) env v) (fun _ s₄ => wpAny (model prog w) A (execs body env) (TurnG h₀ env.locals (J (i + 1)) wr own s Q) E s₄) E s₃) E { s with heap := h, toks := tk })
    (done : ∀ h' tk m' nx, Fr h₀ env.locals h' m' → News h₀ env.locals h' nx → J vs.length m' nx → Q .next { s with heap := h', toks := tk }) :
    wpAny (model prog w) A (call (.type "enumerate") [.ref l]) (fun xv s₁ => wpAny (model prog w) A (pyIter xv) (fun it s₂ => PairAtG prog w A h₀ env xi pk xc pv body Q E it s₂) E s₁) E s := by
  have hl : s.heap.IsList l vs.toArray := ⟨_, N.get hm, rfl, k, rfl⟩
  have hlt : @LT.lt Nat _ l s.heap.objs.size := Heap.lt_size (N.get hm)
  refine call_enumerate_list hl fun h' he hit hsz' hk => ?_
  refine wpAny_pyIter_enum he ?_
  have W0 := WalksT.enumerate (prog := prog) (w := w) hh (s.heap.objs.size + 1) s.heap.objs.size l (neN (by lia)) (neN (by lia)) (neN (by lia)) vs.toArray
  have e : vs.toArray.size = vs.length := by simp
  rw [e] at W0
  have hL : @LT.lt Nat _ env.locals s.heap.objs.size := F.ns.lt
  have off : ∀ p ∈ news, p.1 ∉ [s.heap.objs.size + 1, s.heap.objs.size] := fun q hq hb => by
    have hq2 : @LT.lt Nat _ q.1 s.heap.objs.size := Heap.lt_size (N q hq).1
    simp at hb
    rcases hb with e | e
    · rw [e] at hq2; exact absurd hq2 (Nat.not_lt.mpr (Nat.le_succ _))
    · rw [e] at hq2; exact Nat.lt_irrefl _ hq2
  refine ⟨s.heap.objs.size + 1, _, _, vs.length, _, _, _, (fun i v0 v1 => ∃ t, v0 = .int (i : Nat) t ∧ vs[i]? = some v1), m₀, news, J, rfl, W0, (fun i vals hv => ?_), (fun q => ?_), (fun b hb => ?_), off, ⟨⟨_, he⟩, hit, hl.at fun o e => hk _ o e⟩, F.keeps hk, N.grown hk, hj, ?_, ?_⟩
  · obtain ⟨t, x, hx, rfl⟩ := hv
    exact ⟨_, _, rfl, t, rfl, by simpa using hx⟩
  · simp at q
    rcases q with e | e | e
    · rw [e] at hL; exact absurd hL (Nat.not_lt.mpr (Nat.le_succ _))
    · rw [e] at hL; exact Nat.lt_irrefl _ hL
    · exact (N _ hm).2.1 e.symm
  · have : @LE.le Nat _ s.heap.objs.size b := by
      simp at hb
      rcases hb with rfl | rfl
      · exact Nat.le_succ _
      · exact Nat.le_refl _
    exact Heap.get?_none_of_le (Nat.le_trans (Nat.le_trans F.above (Nat.le_of_lt hL)) this)
  · rintro i v0 v1 m₁ nx h tk own hi ⟨t, rfl, hv⟩ hJ hnx hown F₁ N₁
    refine turn _ [s.heap.objs.size + 1, s.heap.objs.size, l] i v1 t m₁ nx h tk own hv off hJ hnx hown (fun a ha => ?_) F₁ N₁
    simp at ha
    rcases ha with rfl | rfl | rfl
    · exact .inl (.head _)
    · exact .inl (.tail _ (.head _))
    · exact .inr rfl
  · exact done
end

end
section
/-- the law's mirror is right -/
structure Inv (d : Dt) : Prop where
  mir : d.mst = d.gst
  kn : d.kn = d.ups.length
  cw : ∀ k, k < d.cel.length → (celAt d k).wh < d.gst.length ∧ (celAt d k).pl < (gstAt d (celAt d k).wh).length
  co : ∀ k, k < d.cel.length → (celAt d k).op = true → (upAt d k).th = some (celAt d k).wh ∧ (upAt d k).ix = (celAt d k).pl ∧ k ∈ opnAt d (celAt d k).wh
  cc : ∀ k, k < d.cel.length → (celAt d k).op = false → (upAt d k).th = none ∧ (upAt d k).vl = (celAt d k).vl ∧ ∃ v, (celAt d k).vl = some v
  oc : ∀ i k, k ∈ opnAt d i → (celAt d k).op = true ∧ (celAt d k).wh = i
  srt : ∀ i, (ixsAt d i).Pairwise (· > ·)
  pos : ∀ i, i < d.gst.length → 0 < (gstAt d i).length
def placeK (d : Dt) (i : Nat) : List Nat := (List.range d.cel.length).filter fun k => (celAt d k).op && (celAt d k).wh == i
def places (d : Dt) (i : Nat) : List Int := (placeK d i).map fun k => ((celAt d k).pl : Int)
theorem and2_1 {o : Bool} {a i : Nat} (h1 : o = true) (h2 : (a : Int) = i) : true = (o && a == i) := by
  have e2 : a = i := by lia
  simp [h1, e2]
theorem and2_2 {o : Bool} {a i : Nat} (h2 : (a : Int) ≠ i) : false = (o && a == i) := by
  have e2 : ¬ a = i := by lia
  simp [e2]
theorem and2_3 {o : Bool} {a i : Nat} (h1 : o = false) : false = (o && a == i) := by simp [h1]
theorem paired_ints {f : Nat → Int} : ∀ {l : List Nat} {ys : List Value}, Paired (fun k v => ∃ t, v = .int (f k) t) l ys → IntsAre ys (l.map f)
  | _, _, .nil => .nil
  | _, _, .cons ⟨t, e⟩ h => e ▸ .cons _ t (paired_ints h)
theorem celLen {d : Dt} (hw : Wf d) (hI : Inv d) : d.cel.length = d.ups.length := by rw [hw.ck, hI.kn]
theorem placeK_perm {d : Dt} (hw : Wf d) (hI : Inv d) (i : Nat) : (placeK d i).Perm (opnAt d i) := by
  refine (List.perm_ext_iff_of_nodup (List.nodup_range.sublist List.filter_sublist) (hw.nd i)).mpr fun k => ?_
  try unfold placeK
  rw [List.mem_filter, List.mem_range]
  constructor
  · rintro ⟨hk, hb⟩
    simp only [Bool.and_eq_true, beq_iff_eq] at hb
    have := (hI.co k hk hb.1).2.2
    rw [hb.2] at this
    exact this
  · intro hk
    obtain ⟨h1, h2⟩ := hI.oc i k hk
    refine ⟨by rw [celLen hw hI]; exact hw.ok i k hk, by simp [h1, h2]⟩
theorem places_perm {d : Dt} (hw : Wf d) (hI : Inv d) (i : Nat) : (places d i).Perm (ixsAt d i) := by
  have e : (placeK d i).map (fun k => ((celAt d k).pl : Int)) = (placeK d i).map fun k => (upAt d k).ix := by
    refine List.map_congr_left fun k hk => ?_
    unfold placeK at hk
    rw [List.mem_filter, List.mem_range] at hk
    simp only [Bool.and_eq_true] at hk
    exact (hI.co k hk.1 hk.2.1).2.1.symm
  unfold places
  rw [e]
  exact (placeK_perm hw hI i).map _
theorem sorted_unique {l l' : List Int} (hp : l.Perm l') (h : l.Pairwise fun x y => y ≤ x) (h' : l'.Pairwise (· > ·)) : l = l' :=
  List.Perm.eq_of_pairwise (le := fun x y => y ≤ x) (fun a b _ _ h1 h2 => Int.le_antisymm h2 h1) h (h'.imp fun h => Int.le_of_lt h) hp
theorem range_getD {l : List Int} : (List.range l.length).map (fun j => l.getD j 0) = l := by
  refine List.ext_getElem? fun j => ?_
  by_cases h : j < l.length
  · simp [h]
  · simp [h]
theorem places_max {d : Dt} (hw : Wf d) (hI : Inv d) (i : Nat) {M : Int} (h1 : M ∈ places d i ++ [0]) (h2 : ∀ a, a ∈ places d i ++ [0] → a ≤ M) :
    hasOpen (ixsAt d i) M = decide (0 < (places d i).length) ∧ hasOpen (ixsAt d i) (M + 1) = false := by
  have hp := places_perm hw hI i
  have hs := hI.srt i
  have hl := hp.length_eq
  have hmem : ∀ a, a ∈ places d i ↔ a ∈ ixsAt d i := fun a => hp.mem_iff
  have hpos : ∀ j ∈ ixsAt d i, 0 ≤ j := fun j hj => by
    unfold ixsAt at hj
    obtain ⟨k, hk, rfl⟩ := List.mem_map.mp hj
    exact (hw.op i k hk).2.1
  cases e : ixsAt d i with
  | nil => rw [e] at hl; simp [hasOpen, hl]
  | cons j r =>
    rw [e] at hl hs hmem hpos
    have hj : j ∈ places d i := (hmem j).mpr (List.mem_cons_self ..)
    have h3 : j ≤ M := h2 j (List.mem_append_left _ hj)
    have h4 : M ≤ j := by
      rcases List.mem_append.mp h1 with h | h
      · rcases List.mem_cons.mp ((hmem M).mp h) with h | h
        · lia
        · exact Int.le_of_lt ((List.pairwise_cons.mp hs).1 M h)
      · have := hpos j (List.mem_cons_self ..)
        simp at h; lia
    have h5 : M = j := by lia
    subst h5
    refine ⟨?_, ?_⟩
    · simp [hasOpen, hl]
    · simp only [hasOpen, decide_eq_false_iff_not]; lia
theorem places_len {d : Dt} (i : Nat) : (places d i).length ≤ d.cel.length := by
  unfold places placeK
  rw [List.length_map]
  refine Nat.le_trans (List.length_filter_le _ _) ?_
  rw [List.length_range]; exact Nat.le_refl _

end
section
theorem chk_true (x : Addr) : ∀ (ixs : List Int) (a : Int), (∀ j ∈ ixs, 0 ≤ j ∧ j < a) → ixs.Pairwise (· > ·) → chk x a (ixs.map fun j => (Value.ref x, j)) = true
  | [], _, _, _ => rfl
  | j :: r, a, h, hp => by
    obtain ⟨h1, h2⟩ := List.pairwise_cons.mp hp
    obtain ⟨h3, h4⟩ := h j (List.mem_cons_self ..)
    have ih := chk_true x r j (fun k hk => ⟨(h k (List.mem_cons_of_mem _ hk)).1, h1 k hk⟩) h2
    simp only [List.map_cons, chk, ih, beq_self_eq_true, Bool.true_and, Bool.and_true, Bool.and_eq_true, decide_eq_true_eq]
    exact ⟨h3, h4⟩
section
variable {w : World} {base h₀ : Heap} {outer : List Env} {A₀ : Around} {dp u : Nat} {env : Env} {L : Addr} {m mg mb : Str → Option Value}
    {loose : List Str} {mean : ExcName → Option Value} {p : Program} {s : Shared} {news : List (Addr × Obj)} {R : Result → Shared → Prop}
theorem check_H (C : Cx w A₀ base h₀ outer L s m mg mb loose mean p news env) (hd : dp ≤ 500) (hu : u ≤ 5000) {A : Role → Addr} {d : Dt} (h : H news A d) (hw : Wf d) (hI : Inv d) {i : Nat} (hi : i < d.gst.length)
    (post : ∀ h' tk, Fr h₀ L h' m → News h₀ L h' news → R (.ok (.ret (.bool true))) { s with heap := h', toks := tk }) :
    codeAny (model Challenge.rw_nt0630_01.row.prog w) ⟨none, dp, some (env :: outer), some [], u⟩ (.call (.ref 153) ⟨[.ref (A (.gi i))], []⟩) R s := by
  obtain ⟨nl, hol⟩ := h.open hi
  obtain ⟨vs, ns, hvs, hsl⟩ := h.gstack hi
  have hvl := hvs.length
  have hx := h.ground hi
  have e : (ixsAt d i).map (fun j => (Value.ref (A (.gi i)), j)) = (opnAt d i).map fun k => (Value.ref (A (.gi i)), (upAt d k).ix) := by simp [ixsAt, Function.comp_def]
  have hc := chk_true (A (.gi i)) (ixsAt d i) vs.length (fun j hj => by
    unfold ixsAt at hj
    obtain ⟨k, hk, rfl⟩ := List.mem_map.mp hj
    obtain ⟨_, q2, q3, _⟩ := hw.op i k hk
    exact ⟨q2, by rw [hvl]; exact q3⟩) (hI.srt i)
  rw [e] at hc
  refine check_ctr C hd hu hx ⟨ns, hsl⟩ (by have := hw.gfit i; lia) ⟨nl, hol⟩ (ts := (opnAt d i).map fun k => (Value.ref (A (.gi i)), (upAt d k).ix)) (by simp) ?_ ?_ (by rw [hc]; exact post)
  · intro k u th ix hu ht
    rw [List.getElem?_map] at hu ht
    cases e : (opnAt d i)[k]? with
    | none => rw [e] at hu; cases hu
    | some j =>
      rw [e] at hu ht
      cases hu; cases ht
      obtain ⟨q1, _⟩ := hw.op i j (List.mem_of_getElem? e)
      obtain ⟨o, vl, a1, a2, a3, a4⟩ := h.up (hw.ok i j (List.mem_of_getElem? e))
      rw [q1] at a4
      exact ⟨vl, A (.ud j), o, a1, a2, a4⟩
  · intro q hq
    obtain ⟨k, hk, rfl⟩ := List.mem_map.mp hq
    obtain ⟨dx, o, a, _⟩ := hx
    exact .inr ⟨_, dx, rfl, a⟩
theorem has_H (C : Cx w A₀ base h₀ outer L s m mg mb loose mean p news env) (hd : dp ≤ 500) (hu : u ≤ 5000) {A : Role → Addr} {d : Dt} (h : H news A d) (hw : Wf d) {i : Nat} (hi : i < d.gst.length) {lv : Int} {t : Tok} {b : Bool} (hb : hasOpen (ixsAt d i) lv = b)
    (post : ∀ h' tk, Fr h₀ L h' m → News h₀ L h' news → R (.ok (.ret (.bool b))) { s with heap := h', toks := tk }) :
    codeAny (model Challenge.rw_nt0630_01.row.prog w) ⟨none, dp, some (env :: outer), some [], u⟩ (.call (.ref 146) ⟨[.ref (A (.gi i)), .int lv t], []⟩) R s := by
  obtain ⟨nl, hol⟩ := h.open hi
  subst hb
  exact has_open_ctr C hd hu (h.ground hi) ⟨nl, hol⟩ (ixs := ixsAt d i) (by simp [ixsAt]) (by have := hw.ofew i; simp; lia) (h.upsAt hw i) post
end

end
section
theorem ne_ints_same {prog : Program} {w : World} {A : Around} {E : Value → Shared → Prop} {s : Shared} {a b : Addr} {vs us : List Value} {ns : List Int} {Q : Value → Shared → Prop} (hl : s.heap.IsList a vs.toArray) (hi : IntsAre vs ns) (hl' : s.heap.IsList b us.toArray) (hi' : IntsAre us ns) (hu : A.units + 64 < cLine)
    (h : Q (.bool false) s) : wpAny (model prog w) A (compareOp .NotEq (.ref a) (.ref b)) Q E s :=
  ne_intsK hl hi hl' hi' hu (by simpa using h)
local macro_rules | `(tactic| walk_at "compareOp NotEq ref ref") => `(tactic| (k_here; (with_reducible show wpAny _ _ (compareOp CmpOp.NotEq (Value.ref _) (Value.ref _)) _ _ _); (with_unfolding_all refine' ne_ints_same ?k1 ?k2 ?k3 ?k4 ?k5 ?_; (case k1 => exact News.isList (by k_asm) (by k_mem)); (case k2 => assumption); (case k3 => exact News.isList (by k_asm) (by k_mem)); (case k4 => assumption); (case k5 => (show _ < (9900 : Nat)); ktr_room); k_whole)))
theorem hide2 {h₀ h : Heap} {L : Addr} {a b : Addr × Obj} {led : List (Addr × Obj)} (N : News h₀ L h (a :: b :: led)) : ∃ led', (∀ q ∈ led, q ∈ led') ∧ News h₀ L h led' := ⟨_, in_cons2, N⟩
section
variable {w : World} {base h₀ : Heap} {outer : List Env} {A₀ : Around} {dp u : Nat} {env : Env} {L : Addr} {m mg mb : Str → Option Value}
    {loose : List Str} {mean : ExcName → Option Value} {p : Program} {s : Shared} {news : List (Addr × Obj)} {R : Result → Shared → Prop}
set_option maxHeartbeats 4000000 in
theorem right_H (C : Cx w A₀ base h₀ outer L s m mg mb loose mean p news env) (hd : dp ≤ 400) (hu : u ≤ 4000) {A : Role → Addr} {d : Dt} (h : H news A d) (hw : Wf d) (hI : Inv d) (hsm : d.ups.length < 60)
    (post : ∀ h' tk, Fr h₀ L h' m → News h₀ L h' news → R (.ok (.ret (.bool true))) { s with heap := h', toks := tk }) :
    codeAny (model Challenge.rw_nt0630_01.row.prog w) ⟨none, dp, some (env :: outer), some [], u⟩ (.call (.ref 180) ⟨[.ref (A .G), .ref (A .S), .ref (A .C), .ref (A .K)], []⟩) R s := by
  obtain ⟨B, F, X, T, N, hf, hke⟩ := C
  obtain ⟨nC, hC⟩ := h.lC
  obtain ⟨nS, hS⟩ := h.lS
  obtain ⟨nG, hG⟩ := h.lG
  obtain ⟨nK, hK⟩ := h.lK
  tb_start
  rename_i g L1 h1 tk1 FG F1 B1 X1 T1 l1 oc1 dc1 N1 Q0 hQ0
  (repeat' (first | (k_unfold; (try dsimp only)) | (refine unhide (by assumption) ?_; (try dsimp only)) | ((fail_if_success (with_reducible first | show wpAny _ _ (exec (Stmt.While _ _ _ _) _) _ _ _ | show wpAny _ _ (exec (Stmt.For _ _ _ _ _) _) _ _ _ | show wpAny _ _ (exec (Stmt.Assign _ (Expr.ListComp _ _ _ _) _) _) _ _ _ | show wpAny _ _ (eval (Expr.ListComp _ _ _ _) _) _ _ _ | show wpAny _ _ (call (Value.type "enumerate") _) _ _ _ | show wpAny _ _ (call (Value.type "zip") _) _ _ _ | refine stand_ref (by decide) ?_)); first | ((with_reducible first | (refine execs_one (by assumption) fun _ => ?_) | (refine execs_hid fun _ _ _ => ?_))) | ((with_reducible show wpAny _ _ (call (Value.builtin "len") [Value.ref _]) _ _ _); k_dflt (refine len_at (by k_asm) (by k_mem) (by ktr_units) ?_; k_whole); (try simp only [refs_length])) | ((with_reducible show wpAny _ _ (subscriptTail _ _ (Value.ref _) (Value.int _ _)) _ _ _); (with_unfolding_all refine item_litK (News.isList (by k_asm) (by k_mem)) (by first | decide | omega) (by first | decide | omega) (by assumption) ?_ (by with_unfolding_all rfl); k_whole)) | ((with_reducible show TurnG _ _ _ _ _ _ _ (Flow.ret _) _); dsimp only [TurnG]) | ((with_reducible show wpAny _ _ (getMethod (Value.ref _) (PySem.Str.ofString "append") _) _ _ _); k_dflt (refine listMethod_K (by k_asm) (by first | assumption | exact mem_put_self | exact mem_put (by first | assumption | exact mem_put_self | exact mem_put (by first | assumption | exact mem_put_self | exact mem_put (by assumption) (by ktr_unf)) (by ktr_unf)) (by ktr_unf)) PySem.F.slot_list_append PySem.F.type_list_append ?_)) | walk1  | (dsimp only; walk1) | fail "no step")))
  replace dc1 : oc1.data = .cell none := dc1
  have hlt := h.lt l1
  have h1' : H ((L1 + 1, oc1) :: news) A d := h.mono fun q hq => .tail _ hq
  (with_unfolding_all refine' For_pairG F1 ?qh ?_; (case qh => exact rfl))
  (repeat' (first | (k_unfold; (try dsimp only)) | (refine unhide (by assumption) ?_; (try dsimp only)) | ((fail_if_success (with_reducible first | show wpAny _ _ (exec (Stmt.While _ _ _ _) _) _ _ _ | show wpAny _ _ (exec (Stmt.For _ _ _ _ _) _) _ _ _ | show wpAny _ _ (exec (Stmt.Assign _ (Expr.ListComp _ _ _ _) _) _) _ _ _ | show wpAny _ _ (eval (Expr.ListComp _ _ _ _) _) _ _ _ | show wpAny _ _ (call (Value.type "enumerate") _) _ _ _ | show wpAny _ _ (call (Value.type "zip") _) _ _ _ | refine stand_ref (by decide) ?_)); first | ((with_reducible first | (refine execs_one (by assumption) fun _ => ?_) | (refine execs_hid fun _ _ _ => ?_))) | ((with_reducible show wpAny _ _ (call (Value.builtin "len") [Value.ref _]) _ _ _); k_dflt (refine len_at (by k_asm) (by k_mem) (by ktr_units) ?_; k_whole); (try simp only [refs_length])) | ((with_reducible show wpAny _ _ (subscriptTail _ _ (Value.ref _) (Value.int _ _)) _ _ _); (with_unfolding_all refine item_litK (News.isList (by k_asm) (by k_mem)) (by first | decide | omega) (by first | decide | omega) (by assumption) ?_ (by with_unfolding_all rfl); k_whole)) | ((with_reducible show TurnG _ _ _ _ _ _ _ (Flow.ret _) _); dsimp only [TurnG]) | ((with_reducible show wpAny _ _ (getMethod (Value.ref _) (PySem.Str.ofString "append") _) _ _ _); k_dflt (refine listMethod_K (by k_asm) (by first | assumption | exact mem_put_self | exact mem_put (by first | assumption | exact mem_put_self | exact mem_put (by first | assumption | exact mem_put_self | exact mem_put (by assumption) (by ktr_unf)) (by ktr_unf)) (by ktr_unf)) PySem.F.slot_list_append PySem.F.type_list_append ?_)) | walk1  | (dsimp only; walk1) | fail "no step")))
  refine enum_at (l := A .K) (vs := refs (row (fun k => A (.ui k)) d.kn)) (k := nK) (fun i m nx => nx = (L1 + 1, oc1) :: news ∧ m (Str.ofString "grounds") = some (.ref (A .G)) ∧ m (Str.ofString "stacks") = some (.ref (A .S)) ∧ m (Str.ofString "cells") = some (.ref (A .C)) ∧ m (Str.ofString "known") = some (.ref (A .K))) rfl F1 N1 (.tail _ hK) ⟨rfl, rfl, rfl, rfl, rfl⟩ ?_ ?_
  · rintro wr fp i v t m₁ nx h2 tk2 own hv hoff hR1 hnx hown hfp F2 N2
    obtain ⟨rfl, m1, m2, m3, m4⟩ := hR1
    have hi : i < d.kn := by
      have := (List.getElem?_eq_some_iff.mp hv).1
      simpa [refs, row] using this
    have hvb : v = .ref (A (.ui i)) := by
      have := refs_get (row_get (f := fun k => A (.ui k)) hi)
      rw [this] at hv; exact (Option.some.inj hv).symm
    subst hvb
    replace F2 := fr_at (x := Str.ofString "grounds") (fr_at (x := Str.ofString "stacks") (fr_at (x := Str.ofString "cells") (fr_at (x := Str.ofString "known") F2 m4) m3) m2) m1
    have h2' : H ((L1 + 1, oc1) :: news ++ own) A d := h1'.mono fun q hq => List.mem_append_left _ hq
    generalize hled : (L1 + 1, oc1) :: news ++ own = led at N2 h2'
    have hiu : i < d.ups.length := by have := hI.kn; omega
    obtain ⟨oU, vlU, hu1, hu2, hu3, hu4⟩ := h2'.up hiu
    obtain ⟨na, e0, e1, e2, e3, e4, e5, s0, s1, s2, s3, s4, s5, v0, v1, v2, ti, rfl⟩ := hu4
    have hic : i < d.cel.length := by have := hw.ck; omega
    obtain ⟨tcA, tcB, cv, cn, hcv, hcl⟩ := h2'.cell hic
    obtain ⟨hwh, hpl⟩ := hI.cw i hic
    have hms : ∀ j, mstAt d j = gstAt d j := fun j => by unfold mstAt gstAt; rw [hI.mir]
    have hwm : (celAt d i).wh < d.mst.length := by rw [hI.mir]; exact hwh
    have hpm : (celAt d i).pl < (mstAt d (celAt d i).wh).length := by rw [hms]; exact hpl
    cases hop : (celAt d i).op with
    | true =>
      obtain ⟨q1, q2, q3⟩ := hI.co i hic hop
      rw [q1] at hu2
      simp only [thOf] at hu2
      obtain ⟨dxg, og, hg1, hg2, ng, c0, c1, t0, t1, rfl⟩ := h2'.ground hwh
      obtain ⟨vs, ns, hvs, hsl⟩ := h2'.gstack hwh
      have hvl := hvs.length
      obtain ⟨tv, htv⟩ := ints_get? hvs hpl
      rw [q2] at hu2
      have j2 : vs[(((celAt d i).pl : Nat) : Int).toNat]? = some (.int ((gstAt d (celAt d i).wh).getD (celAt d i).pl 0) tv) := htv
      have b3 : (((celAt d i).pl : Nat) : Int) < 2 ^ 63 := by have := hw.gfit (celAt d i).wh; omega
      (repeat' (first | (k_unfold; (try dsimp only)) | (refine unhide (by assumption) ?_; (try dsimp only)) | ((fail_if_success (with_reducible first | show wpAny _ _ (exec (Stmt.While _ _ _ _) _) _ _ _ | show wpAny _ _ (exec (Stmt.For _ _ _ _ _) _) _ _ _ | show wpAny _ _ (exec (Stmt.Assign _ (Expr.ListComp _ _ _ _) _) _) _ _ _ | show wpAny _ _ (eval (Expr.ListComp _ _ _ _) _) _ _ _ | show wpAny _ _ (call (Value.type "enumerate") _) _ _ _ | show wpAny _ _ (call (Value.type "zip") _) _ _ _ | refine stand_ref (by decide) ?_)); first | ((with_reducible first | (refine execs_one (by assumption) fun _ => ?_) | (refine execs_hid fun _ _ _ => ?_))) | ((with_reducible show wpAny _ _ (call (Value.builtin "len") [Value.ref _]) _ _ _); k_dflt (refine len_at (by k_asm) (by k_mem) (by ktr_units) ?_; k_whole); (try simp only [refs_length])) | ((with_reducible show wpAny _ _ (subscriptTail _ _ (Value.ref _) (Value.int _ _)) _ _ _); (with_unfolding_all refine item_litK (News.isList (by k_asm) (by k_mem)) (by first | decide | omega) (by first | decide | omega) (by assumption) ?_ (by with_unfolding_all rfl); k_whole)) | ((with_reducible show TurnG _ _ _ _ _ _ _ (Flow.ret _) _); dsimp only [TurnG]) | ((with_reducible show wpAny _ _ (getMethod (Value.ref _) (PySem.Str.ofString "append") _) _ _ _); k_dflt (refine listMethod_K (by k_asm) (by first | assumption | exact mem_put_self | exact mem_put (by first | assumption | exact mem_put_self | exact mem_put (by first | assumption | exact mem_put_self | exact mem_put (by assumption) (by ktr_unf)) (by ktr_unf)) (by ktr_unf)) PySem.F.slot_list_append PySem.F.type_list_append ?_)) | walk1  | (dsimp only; walk1) | fail "no step")))
      (rename Fr g L1 _ _ => F3); (rename News g L1 _ _ => N3)
      refine wpAny_call (seen_H ⟨B1, F3, X1, T1, N3, rfl, rfl⟩ (by ktr_room) (by ktr_room) h2' hw hic hwm hpm ?_)
      intro v h4 tk4 hsv F4 N4
      unfold SeenVal at hsv
      rw [if_pos hop, hms] at hsv
      obtain ⟨tw, rfl⟩ := hsv
      have i2 : [Value.int (celAt d i).wh tcA, .int (celAt d i).pl tcB, .bool (celAt d i).op, cv][(2 : Int).toNat]? = some (.bool (celAt d i).op) := rfl
      have j0 : (refs (row (fun k => A (.cl k)) d.cel.length))[((i : Nat) : Int).toNat]? = some (.ref (A (.cl i))) := refs_get (row_get hic)
      have b1 : ((i : Nat) : Int) < 2 ^ 63 := by have := hw.few; omega
      have hC2 : (A .C, W.listOf (refs (row (fun k => A (.cl k)) d.cel.length)).toArray nC) ∈ led := by rw [← hled]; exact List.mem_append_left _ (.tail _ hC)
      simp only [hop] at hcl i2
      dsimp only
      (repeat' (first | (k_unfold; (try dsimp only)) | (refine unhide (by assumption) ?_; (try dsimp only)) | ((fail_if_success (with_reducible first | show wpAny _ _ (exec (Stmt.While _ _ _ _) _) _ _ _ | show wpAny _ _ (exec (Stmt.For _ _ _ _ _) _) _ _ _ | show wpAny _ _ (exec (Stmt.Assign _ (Expr.ListComp _ _ _ _) _) _) _ _ _ | show wpAny _ _ (eval (Expr.ListComp _ _ _ _) _) _ _ _ | show wpAny _ _ (call (Value.type "enumerate") _) _ _ _ | show wpAny _ _ (call (Value.type "zip") _) _ _ _ | refine stand_ref (by decide) ?_)); first | ((with_reducible first | (refine execs_one (by assumption) fun _ => ?_) | (refine execs_hid fun _ _ _ => ?_))) | ((with_reducible show wpAny _ _ (call (Value.builtin "len") [Value.ref _]) _ _ _); k_dflt (refine len_at (by k_asm) (by k_mem) (by ktr_units) ?_; k_whole); (try simp only [refs_length])) | ((with_reducible show wpAny _ _ (subscriptTail _ _ (Value.ref _) (Value.int _ _)) _ _ _); (with_unfolding_all refine item_litK (News.isList (by k_asm) (by k_mem)) (by first | decide | omega) (by first | decide | omega) (by assumption) ?_ (by with_unfolding_all rfl); k_whole)) | ((with_reducible show TurnG _ _ _ _ _ _ _ (Flow.ret _) _); dsimp only [TurnG]) | ((with_reducible show wpAny _ _ (getMethod (Value.ref _) (PySem.Str.ofString "append") _) _ _ _); k_dflt (refine listMethod_K (by k_asm) (by first | assumption | exact mem_put_self | exact mem_put (by first | assumption | exact mem_put_self | exact mem_put (by first | assumption | exact mem_put_self | exact mem_put (by assumption) (by ktr_unf)) (by ktr_unf)) (by ktr_unf)) PySem.F.slot_list_append PySem.F.type_list_append ?_)) | walk1  | (dsimp only; walk1) | fail "no step")))
      · exact absurd rfl (by assumption)
      (rename Fr g L1 _ _ => F5); (rename News g L1 _ _ => N5)
      refine ⟨_, _, _, _, (L1 + 1, oc1) :: news, rfl, F5, N5, (fun q hq => by rw [← hled]; exact List.mem_append_left _ hq), (fun q hq => by rw [← hled]; exact List.mem_append_right _ hq), hnx, rfl, rfl, rfl, rfl, rfl⟩
    | false =>
      obtain ⟨q1, q2, vv, q3⟩ := hI.cc i hic hop
      rw [q1] at hu2
      simp only [thOf] at hu2
      rw [q2, q3] at hu3
      rw [q3] at hcv
      obtain ⟨tv, rfl⟩ := hu3
      obtain ⟨tcv, rfl⟩ := hcv
      (repeat' (first | (k_unfold; (try dsimp only)) | (refine unhide (by assumption) ?_; (try dsimp only)) | ((fail_if_success (with_reducible first | show wpAny _ _ (exec (Stmt.While _ _ _ _) _) _ _ _ | show wpAny _ _ (exec (Stmt.For _ _ _ _ _) _) _ _ _ | show wpAny _ _ (exec (Stmt.Assign _ (Expr.ListComp _ _ _ _) _) _) _ _ _ | show wpAny _ _ (eval (Expr.ListComp _ _ _ _) _) _ _ _ | show wpAny _ _ (call (Value.type "enumerate") _) _ _ _ | show wpAny _ _ (call (Value.type "zip") _) _ _ _ | refine stand_ref (by decide) ?_)); first | ((with_reducible first | (refine execs_one (by assumption) fun _ => ?_) | (refine execs_hid fun _ _ _ => ?_))) | ((with_reducible show wpAny _ _ (call (Value.builtin "len") [Value.ref _]) _ _ _); k_dflt (refine len_at (by k_asm) (by k_mem) (by ktr_units) ?_; k_whole); (try simp only [refs_length])) | ((with_reducible show wpAny _ _ (subscriptTail _ _ (Value.ref _) (Value.int _ _)) _ _ _); (with_unfolding_all refine item_litK (News.isList (by k_asm) (by k_mem)) (by first | decide | omega) (by first | decide | omega) (by assumption) ?_ (by with_unfolding_all rfl); k_whole)) | ((with_reducible show TurnG _ _ _ _ _ _ _ (Flow.ret _) _); dsimp only [TurnG]) | ((with_reducible show wpAny _ _ (getMethod (Value.ref _) (PySem.Str.ofString "append") _) _ _ _); k_dflt (refine listMethod_K (by k_asm) (by first | assumption | exact mem_put_self | exact mem_put (by first | assumption | exact mem_put_self | exact mem_put (by first | assumption | exact mem_put_self | exact mem_put (by assumption) (by ktr_unf)) (by ktr_unf)) (by ktr_unf)) PySem.F.slot_list_append PySem.F.type_list_append ?_)) | walk1  | (dsimp only; walk1) | fail "no step")))
      (rename Fr g L1 _ _ => F3); (rename News g L1 _ _ => N3)
      refine wpAny_call (seen_H ⟨B1, F3, X1, T1, N3, rfl, rfl⟩ (by ktr_room) (by ktr_room) h2' hw hic hwm hpm ?_)
      intro v h4 tk4 hsv F4 N4
      unfold SeenVal at hsv
      rw [hop, q3] at hsv
      obtain ⟨tw, rfl⟩ := hsv
      have i2 : [Value.int (celAt d i).wh tcA, .int (celAt d i).pl tcB, .bool (celAt d i).op, .int vv tcv][(2 : Int).toNat]? = some (.bool (celAt d i).op) := rfl
      have j0 : (refs (row (fun k => A (.cl k)) d.cel.length))[((i : Nat) : Int).toNat]? = some (.ref (A (.cl i))) := refs_get (row_get hic)
      have b1 : ((i : Nat) : Int) < 2 ^ 63 := by have := hw.few; omega
      have hC2 : (A .C, W.listOf (refs (row (fun k => A (.cl k)) d.cel.length)).toArray nC) ∈ led := by rw [← hled]; exact List.mem_append_left _ (.tail _ hC)
      simp only [hop] at hcl i2
      dsimp only
      (repeat' (first | (k_unfold; (try dsimp only)) | (refine unhide (by assumption) ?_; (try dsimp only)) | ((fail_if_success (with_reducible first | show wpAny _ _ (exec (Stmt.While _ _ _ _) _) _ _ _ | show wpAny _ _ (exec (Stmt.For _ _ _ _ _) _) _ _ _ | show wpAny _ _ (exec (Stmt.Assign _ (Expr.ListComp _ _ _ _) _) _) _ _ _ | show wpAny _ _ (eval (Expr.ListComp _ _ _ _) _) _ _ _ | show wpAny _ _ (call (Value.type "enumerate") _) _ _ _ | show wpAny _ _ (call (Value.type "zip") _) _ _ _ | refine stand_ref (by decide) ?_)); first | ((with_reducible first | (refine execs_one (by assumption) fun _ => ?_) | (refine execs_hid fun _ _ _ => ?_))) | ((with_reducible show wpAny _ _ (call (Value.builtin "len") [Value.ref _]) _ _ _); k_dflt (refine len_at (by k_asm) (by k_mem) (by ktr_units) ?_; k_whole); (try simp only [refs_length])) | ((with_reducible show wpAny _ _ (subscriptTail _ _ (Value.ref _) (Value.int _ _)) _ _ _); (with_unfolding_all refine item_litK (News.isList (by k_asm) (by k_mem)) (by first | decide | omega) (by first | decide | omega) (by assumption) ?_ (by with_unfolding_all rfl); k_whole)) | ((with_reducible show TurnG _ _ _ _ _ _ _ (Flow.ret _) _); dsimp only [TurnG]) | ((with_reducible show wpAny _ _ (getMethod (Value.ref _) (PySem.Str.ofString "append") _) _ _ _); k_dflt (refine listMethod_K (by k_asm) (by first | assumption | exact mem_put_self | exact mem_put (by first | assumption | exact mem_put_self | exact mem_put (by first | assumption | exact mem_put_self | exact mem_put (by assumption) (by ktr_unf)) (by ktr_unf)) (by ktr_unf)) PySem.F.slot_list_append PySem.F.type_list_append ?_)) | walk1  | (dsimp only; walk1) | fail "no step")))
      · exact absurd rfl (by assumption)
      (rename Fr g L1 _ _ => F5); (rename News g L1 _ _ => N5)
      refine ⟨_, _, _, _, (L1 + 1, oc1) :: news, rfl, F5, N5, (fun q hq => by rw [← hled]; exact List.mem_append_left _ hq), (fun q hq => by rw [← hled]; exact List.mem_append_right _ hq), hnx, rfl, rfl, rfl, rfl, rfl⟩
  · rintro h2 tk2 m₁ nx F2 N2 hR1
    obtain ⟨rfl, m1, m2, m3, m4⟩ := hR1
    replace F2 := fr_at (x := Str.ofString "grounds") (fr_at (x := Str.ofString "stacks") (fr_at (x := Str.ofString "cells") (fr_at (x := Str.ofString "known") F2 m4) m3) m2) m1
    dsimp only
    (repeat' (first | (k_unfold; (try dsimp only)) | (refine unhide (by assumption) ?_; (try dsimp only)) | ((fail_if_success (with_reducible first | show wpAny _ _ (exec (Stmt.While _ _ _ _) _) _ _ _ | show wpAny _ _ (exec (Stmt.For _ _ _ _ _) _) _ _ _ | show wpAny _ _ (exec (Stmt.Assign _ (Expr.ListComp _ _ _ _) _) _) _ _ _ | show wpAny _ _ (eval (Expr.ListComp _ _ _ _) _) _ _ _ | show wpAny _ _ (call (Value.type "enumerate") _) _ _ _ | show wpAny _ _ (call (Value.type "zip") _) _ _ _ | refine stand_ref (by decide) ?_)); first | ((with_reducible first | (refine execs_one (by assumption) fun _ => ?_) | (refine execs_hid fun _ _ _ => ?_))) | ((with_reducible show wpAny _ _ (call (Value.builtin "len") [Value.ref _]) _ _ _); k_dflt (refine len_at (by k_asm) (by k_mem) (by ktr_units) ?_; k_whole); (try simp only [refs_length])) | ((with_reducible show wpAny _ _ (subscriptTail _ _ (Value.ref _) (Value.int _ _)) _ _ _); (with_unfolding_all refine item_litK (News.isList (by k_asm) (by k_mem)) (by first | decide | omega) (by first | decide | omega) (by assumption) ?_ (by with_unfolding_all rfl); k_whole)) | ((with_reducible show TurnG _ _ _ _ _ _ _ (Flow.ret _) _); dsimp only [TurnG]) | ((with_reducible show wpAny _ _ (getMethod (Value.ref _) (PySem.Str.ofString "append") _) _ _ _); k_dflt (refine listMethod_K (by k_asm) (by first | assumption | exact mem_put_self | exact mem_put (by first | assumption | exact mem_put_self | exact mem_put (by first | assumption | exact mem_put_self | exact mem_put (by assumption) (by ktr_unf)) (by ktr_unf)) (by ktr_unf)) PySem.F.slot_list_append PySem.F.type_list_append ?_)) | walk1  | (dsimp only; walk1) | fail "no step")))
    (with_unfolding_all refine' For_pairG (h₀ := g) F2 ?qh ?_; (case qh => exact rfl))
    (repeat' (first | (k_unfold; (try dsimp only)) | (refine unhide (by assumption) ?_; (try dsimp only)) | ((fail_if_success (with_reducible first | show wpAny _ _ (exec (Stmt.While _ _ _ _) _) _ _ _ | show wpAny _ _ (exec (Stmt.For _ _ _ _ _) _) _ _ _ | show wpAny _ _ (exec (Stmt.Assign _ (Expr.ListComp _ _ _ _) _) _) _ _ _ | show wpAny _ _ (eval (Expr.ListComp _ _ _ _) _) _ _ _ | show wpAny _ _ (call (Value.type "enumerate") _) _ _ _ | show wpAny _ _ (call (Value.type "zip") _) _ _ _ | refine stand_ref (by decide) ?_)); first | ((with_reducible first | (refine execs_one (by assumption) fun _ => ?_) | (refine execs_hid fun _ _ _ => ?_))) | ((with_reducible show wpAny _ _ (call (Value.builtin "len") [Value.ref _]) _ _ _); k_dflt (refine len_at (by k_asm) (by k_mem) (by ktr_units) ?_; k_whole); (try simp only [refs_length])) | ((with_reducible show wpAny _ _ (subscriptTail _ _ (Value.ref _) (Value.int _ _)) _ _ _); (with_unfolding_all refine item_litK (News.isList (by k_asm) (by k_mem)) (by first | decide | omega) (by first | decide | omega) (by assumption) ?_ (by with_unfolding_all rfl); k_whole)) | ((with_reducible show TurnG _ _ _ _ _ _ _ (Flow.ret _) _); dsimp only [TurnG]) | ((with_reducible show wpAny _ _ (getMethod (Value.ref _) (PySem.Str.ofString "append") _) _ _ _); k_dflt (refine listMethod_K (by k_asm) (by first | assumption | exact mem_put_self | exact mem_put (by first | assumption | exact mem_put_self | exact mem_put (by first | assumption | exact mem_put_self | exact mem_put (by assumption) (by ktr_unf)) (by ktr_unf)) (by ktr_unf)) PySem.F.slot_list_append PySem.F.type_list_append ?_)) | walk1  | (dsimp only; walk1) | fail "no step")))
    (rename Fr g _ _ _ => F3); (rename News g _ _ _ => N3)
    refine enum_at (l := A .G) (vs := refs (row (fun k => A (.gi k)) d.gst.length)) (k := nG) (fun i m nx => ∃ oc c, oc.data = .cell c ∧ nx = (L1 + 1, oc) :: news ∧ m (Str.ofString "grounds") = some (.ref (A .G)) ∧ m (Str.ofString "stacks") = some (.ref (A .S)) ∧ m (Str.ofString "cells") = some (.ref (A .C)) ∧ m (Str.ofString "known") = some (.ref (A .K))) rfl F3 N3 (.tail _ hG) ⟨oc1, _, dc1, rfl, rfl, rfl, rfl, rfl⟩ ?_ ?_
    · rintro wr fp i v t m₁ nx h2 tk2 own hv hoff hR1 hnx hown hfp F2 N2
      obtain ⟨oc, cc, dc, rfl, m1, m2, m3, m4⟩ := hR1
      replace F2 := fr_at (x := Str.ofString "grounds") (fr_at (x := Str.ofString "stacks") (fr_at (x := Str.ofString "cells") (fr_at (x := Str.ofString "known") F2 m4) m3) m2) m1
      have hi : i < d.gst.length := by
        have := (List.getElem?_eq_some_iff.mp hv).1
        simpa [refs, row] using this
      have hvb : v = .ref (A (.gi i)) := by
        have := refs_get (row_get (f := fun k => A (.gi k)) hi)
        rw [this] at hv; exact (Option.some.inj hv).symm
      subst hvb
      have hcm : (L1 + 1, oc) ∈ (L1 + 1, oc) :: news ++ own := .head _
      (repeat' (first | (k_unfold; (try dsimp only)) | (refine unhide (by assumption) ?_; (try dsimp only)) | ((fail_if_success (with_reducible first | show wpAny _ _ (exec (Stmt.While _ _ _ _) _) _ _ _ | show wpAny _ _ (exec (Stmt.For _ _ _ _ _) _) _ _ _ | show wpAny _ _ (exec (Stmt.Assign _ (Expr.ListComp _ _ _ _) _) _) _ _ _ | show wpAny _ _ (eval (Expr.ListComp _ _ _ _) _) _ _ _ | show wpAny _ _ (call (Value.type "enumerate") _) _ _ _ | show wpAny _ _ (call (Value.type "zip") _) _ _ _ | refine stand_ref (by decide) ?_)); first | ((with_reducible first | (refine execs_one (by assumption) fun _ => ?_) | (refine execs_hid fun _ _ _ => ?_))) | ((with_reducible show wpAny _ _ (call (Value.builtin "len") [Value.ref _]) _ _ _); k_dflt (refine len_at (by k_asm) (by k_mem) (by ktr_units) ?_; k_whole); (try simp only [refs_length])) | ((with_reducible show wpAny _ _ (subscriptTail _ _ (Value.ref _) (Value.int _ _)) _ _ _); (with_unfolding_all refine item_litK (News.isList (by k_asm) (by k_mem)) (by first | decide | omega) (by first | decide | omega) (by assumption) ?_ (by with_unfolding_all rfl); k_whole)) | ((with_reducible show TurnG _ _ _ _ _ _ _ (Flow.ret _) _); dsimp only [TurnG]) | ((with_reducible show wpAny _ _ (getMethod (Value.ref _) (PySem.Str.ofString "append") _) _ _ _); k_dflt (refine listMethod_K (by k_asm) (by first | assumption | exact mem_put_self | exact mem_put (by first | assumption | exact mem_put_self | exact mem_put (by first | assumption | exact mem_put_self | exact mem_put (by assumption) (by ktr_unf)) (by ktr_unf)) (by ktr_unf)) PySem.F.slot_list_append PySem.F.type_list_append ?_)) | walk1  | (dsimp only; walk1) | fail "no step")))
      (rename Obj => o5); (rename Obj.data _ = _ => d5); (rename Fr g L1 _ _ => F5); (rename News g L1 _ _ => N5)
      have hcG : L1 + 1 ≠ A .G := neN (by have q : @LT.lt Nat _ (A .G) L1 := hlt .G trivial; omega)
      have k5 : ∀ q ∈ news, q ∈ put (L1 + 1) o5 ((L1 + 1, oc) :: news ++ own) := fun q hq => mem_put (List.mem_append_left _ (.tail _ hq)) (neN (by have q : @LT.lt Nat _ q.1 L1 := l1 q hq; omega))
      have w5 : ∀ q ∈ own, q ∈ put (L1 + 1) o5 ((L1 + 1, oc) :: news ++ own) := fun q hq => mem_put (List.mem_append_right _ hq) (fun e => by
        rcases hfp _ (hown q hq) with h | h
        · exact hnx _ (.head _) (e ▸ h)
        · exact hcG (e ▸ h))
      have c5 : (L1 + 1, o5) ∈ put (L1 + 1) o5 ((L1 + 1, oc) :: news ++ own) := mem_put_self
      generalize put (L1 + 1) o5 ((L1 + 1, oc) :: news ++ own) = led at N5 k5 w5 c5
      have h5' : H led A d := h.mono k5
      (with_unfolding_all refine' Assign_ListComp_at [Str.ofString "cell"] F5 ?qe ?qs ?qc ?qd ?qk ?qn ?qx ?qy ?qp ?_ ?qf)
      (case qe => exact rfl)
      (case qs => exact rfl)
      (case qc => exact rfl)
      (case qd => decide)
      (case qk => exact rfl)
      (case qn => decide)
      (case qx => decide)
      (case qy => exact rfl)
      (case qp => exact rfl)
      (case qf => (intro _; exact rfl))
      (repeat' (first | (k_unfold; (try dsimp only)) | (refine unhide (by assumption) ?_; (try dsimp only)) | ((fail_if_success (with_reducible first | show wpAny _ _ (exec (Stmt.While _ _ _ _) _) _ _ _ | show wpAny _ _ (exec (Stmt.For _ _ _ _ _) _) _ _ _ | show wpAny _ _ (exec (Stmt.Assign _ (Expr.ListComp _ _ _ _) _) _) _ _ _ | show wpAny _ _ (eval (Expr.ListComp _ _ _ _) _) _ _ _ | show wpAny _ _ (call (Value.type "enumerate") _) _ _ _ | show wpAny _ _ (call (Value.type "zip") _) _ _ _ | refine stand_ref (by decide) ?_)); first | ((with_reducible first | (refine execs_one (by assumption) fun _ => ?_) | (refine execs_hid fun _ _ _ => ?_))) | ((with_reducible show wpAny _ _ (call (Value.builtin "len") [Value.ref _]) _ _ _); k_dflt (refine len_at (by k_asm) (by k_mem) (by ktr_units) ?_; k_whole); (try simp only [refs_length])) | ((with_reducible show wpAny _ _ (subscriptTail _ _ (Value.ref _) (Value.int _ _)) _ _ _); (with_unfolding_all refine item_litK (News.isList (by k_asm) (by k_mem)) (by first | decide | omega) (by first | decide | omega) (by assumption) ?_ (by with_unfolding_all rfl); k_whole)) | ((with_reducible show TurnG _ _ _ _ _ _ _ (Flow.ret _) _); dsimp only [TurnG]) | ((with_reducible show wpAny _ _ (getMethod (Value.ref _) (PySem.Str.ofString "append") _) _ _ _); k_dflt (refine listMethod_K (by k_asm) (by first | assumption | exact mem_put_self | exact mem_put (by first | assumption | exact mem_put_self | exact mem_put (by first | assumption | exact mem_put_self | exact mem_put (by assumption) (by ktr_unf)) (by ktr_unf)) (by ktr_unf)) PySem.F.slot_list_append PySem.F.type_list_append ?_)) | walk1  | (dsimp only; walk1) | fail "no step")))
      have hcl300 : d.cel.length ≤ 300 := by have q1 := hw.ck; have q2 := hw.kn; have q3 := hw.few; omega
      refine src_list (l := A .C) (vs := refs (row (fun k => A (.cl k)) d.cel.length)) (k := nC) (fun k => (celAt d k).op && (celAt d k).wh == i) (fun k v => ∃ t, v = .int ((celAt d k).pl : Int) t) rfl F5 N5 (k5 _ hC) (by rw [refs_length, row_length]; omega) ?_ ?_
      · rintro s₂ ⟨hh, rfl⟩
        constructor
        · intro k C oC m₂ hk tk E' hkl hB hNs F9 N9
          obtain ⟨v, hv, hb1⟩ := hB
          have hkl' : k < d.cel.length := by simpa [refs, row] using hkl
          have hv' : v = .ref (A (.cl k)) := by
            have := refs_get (row_get (f := fun k => A (.cl k)) hkl')
            rw [this] at hv; exact (Option.some.inj hv).symm
          subst hv'
          obtain ⟨ta, tb, vv, nn, hov, hcl⟩ := h5'.cell hkl'
          have i0 : [Value.int (celAt d k).wh ta, .int (celAt d k).pl tb, .bool (celAt d k).op, vv][(0 : Int).toNat]? = some (.int (celAt d k).wh ta) := rfl
          have i2 : [Value.int (celAt d k).wh ta, .int (celAt d k).pl tb, .bool (celAt d k).op, vv][(2 : Int).toNat]? = some (.bool (celAt d k).op) := rfl
          refine wpAny_tests_one ?_
          (repeat' (first | (k_unfold; (try dsimp only)) | (refine unhide (by assumption) ?_; (try dsimp only)) | ((fail_if_success (with_reducible first | show wpAny _ _ (exec (Stmt.While _ _ _ _) _) _ _ _ | show wpAny _ _ (exec (Stmt.For _ _ _ _ _) _) _ _ _ | show wpAny _ _ (exec (Stmt.Assign _ (Expr.ListComp _ _ _ _) _) _) _ _ _ | show wpAny _ _ (eval (Expr.ListComp _ _ _ _) _) _ _ _ | show wpAny _ _ (call (Value.type "enumerate") _) _ _ _ | show wpAny _ _ (call (Value.type "zip") _) _ _ _ | refine stand_ref (by decide) ?_)); first | ((with_reducible first | (refine execs_one (by assumption) fun _ => ?_) | (refine execs_hid fun _ _ _ => ?_))) | ((with_reducible show wpAny _ _ (call (Value.builtin "len") [Value.ref _]) _ _ _); k_dflt (refine len_at (by k_asm) (by k_mem) (by ktr_units) ?_; k_whole); (try simp only [refs_length])) | ((with_reducible show wpAny _ _ (subscriptTail _ _ (Value.ref _) (Value.int _ _)) _ _ _); (with_unfolding_all refine item_litK (News.isList (by k_asm) (by k_mem)) (by first | decide | omega) (by first | decide | omega) (by assumption) ?_ (by with_unfolding_all rfl); k_whole)) | ((with_reducible show TurnG _ _ _ _ _ _ _ (Flow.ret _) _); dsimp only [TurnG]) | ((with_reducible show wpAny _ _ (getMethod (Value.ref _) (PySem.Str.ofString "append") _) _ _ _); k_dflt (refine listMethod_K (by k_asm) (by first | assumption | exact mem_put_self | exact mem_put (by first | assumption | exact mem_put_self | exact mem_put (by first | assumption | exact mem_put_self | exact mem_put (by assumption) (by ktr_unf)) (by ktr_unf)) (by ktr_unf)) PySem.F.slot_list_append PySem.F.type_list_append ?_)) | walk1  | (dsimp only; walk1) | fail "no step")))
          all_goals first | exact and2_1 (by assumption) (by assumption) | exact and2_2 (by assumption) | exact and2_3 (by assumption)
        · intro k C oC m₂ hk tk E' hkl hp hB hNs F9 N9
          obtain ⟨v, hv, hb1⟩ := hB
          have hkl' : k < d.cel.length := by simpa [refs, row] using hkl
          have hv' : v = .ref (A (.cl k)) := by
            have := refs_get (row_get (f := fun k => A (.cl k)) hkl')
            rw [this] at hv; exact (Option.some.inj hv).symm
          subst hv'
          obtain ⟨ta, tb, vv, nn, hov, hcl⟩ := h5'.cell hkl'
          have i1 : [Value.int (celAt d k).wh ta, .int (celAt d k).pl tb, .bool (celAt d k).op, vv][(1 : Int).toNat]? = some (.int (celAt d k).pl tb) := rfl
          (repeat' (first | (k_unfold; (try dsimp only)) | (refine unhide (by assumption) ?_; (try dsimp only)) | ((fail_if_success (with_reducible first | show wpAny _ _ (exec (Stmt.While _ _ _ _) _) _ _ _ | show wpAny _ _ (exec (Stmt.For _ _ _ _ _) _) _ _ _ | show wpAny _ _ (exec (Stmt.Assign _ (Expr.ListComp _ _ _ _) _) _) _ _ _ | show wpAny _ _ (eval (Expr.ListComp _ _ _ _) _) _ _ _ | show wpAny _ _ (call (Value.type "enumerate") _) _ _ _ | show wpAny _ _ (call (Value.type "zip") _) _ _ _ | refine stand_ref (by decide) ?_)); first | ((with_reducible first | (refine execs_one (by assumption) fun _ => ?_) | (refine execs_hid fun _ _ _ => ?_))) | ((with_reducible show wpAny _ _ (call (Value.builtin "len") [Value.ref _]) _ _ _); k_dflt (refine len_at (by k_asm) (by k_mem) (by ktr_units) ?_; k_whole); (try simp only [refs_length])) | ((with_reducible show wpAny _ _ (subscriptTail _ _ (Value.ref _) (Value.int _ _)) _ _ _); (with_unfolding_all refine item_litK (News.isList (by k_asm) (by k_mem)) (by first | decide | omega) (by first | decide | omega) (by assumption) ?_ (by with_unfolding_all rfl); k_whole)) | ((with_reducible show TurnG _ _ _ _ _ _ _ (Flow.ret _) _); dsimp only [TurnG]) | ((with_reducible show wpAny _ _ (getMethod (Value.ref _) (PySem.Str.ofString "append") _) _ _ _); k_dflt (refine listMethod_K (by k_asm) (by first | assumption | exact mem_put_self | exact mem_put (by first | assumption | exact mem_put_self | exact mem_put (by first | assumption | exact mem_put_self | exact mem_put (by assumption) (by ktr_unf)) (by ktr_unf)) (by ktr_unf)) PySem.F.slot_list_append PySem.F.type_list_append ?_)) | walk1  | (dsimp only; walk1) | fail "no step")))
      · rintro s₂ ⟨hh, rfl⟩ D h9 tk9 ys ep F9 N9 hD hP
        rw [refs_length, row_length] at hP
        have hys : IntsAre ys (places d i) := paired_ints hP
        have cD : (D, W.listOf ys.toArray ep) ∈ (D, W.listOf ys.toArray ep) :: led := .head _
        replace k5 : ∀ q ∈ news, q ∈ (D, W.listOf ys.toArray ep) :: led := fun q hq => .tail _ (k5 q hq)
        replace w5 : ∀ q ∈ own, q ∈ (D, W.listOf ys.toArray ep) :: led := fun q hq => .tail _ (w5 q hq)
        replace c5 : (L1 + 1, o5) ∈ (D, W.listOf ys.toArray ep) :: led := .tail _ c5
        generalize hled9 : (D, W.listOf ys.toArray ep) :: led = led9 at N9 cD k5 w5 c5
        clear hled9 h5' N5 F5
        have h9' : H led9 A d := h.mono k5
        obtain ⟨dxg, og, hg1, hg2, ng, c0, c1, t0, t1, rfl⟩ := h9'.ground hi
        obtain ⟨vs, ns, hvs, hsl⟩ := h9'.gstack hi
        have him : i < d.mst.length := by rw [hI.mir]; exact hi
        obtain ⟨ws, nw, hws, hwl⟩ := h9'.mirror him
        have hms : ∀ j, mstAt d j = gstAt d j := fun j => by unfold mstAt gstAt; rw [hI.mir]
        rw [hms] at hws
        have j1 : (refs (row (fun i => A (.mir i)) d.mst.length))[((i : Nat) : Int).toNat]? = some (.ref (A (.mir i))) := refs_get (row_get him)
        have b1 : ((i : Nat) : Int) < 2 ^ 63 := by have := hw.gfew; omega
        have hS9 := k5 _ hS
        have hG9 := k5 _ hG
        dsimp only
        (repeat' (first | (k_unfold; (try dsimp only)) | (refine unhide (by assumption) ?_; (try dsimp only)) | ((fail_if_success (with_reducible first | show wpAny _ _ (exec (Stmt.While _ _ _ _) _) _ _ _ | show wpAny _ _ (exec (Stmt.For _ _ _ _ _) _) _ _ _ | show wpAny _ _ (exec (Stmt.Assign _ (Expr.ListComp _ _ _ _) _) _) _ _ _ | show wpAny _ _ (eval (Expr.ListComp _ _ _ _) _) _ _ _ | show wpAny _ _ (call (Value.type "enumerate") _) _ _ _ | show wpAny _ _ (call (Value.type "zip") _) _ _ _ | refine stand_ref (by decide) ?_)); first | ((with_reducible first | (refine execs_one (by assumption) fun _ => ?_) | (refine execs_hid fun _ _ _ => ?_))) | ((with_reducible show wpAny _ _ (call (Value.builtin "len") [Value.ref _]) _ _ _); k_dflt (refine len_at (by k_asm) (by k_mem) (by ktr_units) ?_; k_whole); (try simp only [refs_length])) | ((with_reducible show wpAny _ _ (subscriptTail _ _ (Value.ref _) (Value.int _ _)) _ _ _); (with_unfolding_all refine item_litK (News.isList (by k_asm) (by k_mem)) (by first | decide | omega) (by first | decide | omega) (by assumption) ?_ (by with_unfolding_all rfl); k_whole)) | ((with_reducible show TurnG _ _ _ _ _ _ _ (Flow.ret _) _); dsimp only [TurnG]) | ((with_reducible show wpAny _ _ (getMethod (Value.ref _) (PySem.Str.ofString "append") _) _ _ _); k_dflt (refine listMethod_K (by k_asm) (by first | assumption | exact mem_put_self | exact mem_put (by first | assumption | exact mem_put_self | exact mem_put (by first | assumption | exact mem_put_self | exact mem_put (by assumption) (by ktr_unf)) (by ktr_unf)) (by ktr_unf)) PySem.F.slot_list_append PySem.F.type_list_append ?_)) | walk1  | (dsimp only; walk1) | fail "no step")))
        (rename Fr g L1 _ _ => F10); (rename News g L1 _ _ => N10)
        refine wpAny_call (check_H ⟨B1, F10, X1, T1, N10, rfl, rfl⟩ (by ktr_room) (by ktr_room) h9' hw hI hi ?_)
        intro h11 tk11 F11 N11
        dsimp only
        (repeat' (first | (k_unfold; (try dsimp only)) | (refine unhide (by assumption) ?_; (try dsimp only)) | ((fail_if_success (with_reducible first | show wpAny _ _ (exec (Stmt.While _ _ _ _) _) _ _ _ | show wpAny _ _ (exec (Stmt.For _ _ _ _ _) _) _ _ _ | show wpAny _ _ (exec (Stmt.Assign _ (Expr.ListComp _ _ _ _) _) _) _ _ _ | show wpAny _ _ (eval (Expr.ListComp _ _ _ _) _) _ _ _ | show wpAny _ _ (call (Value.type "enumerate") _) _ _ _ | show wpAny _ _ (call (Value.type "zip") _) _ _ _ | refine stand_ref (by decide) ?_)); first | ((with_reducible first | (refine execs_one (by assumption) fun _ => ?_) | (refine execs_hid fun _ _ _ => ?_))) | ((with_reducible show wpAny _ _ (call (Value.builtin "len") [Value.ref _]) _ _ _); k_dflt (refine len_at (by k_asm) (by k_mem) (by ktr_units) ?_; k_whole); (try simp only [refs_length])) | ((with_reducible show wpAny _ _ (subscriptTail _ _ (Value.ref _) (Value.int _ _)) _ _ _); (with_unfolding_all refine item_litK (News.isList (by k_asm) (by k_mem)) (by first | decide | omega) (by first | decide | omega) (by assumption) ?_ (by with_unfolding_all rfl); k_whole)) | ((with_reducible show TurnG _ _ _ _ _ _ _ (Flow.ret _) _); dsimp only [TurnG]) | ((with_reducible show wpAny _ _ (getMethod (Value.ref _) (PySem.Str.ofString "append") _) _ _ _); k_dflt (refine listMethod_K (by k_asm) (by first | assumption | exact mem_put_self | exact mem_put (by first | assumption | exact mem_put_self | exact mem_put (by first | assumption | exact mem_put_self | exact mem_put (by assumption) (by ktr_unf)) (by ktr_unf)) (by ktr_unf)) PySem.F.slot_list_append PySem.F.type_list_append ?_)) | walk1  | (dsimp only; walk1) | fail "no step")))
        (rename Fr g L1 _ _ => F12); (rename News g L1 _ _ => N12)
        (with_unfolding_all refine' ListComp_at [Str.ofString "one"] F12 ?qc ?qd ?qk ?qn ?qx ?_ ?qf)
        (case qc => exact rfl)
        (case qd => decide)
        (case qk => exact rfl)
        (case qn => decide)
        (case qx => decide)
        (case qf => (intro _; exact rfl))
        (repeat' (first | (k_unfold; (try dsimp only)) | (refine unhide (by assumption) ?_; (try dsimp only)) | ((fail_if_success (with_reducible first | show wpAny _ _ (exec (Stmt.While _ _ _ _) _) _ _ _ | show wpAny _ _ (exec (Stmt.For _ _ _ _ _) _) _ _ _ | show wpAny _ _ (exec (Stmt.Assign _ (Expr.ListComp _ _ _ _) _) _) _ _ _ | show wpAny _ _ (eval (Expr.ListComp _ _ _ _) _) _ _ _ | show wpAny _ _ (call (Value.type "enumerate") _) _ _ _ | show wpAny _ _ (call (Value.type "zip") _) _ _ _ | refine stand_ref (by decide) ?_)); first | ((with_reducible first | (refine execs_one (by assumption) fun _ => ?_) | (refine execs_hid fun _ _ _ => ?_))) | ((with_reducible show wpAny _ _ (call (Value.builtin "len") [Value.ref _]) _ _ _); k_dflt (refine len_at (by k_asm) (by k_mem) (by ktr_units) ?_; k_whole); (try simp only [refs_length])) | ((with_reducible show wpAny _ _ (subscriptTail _ _ (Value.ref _) (Value.int _ _)) _ _ _); (with_unfolding_all refine item_litK (News.isList (by k_asm) (by k_mem)) (by first | decide | omega) (by first | decide | omega) (by assumption) ?_ (by with_unfolding_all rfl); k_whole)) | ((with_reducible show TurnG _ _ _ _ _ _ _ (Flow.ret _) _); dsimp only [TurnG]) | ((with_reducible show wpAny _ _ (getMethod (Value.ref _) (PySem.Str.ofString "append") _) _ _ _); k_dflt (refine listMethod_K (by k_asm) (by first | assumption | exact mem_put_self | exact mem_put (by first | assumption | exact mem_put_self | exact mem_put (by first | assumption | exact mem_put_self | exact mem_put (by assumption) (by ktr_unf)) (by ktr_unf)) (by ktr_unf)) PySem.F.slot_list_append PySem.F.type_list_append ?_)) | walk1  | (dsimp only; walk1) | fail "no step")))
        (rename Fr g L1 _ _ => F13); (rename News g L1 _ _ => N13)
        dsimp only
        have hol : ∃ n, (A (.go i), W.listOf (refs ((opnAt d i).map fun k => A (.ui k))).toArray n) ∈ led9 := h9'.open hi
        obtain ⟨no, hol⟩ := hol
        have hol3 : (refs ((opnAt d i).map fun k => A (.ui k))).length = (ixsAt d i).length := by rw [refs_length]; simp [ixsAt]
        have hog := hw.ofew i
        refine src_list (l := A (.go i)) (vs := refs ((opnAt d i).map fun k => A (.ui k))) (k := no) (fun _ => true) (fun j v => ∃ t, v = .int ((ixsAt d i).getD j 0) t) rfl F13 N13 hol (by rw [refs_length]; simp; omega) ?_ ?_
        · rintro s₂ ⟨hh, rfl⟩
          constructor
          · intro k C oC m₂ hk tk E' hkl hB hNs F14 N14
            exact wpAny_tests_nil ⟨rfl, _, rfl⟩
          · intro k C oC m₂ hk tk E' hkl hp hB hNs F14 N14
            obtain ⟨v, hv, hb1⟩ := hB
            obtain ⟨j, hj, rfl⟩ : ∃ j, (opnAt d i)[k]? = some j ∧ v = .ref (A (.ui j)) := by
              cases e : (opnAt d i)[k]? with
              | none => simp [refs, e] at hv
              | some j => exact ⟨j, rfl, by simpa [refs, e] using hv.symm⟩
            obtain ⟨oU, vlU, hu1, hu2, hu3, hu4⟩ := h9'.up (hw.ok i j (List.mem_of_getElem? hj))
            have hix : (ixsAt d i).getD k 0 = (upAt d j).ix := by simp [ixsAt, hj]
            rw [hix]
            obtain ⟨na, e0, e1, e2, e3, e4, e5, s0, s1, s2, s3, s4, s5, v0, v1, v2, ti, rfl⟩ := hu4
            (repeat' (first | (k_unfold; (try dsimp only)) | (refine unhide (by assumption) ?_; (try dsimp only)) | ((fail_if_success (with_reducible first | show wpAny _ _ (exec (Stmt.While _ _ _ _) _) _ _ _ | show wpAny _ _ (exec (Stmt.For _ _ _ _ _) _) _ _ _ | show wpAny _ _ (exec (Stmt.Assign _ (Expr.ListComp _ _ _ _) _) _) _ _ _ | show wpAny _ _ (eval (Expr.ListComp _ _ _ _) _) _ _ _ | show wpAny _ _ (call (Value.type "enumerate") _) _ _ _ | show wpAny _ _ (call (Value.type "zip") _) _ _ _ | refine stand_ref (by decide) ?_)); first | ((with_reducible first | (refine execs_one (by assumption) fun _ => ?_) | (refine execs_hid fun _ _ _ => ?_))) | ((with_reducible show wpAny _ _ (call (Value.builtin "len") [Value.ref _]) _ _ _); k_dflt (refine len_at (by k_asm) (by k_mem) (by ktr_units) ?_; k_whole); (try simp only [refs_length])) | ((with_reducible show wpAny _ _ (subscriptTail _ _ (Value.ref _) (Value.int _ _)) _ _ _); (with_unfolding_all refine item_litK (News.isList (by k_asm) (by k_mem)) (by first | decide | omega) (by first | decide | omega) (by assumption) ?_ (by with_unfolding_all rfl); k_whole)) | ((with_reducible show TurnG _ _ _ _ _ _ _ (Flow.ret _) _); dsimp only [TurnG]) | ((with_reducible show wpAny _ _ (getMethod (Value.ref _) (PySem.Str.ofString "append") _) _ _ _); k_dflt (refine listMethod_K (by k_asm) (by first | assumption | exact mem_put_self | exact mem_put (by first | assumption | exact mem_put_self | exact mem_put (by first | assumption | exact mem_put_self | exact mem_put (by assumption) (by ktr_unf)) (by ktr_unf)) (by ktr_unf)) PySem.F.slot_list_append PySem.F.type_list_append ?_)) | walk1  | (dsimp only; walk1) | fail "no step")))
        · rintro s₂ ⟨hh, rfl⟩ D2 h14 tk14 ys2 ep2 F14 N14 hD2 hP2
          have hys2 : IntsAre ys2 (ixsAt d i) := by
            have := paired_ints hP2
            rw [hol3, List.filter_eq_self.mpr (fun _ _ => rfl), range_getD] at this
            exact this
          have cD2 : (D2, W.listOf ys2.toArray ep2) ∈ (D2, W.listOf ys2.toArray ep2) :: led9 := .head _
          replace cD : (D, W.listOf ys.toArray ep) ∈ (D2, W.listOf ys2.toArray ep2) :: led9 := .tail _ cD
          replace k5 : ∀ q ∈ news, q ∈ (D2, W.listOf ys2.toArray ep2) :: led9 := fun q hq => .tail _ (k5 q hq)
          replace w5 : ∀ q ∈ own, q ∈ (D2, W.listOf ys2.toArray ep2) :: led9 := fun q hq => .tail _ (w5 q hq)
          replace c5 : (L1 + 1, o5) ∈ (D2, W.listOf ys2.toArray ep2) :: led9 := .tail _ c5
          generalize hledA : (D2, W.listOf ys2.toArray ep2) :: led9 = ledA at N14 cD k5 w5 c5 cD2
          clear hledA h9' N10 F10 N13 F13
          have hA' : H ledA A d := h.mono k5
          dsimp only
          (repeat' (first | (k_unfold; (try dsimp only)) | (refine unhide (by assumption) ?_; (try dsimp only)) | ((fail_if_success (with_reducible first | show wpAny _ _ (exec (Stmt.While _ _ _ _) _) _ _ _ | show wpAny _ _ (exec (Stmt.For _ _ _ _ _) _) _ _ _ | show wpAny _ _ (exec (Stmt.Assign _ (Expr.ListComp _ _ _ _) _) _) _ _ _ | show wpAny _ _ (eval (Expr.ListComp _ _ _ _) _) _ _ _ | show wpAny _ _ (call (Value.type "enumerate") _) _ _ _ | show wpAny _ _ (call (Value.type "zip") _) _ _ _ | refine stand_ref (by decide) ?_)); first | ((with_reducible first | (refine execs_one (by assumption) fun _ => ?_) | (refine execs_hid fun _ _ _ => ?_))) | ((with_reducible show wpAny _ _ (call (Value.builtin "len") [Value.ref _]) _ _ _); k_dflt (refine len_at (by k_asm) (by k_mem) (by ktr_units) ?_; k_whole); (try simp only [refs_length])) | ((with_reducible show wpAny _ _ (subscriptTail _ _ (Value.ref _) (Value.int _ _)) _ _ _); (with_unfolding_all refine item_litK (News.isList (by k_asm) (by k_mem)) (by first | decide | omega) (by first | decide | omega) (by assumption) ?_ (by with_unfolding_all rfl); k_whole)) | ((with_reducible show TurnG _ _ _ _ _ _ _ (Flow.ret _) _); dsimp only [TurnG]) | ((with_reducible show wpAny _ _ (getMethod (Value.ref _) (PySem.Str.ofString "append") _) _ _ _); k_dflt (refine listMethod_K (by k_asm) (by first | assumption | exact mem_put_self | exact mem_put (by first | assumption | exact mem_put_self | exact mem_put (by first | assumption | exact mem_put_self | exact mem_put (by assumption) (by ktr_unf)) (by ktr_unf)) (by ktr_unf)) PySem.F.slot_list_append PySem.F.type_list_append ?_)) | walk1  | (dsimp only; walk1) | fail "no step")))
          (rename Fr g L1 _ _ => F15); (rename News g L1 _ _ => N15)
          have hpl60 : (places d i).length < 60 := by have := places_len (d := d) i; have := celLen hw hI; omega
          show wpAny _ _ (call (Value.builtin "sorted") [Value.ref D] [(PySem.Str.ofString "reverse", Value.bool true)]) _ _ _
          refine ksk_rev (b := true) (ns := places d i) F15 N15 (News.isList N15 cD) hys (by omega) ?_
          intro D3 vs3 ns3 c3 h16 F16 N16 l16 hi16 _ hperm hpw _
          have e3 : ns3 = ixsAt d i := sorted_unique (hperm.trans (places_perm hw hI i)) (by simpa using hpw) (hI.srt i)
          subst e3
          have cD3 : (D3, W.listOf vs3.toArray c3) ∈ (D3, W.listOf vs3.toArray c3) :: ledA := .head _
          replace cD : (D, W.listOf ys.toArray ep) ∈ (D3, W.listOf vs3.toArray c3) :: ledA := .tail _ cD
          replace cD2 : (D2, W.listOf ys2.toArray ep2) ∈ (D3, W.listOf vs3.toArray c3) :: ledA := .tail _ cD2
          replace k5 : ∀ q ∈ news, q ∈ (D3, W.listOf vs3.toArray c3) :: ledA := fun q hq => .tail _ (k5 q hq)
          replace w5 : ∀ q ∈ own, q ∈ (D3, W.listOf vs3.toArray c3) :: ledA := fun q hq => .tail _ (w5 q hq)
          replace c5 : (L1 + 1, o5) ∈ (D3, W.listOf vs3.toArray c3) :: ledA := .tail _ c5
          generalize hledB : (D3, W.listOf vs3.toArray c3) :: ledA = ledB at N16 cD k5 w5 c5 cD2 cD3
          clear hledB hA' N15 F15
          have hB' : H ledB A d := h.mono k5
          dsimp only
          (repeat' (first | (k_unfold; (try dsimp only)) | (refine unhide (by assumption) ?_; (try dsimp only)) | ((fail_if_success (with_reducible first | show wpAny _ _ (exec (Stmt.While _ _ _ _) _) _ _ _ | show wpAny _ _ (exec (Stmt.For _ _ _ _ _) _) _ _ _ | show wpAny _ _ (exec (Stmt.Assign _ (Expr.ListComp _ _ _ _) _) _) _ _ _ | show wpAny _ _ (eval (Expr.ListComp _ _ _ _) _) _ _ _ | show wpAny _ _ (call (Value.type "enumerate") _) _ _ _ | show wpAny _ _ (call (Value.type "zip") _) _ _ _ | refine stand_ref (by decide) ?_)); first | ((with_reducible first | (refine execs_one (by assumption) fun _ => ?_) | (refine execs_hid fun _ _ _ => ?_))) | ((with_reducible show wpAny _ _ (call (Value.builtin "len") [Value.ref _]) _ _ _); k_dflt (refine len_at (by k_asm) (by k_mem) (by ktr_units) ?_; k_whole); (try simp only [refs_length])) | ((with_reducible show wpAny _ _ (subscriptTail _ _ (Value.ref _) (Value.int _ _)) _ _ _); (with_unfolding_all refine item_litK (News.isList (by k_asm) (by k_mem)) (by first | decide | omega) (by first | decide | omega) (by assumption) ?_ (by with_unfolding_all rfl); k_whole)) | ((with_reducible show TurnG _ _ _ _ _ _ _ (Flow.ret _) _); dsimp only [TurnG]) | ((with_reducible show wpAny _ _ (getMethod (Value.ref _) (PySem.Str.ofString "append") _) _ _ _); k_dflt (refine listMethod_K (by k_asm) (by first | assumption | exact mem_put_self | exact mem_put (by first | assumption | exact mem_put_self | exact mem_put (by first | assumption | exact mem_put_self | exact mem_put (by assumption) (by ktr_unf)) (by ktr_unf)) (by ktr_unf)) PySem.F.slot_list_append PySem.F.type_list_append ?_)) | walk1  | (dsimp only; walk1) | fail "no step")))
          (rename Fr g L1 _ _ => F17); (rename News g L1 _ _ => N17)
          (rename _ ∈ places d i ++ [0] => hM1); (rename ∀ a, a ∈ places d i ++ [0] → _ => hM2)
          obtain ⟨hmx1, hmx2⟩ := places_max hw hI i hM1 hM2
          obtain ⟨ledC, hsub, N18⟩ := hide2 N17
          clear N17
          replace cD := hsub _ cD
          replace c5 := hsub _ c5
          have hC' : H ledC A d := hB'.mono hsub
          have kC : ∀ q ∈ news, q ∈ ledC := fun q hq => hsub q (k5 q hq)
          have wC : ∀ q ∈ own, q ∈ ledC := fun q hq => hsub q (w5 q hq)
          clear hg1 hg2 hsl hwl hS9 hG9 hol cD2 cD3 k5 w5 hB' hsub
          by_cases hne : 0 < (places d i).length
          · have hmx3 : hasOpen (ixsAt d i) _ = true := hmx1.trans (by simpa using hne)
            refine wpAny_call (has_H ⟨B1, F17, X1, T1, N18, rfl, rfl⟩ (by ktr_room) (by ktr_room) hC' hw hi hmx3 ?_)
            intro h19 tk19 F19 N19
            dsimp only
            (repeat' (first | (k_unfold; (try dsimp only)) | (refine unhide (by assumption) ?_; (try dsimp only)) | ((fail_if_success (with_reducible first | show wpAny _ _ (exec (Stmt.While _ _ _ _) _) _ _ _ | show wpAny _ _ (exec (Stmt.For _ _ _ _ _) _) _ _ _ | show wpAny _ _ (exec (Stmt.Assign _ (Expr.ListComp _ _ _ _) _) _) _ _ _ | show wpAny _ _ (eval (Expr.ListComp _ _ _ _) _) _ _ _ | show wpAny _ _ (call (Value.type "enumerate") _) _ _ _ | show wpAny _ _ (call (Value.type "zip") _) _ _ _ | refine stand_ref (by decide) ?_)); first | ((with_reducible first | (refine execs_one (by assumption) fun _ => ?_) | (refine execs_hid fun _ _ _ => ?_))) | ((with_reducible show wpAny _ _ (call (Value.builtin "len") [Value.ref _]) _ _ _); k_dflt (refine len_at (by k_asm) (by k_mem) (by ktr_units) ?_; k_whole); (try simp only [refs_length])) | ((with_reducible show wpAny _ _ (subscriptTail _ _ (Value.ref _) (Value.int _ _)) _ _ _); (with_unfolding_all refine item_litK (News.isList (by k_asm) (by k_mem)) (by first | decide | omega) (by first | decide | omega) (by assumption) ?_ (by with_unfolding_all rfl); k_whole)) | ((with_reducible show TurnG _ _ _ _ _ _ _ (Flow.ret _) _); dsimp only [TurnG]) | ((with_reducible show wpAny _ _ (getMethod (Value.ref _) (PySem.Str.ofString "append") _) _ _ _); k_dflt (refine listMethod_K (by k_asm) (by first | assumption | exact mem_put_self | exact mem_put (by first | assumption | exact mem_put_self | exact mem_put (by first | assumption | exact mem_put_self | exact mem_put (by assumption) (by ktr_unf)) (by ktr_unf)) (by ktr_unf)) PySem.F.slot_list_append PySem.F.type_list_append ?_)) | walk1  | (dsimp only; walk1) | fail "no step")))
            (rename Fr g L1 _ _ => F20); (rename News g L1 _ _ => N20)
            refine wpAny_call (has_H ⟨B1, F20, X1, T1, N20, rfl, rfl⟩ (by ktr_room) (by ktr_room) hC' hw hi hmx2 ?_)
            intro h21 tk21 F21 N21
            dsimp only
            have hyl : decide ((0 : Int) < (ys.length : Nat)) = true := by rw [hys.length]; simpa using hne
            have hyf : ys.length ≤ 300 := by rw [hys.length]; omega
            (repeat' (first | (k_unfold; (try dsimp only)) | (refine unhide (by assumption) ?_; (try dsimp only)) | ((fail_if_success (with_reducible first | show wpAny _ _ (exec (Stmt.While _ _ _ _) _) _ _ _ | show wpAny _ _ (exec (Stmt.For _ _ _ _ _) _) _ _ _ | show wpAny _ _ (exec (Stmt.Assign _ (Expr.ListComp _ _ _ _) _) _) _ _ _ | show wpAny _ _ (eval (Expr.ListComp _ _ _ _) _) _ _ _ | show wpAny _ _ (call (Value.type "enumerate") _) _ _ _ | show wpAny _ _ (call (Value.type "zip") _) _ _ _ | refine stand_ref (by decide) ?_)); first | ((with_reducible first | (refine execs_one (by assumption) fun _ => ?_) | (refine execs_hid fun _ _ _ => ?_))) | ((with_reducible show wpAny _ _ (call (Value.builtin "len") [Value.ref _]) _ _ _); k_dflt (refine len_at (by k_asm) (by k_mem) (by ktr_units) ?_; k_whole); (try simp only [refs_length])) | ((with_reducible show wpAny _ _ (subscriptTail _ _ (Value.ref _) (Value.int _ _)) _ _ _); (with_unfolding_all refine item_litK (News.isList (by k_asm) (by k_mem)) (by first | decide | omega) (by first | decide | omega) (by assumption) ?_ (by with_unfolding_all rfl); k_whole)) | ((with_reducible show TurnG _ _ _ _ _ _ _ (Flow.ret _) _); dsimp only [TurnG]) | ((with_reducible show wpAny _ _ (getMethod (Value.ref _) (PySem.Str.ofString "append") _) _ _ _); k_dflt (refine listMethod_K (by k_asm) (by first | assumption | exact mem_put_self | exact mem_put (by first | assumption | exact mem_put_self | exact mem_put (by first | assumption | exact mem_put_self | exact mem_put (by assumption) (by ktr_unf)) (by ktr_unf)) (by ktr_unf)) PySem.F.slot_list_append PySem.F.type_list_append ?_)) | walk1  | (dsimp only; walk1) | fail "no step")))
            · (rename (_ != _) = true => ha)
              rw [hyl] at ha
              exact absurd ha (by decide)
            (rename Fr g L1 _ _ => F22); (rename News g L1 _ _ => N22)
            refine ⟨_, _, _, _, (L1 + 1, o5) :: news, rfl, F22, N22, (fun q hq => ?_), (fun q hq => .tail _ (.tail _ (wC q hq))), (fun q hq => ?_), o5, _, d5, rfl, rfl, rfl, rfl, rfl⟩
            · rcases List.mem_cons.mp hq with rfl | hq
              · exact .tail _ (.tail _ c5)
              · exact .tail _ (.tail _ (kC q hq))
            · rcases List.mem_cons.mp hq with rfl | hq
              · exact hnx (L1 + 1, oc) (.head _)
              · exact hnx _ (.tail _ hq)
          · have hmx3 : hasOpen (ixsAt d i) _ = false := hmx1.trans (by simpa using hne)
            refine wpAny_call (has_H ⟨B1, F17, X1, T1, N18, rfl, rfl⟩ (by ktr_room) (by ktr_room) hC' hw hi hmx3 ?_)
            intro h19 tk19 F19 N19
            dsimp only
            (repeat' (first | (k_unfold; (try dsimp only)) | (refine unhide (by assumption) ?_; (try dsimp only)) | ((fail_if_success (with_reducible first | show wpAny _ _ (exec (Stmt.While _ _ _ _) _) _ _ _ | show wpAny _ _ (exec (Stmt.For _ _ _ _ _) _) _ _ _ | show wpAny _ _ (exec (Stmt.Assign _ (Expr.ListComp _ _ _ _) _) _) _ _ _ | show wpAny _ _ (eval (Expr.ListComp _ _ _ _) _) _ _ _ | show wpAny _ _ (call (Value.type "enumerate") _) _ _ _ | show wpAny _ _ (call (Value.type "zip") _) _ _ _ | refine stand_ref (by decide) ?_)); first | ((with_reducible first | (refine execs_one (by assumption) fun _ => ?_) | (refine execs_hid fun _ _ _ => ?_))) | ((with_reducible show wpAny _ _ (call (Value.builtin "len") [Value.ref _]) _ _ _); k_dflt (refine len_at (by k_asm) (by k_mem) (by ktr_units) ?_; k_whole); (try simp only [refs_length])) | ((with_reducible show wpAny _ _ (subscriptTail _ _ (Value.ref _) (Value.int _ _)) _ _ _); (with_unfolding_all refine item_litK (News.isList (by k_asm) (by k_mem)) (by first | decide | omega) (by first | decide | omega) (by assumption) ?_ (by with_unfolding_all rfl); k_whole)) | ((with_reducible show TurnG _ _ _ _ _ _ _ (Flow.ret _) _); dsimp only [TurnG]) | ((with_reducible show wpAny _ _ (getMethod (Value.ref _) (PySem.Str.ofString "append") _) _ _ _); k_dflt (refine listMethod_K (by k_asm) (by first | assumption | exact mem_put_self | exact mem_put (by first | assumption | exact mem_put_self | exact mem_put (by first | assumption | exact mem_put_self | exact mem_put (by assumption) (by ktr_unf)) (by ktr_unf)) (by ktr_unf)) PySem.F.slot_list_append PySem.F.type_list_append ?_)) | walk1  | (dsimp only; walk1) | fail "no step")))
            (rename Fr g L1 _ _ => F20); (rename News g L1 _ _ => N20)
            refine wpAny_call (has_H ⟨B1, F20, X1, T1, N20, rfl, rfl⟩ (by ktr_room) (by ktr_room) hC' hw hi hmx2 ?_)
            intro h21 tk21 F21 N21
            dsimp only
            have hyl : decide ((0 : Int) < (ys.length : Nat)) = false := by rw [hys.length]; simpa using hne
            have hyf : ys.length ≤ 300 := by rw [hys.length]; omega
            (repeat' (first | (k_unfold; (try dsimp only)) | (refine unhide (by assumption) ?_; (try dsimp only)) | ((fail_if_success (with_reducible first | show wpAny _ _ (exec (Stmt.While _ _ _ _) _) _ _ _ | show wpAny _ _ (exec (Stmt.For _ _ _ _ _) _) _ _ _ | show wpAny _ _ (exec (Stmt.Assign _ (Expr.ListComp _ _ _ _) _) _) _ _ _ | show wpAny _ _ (eval (Expr.ListComp _ _ _ _) _) _ _ _ | show wpAny _ _ (call (Value.type "enumerate") _) _ _ _ | show wpAny _ _ (call (Value.type "zip") _) _ _ _ | refine stand_ref (by decide) ?_)); first | ((with_reducible first | (refine execs_one (by assumption) fun _ => ?_) | (refine execs_hid fun _ _ _ => ?_))) | ((with_reducible show wpAny _ _ (call (Value.builtin "len") [Value.ref _]) _ _ _); k_dflt (refine len_at (by k_asm) (by k_mem) (by ktr_units) ?_; k_whole); (try simp only [refs_length])) | ((with_reducible show wpAny _ _ (subscriptTail _ _ (Value.ref _) (Value.int _ _)) _ _ _); (with_unfolding_all refine item_litK (News.isList (by k_asm) (by k_mem)) (by first | decide | omega) (by first | decide | omega) (by assumption) ?_ (by with_unfolding_all rfl); k_whole)) | ((with_reducible show TurnG _ _ _ _ _ _ _ (Flow.ret _) _); dsimp only [TurnG]) | ((with_reducible show wpAny _ _ (getMethod (Value.ref _) (PySem.Str.ofString "append") _) _ _ _); k_dflt (refine listMethod_K (by k_asm) (by first | assumption | exact mem_put_self | exact mem_put (by first | assumption | exact mem_put_self | exact mem_put (by first | assumption | exact mem_put_self | exact mem_put (by assumption) (by ktr_unf)) (by ktr_unf)) (by ktr_unf)) PySem.F.slot_list_append PySem.F.type_list_append ?_)) | walk1  | (dsimp only; walk1) | fail "no step")))
            · (rename (_ != _) = true => ha)
              rw [hyl] at ha
              exact absurd ha (by decide)
            (rename Fr g L1 _ _ => F22); (rename News g L1 _ _ => N22)
            refine ⟨_, _, _, _, (L1 + 1, o5) :: news, rfl, F22, N22, (fun q hq => ?_), (fun q hq => .tail _ (.tail _ (wC q hq))), (fun q hq => ?_), o5, _, d5, rfl, rfl, rfl, rfl, rfl⟩
            · rcases List.mem_cons.mp hq with rfl | hq
              · exact .tail _ (.tail _ c5)
              · exact .tail _ (.tail _ (kC q hq))
            · rcases List.mem_cons.mp hq with rfl | hq
              · exact hnx (L1 + 1, oc) (.head _)
              · exact hnx _ (.tail _ hq)
    · rintro h2 tk2 m₁ nx F2 N2 hR1
      obtain ⟨oc, c, dc, rfl, m1, m2, m3, m4⟩ := hR1
      dsimp only
      (repeat' (first | (k_unfold; (try dsimp only)) | (refine unhide (by assumption) ?_; (try dsimp only)) | ((fail_if_success (with_reducible first | show wpAny _ _ (exec (Stmt.While _ _ _ _) _) _ _ _ | show wpAny _ _ (exec (Stmt.For _ _ _ _ _) _) _ _ _ | show wpAny _ _ (exec (Stmt.Assign _ (Expr.ListComp _ _ _ _) _) _) _ _ _ | show wpAny _ _ (eval (Expr.ListComp _ _ _ _) _) _ _ _ | show wpAny _ _ (call (Value.type "enumerate") _) _ _ _ | show wpAny _ _ (call (Value.type "zip") _) _ _ _ | refine stand_ref (by decide) ?_)); first | ((with_reducible first | (refine execs_one (by assumption) fun _ => ?_) | (refine execs_hid fun _ _ _ => ?_))) | ((with_reducible show wpAny _ _ (call (Value.builtin "len") [Value.ref _]) _ _ _); k_dflt (refine len_at (by k_asm) (by k_mem) (by ktr_units) ?_; k_whole); (try simp only [refs_length])) | ((with_reducible show wpAny _ _ (subscriptTail _ _ (Value.ref _) (Value.int _ _)) _ _ _); (with_unfolding_all refine item_litK (News.isList (by k_asm) (by k_mem)) (by first | decide | omega) (by first | decide | omega) (by assumption) ?_ (by with_unfolding_all rfl); k_whole)) | ((with_reducible show TurnG _ _ _ _ _ _ _ (Flow.ret _) _); dsimp only [TurnG]) | ((with_reducible show wpAny _ _ (getMethod (Value.ref _) (PySem.Str.ofString "append") _) _ _ _); k_dflt (refine listMethod_K (by k_asm) (by first | assumption | exact mem_put_self | exact mem_put (by first | assumption | exact mem_put_self | exact mem_put (by first | assumption | exact mem_put_self | exact mem_put (by assumption) (by ktr_unf)) (by ktr_unf)) (by ktr_unf)) PySem.F.slot_list_append PySem.F.type_list_append ?_)) | walk1  | (dsimp only; walk1) | fail "no step")))
      (rename Fr h₀ _ _ _ => kF); (rename News h₀ _ _ _ => kN)
      exact post _ _ kF fun q hq => kN q (.tail _ hq)
end

end
section
def setCel (d : Dt) (k : Nat) (c : Cell) : Dt := { d with cel := d.cel.set k c }
theorem celAt_set {d : Dt} {k j : Nat} {c : Cell} (hk : k < d.cel.length) : celAt (setCel d k c) j = if j = k then c else celAt d j := by
  unfold celAt setCel
  by_cases e : j = k
  · subst e; simp [List.getD, hk]
  · simp [List.getD, List.getElem?_set, e, Ne.symm e]
theorem ok_setCel {d : Dt} {k : Nat} {c : Cell} : ∀ r, Ok (setCel d k c) r ↔ Ok d r := fun r => by
  cases r <;> simp [Ok, setCel]
theorem H.setCel {news : List (Addr × Obj)} {A : Role → Addr} {d : Dt} (h : H news A d) {k : Nat} (hk : k < d.cel.length) (c : Cell) {t1 t2 : Tok} {v : Value} {n : Nat} (hov : OptVal v c.vl) :
    H (Mine.put (A (.cl k)) (W.listOf [.int c.wh t1, .int c.pl t2, .bool c.op, v].toArray n) news) A (Mine.setCel d k c) := by
  refine h.put (.cl k) _ ok_setCel hk ⟨t1, t2, v, n, ?_, ?_⟩ fun r hr hok o ho => ?_
  · rw [celAt_set hk, if_pos rfl]; exact hov
  · rw [celAt_set hk, if_pos rfl]
  · cases r with
    | cl j =>
      have hj : j ≠ k := fun e => hr (by rw [e])
      obtain ⟨q1, q2, v', m, b1, b2⟩ := ho
      refine ⟨q1, q2, v', m, ?_, ?_⟩
      · rw [celAt_set hk, if_neg hj]; exact b1
      · rw [celAt_set hk, if_neg hj]; exact b2
    | C =>
      obtain ⟨m, b⟩ := ho
      refine ⟨m, ?_⟩
      rw [b]; simp [Mine.setCel]
    | _ => exact ho
def closeCel (d : Dt) (i k : Nat) : Dt := setCel d k ⟨(celAt d k).wh, (celAt d k).pl, false, some ((mstAt d i).getD (celAt d k).pl 0)⟩
def closeCels (d : Dt) (i : Nat) (ks : List Nat) : Dt := ks.foldl (fun d k => closeCel d i k) d
/-- the data when all from a level on are closed -/
def shutAll (d : Dt) (i : Nat) (lv : Int) : Dt := closeCels (shut d i (take0 lv (ixsAt d i))) i ((opnAt d i).take (take0 lv (ixsAt d i)))

theorem closeCels_same {i : Nat} : ∀ (ks : List Nat) (d : Dt), (closeCels d i ks).gst = d.gst ∧ (closeCels d i ks).opn = d.opn ∧ (closeCels d i ks).ups = d.ups ∧ (closeCels d i ks).kn = d.kn ∧ (closeCels d i ks).mst = d.mst ∧ (closeCels d i ks).cel.length = d.cel.length
  | [], d => ⟨rfl, rfl, rfl, rfl, rfl, rfl⟩
  | k :: r, d => by
    obtain ⟨a, b, c, e, f, g⟩ := closeCels_same r (closeCel d i k)
    refine ⟨a, b, c, e, f, g.trans ?_⟩
    simp [closeCel, setCel]
theorem celAt_closeCel {d : Dt} {i k j : Nat} (hk : k < d.cel.length) : celAt (closeCel d i k) j = if j = k then ⟨(celAt d k).wh, (celAt d k).pl, false, some ((mstAt d i).getD (celAt d k).pl 0)⟩ else celAt d j := celAt_set hk
theorem celAt_closeCels {i : Nat} : ∀ (ks : List Nat) (d : Dt) (j : Nat), (∀ k ∈ ks, k < d.cel.length) →
    celAt (closeCels d i ks) j = if j ∈ ks then ⟨(celAt d j).wh, (celAt d j).pl, false, some ((mstAt d i).getD (celAt d j).pl 0)⟩ else celAt d j
  | [], d, j, _ => by simp [closeCels]
  | k :: r, d, j, h => by
    have hk := h k (List.mem_cons_self ..)
    have ih := celAt_closeCels (i := i) r (closeCel d i k) j (fun q hq => by
      have := h q (List.mem_cons_of_mem _ hq)
      simpa [closeCel, setCel] using this)
    have e : closeCels d i (k :: r) = closeCels (closeCel d i k) i r := rfl
    have em : mstAt (closeCel d i k) i = mstAt d i := rfl
    rw [e, ih, em, celAt_closeCel hk]
    by_cases e1 : j = k
    · subst e1
      simp
    · simp [e1]
theorem closeCels_snoc {d : Dt} {i k : Nat} {ks : List Nat} : closeCels d i (ks ++ [k]) = closeCel (closeCels d i ks) i k := by
  unfold closeCels; rw [List.foldl_append]; rfl

theorem take_filter {f : Nat → Int} {lv : Int} : ∀ {l : List Nat}, (l.map f).Pairwise (· > ·) → l.take (take0 lv (l.map f)) = l.filter fun k => decide (lv ≤ f k)
  | [], _ => by simp
  | a :: r, h => by
    obtain ⟨h1, h2⟩ := List.pairwise_cons.mp h
    by_cases hl : lv ≤ f a
    · have e : take0 lv ((a :: r).map f) = take0 lv (r.map f) + 1 := by simp [take0, hl]
      rw [e, List.take_succ_cons, take_filter h2, List.filter_cons, if_pos (by simpa using hl)]
    · have e : take0 lv ((a :: r).map f) = 0 := by simp [take0, hl]
      rw [e, List.take_zero, List.filter_cons, if_neg (by simpa using hl)]
      symm
      rw [List.filter_eq_nil_iff]
      intro b hb
      have := h1 (f b) (List.mem_map_of_mem hb)
      simp only [decide_eq_true_eq]; lia
def dueK (d : Dt) (i lv : Nat) : List Nat := (List.range d.cel.length).filter fun k => (celAt d k).op && ((celAt d k).wh == i && decide (lv ≤ (celAt d k).pl))
theorem due_perm {d : Dt} (hw : Wf d) (hI : Inv d) (i lv : Nat) : (dueK d i lv).Perm ((opnAt d i).take (take0 lv (ixsAt d i))) := by
  have e : (opnAt d i).take (take0 lv (ixsAt d i)) = (opnAt d i).filter fun k => decide ((lv : Int) ≤ (upAt d k).ix) := take_filter (hI.srt i)
  rw [e]
  refine (List.perm_ext_iff_of_nodup (List.nodup_range.sublist List.filter_sublist) ((hw.nd i).sublist List.filter_sublist)).mpr fun k => ?_
  try unfold dueK
  rw [List.mem_filter, List.mem_filter, List.mem_range]
  constructor
  · rintro ⟨hk, hb⟩
    simp only [Bool.and_eq_true, beq_iff_eq, decide_eq_true_eq] at hb
    obtain ⟨h1, h2, h3⟩ := hI.co k hk hb.1
    rw [hb.2.1] at h3
    exact ⟨h3, by rw [h2]; simp; exact hb.2.2⟩
  · rintro ⟨hk, hb⟩
    obtain ⟨h1, h2⟩ := hI.oc i k hk
    have hc : k < d.cel.length := by rw [celLen hw hI]; exact hw.ok i k hk
    obtain ⟨_, h3, _⟩ := hI.co k hc h1
    refine ⟨hc, ?_⟩
    rw [h3] at hb
    simp only [decide_eq_true_eq] at hb
    simp [h1, h2]; lia
theorem due_sorted {d : Dt} (hw : Wf d) (hI : Inv d) (i lv : Nat) {ns : List Int} (hp : ns.Perm ((dueK d i lv).map fun (k : Nat) => (k : Int)))
    (hs : ns.Pairwise fun x y => 0 - ((celAt d x.toNat).pl : Int) ≤ 0 - ((celAt d y.toNat).pl : Int)) : ns = ((opnAt d i).take (take0 lv (ixsAt d i))).map fun (k : Nat) => (k : Int) := by
  have hp2 := hp.trans ((due_perm hw hI i lv).map fun (k : Nat) => (k : Int))
  have hix : ∀ k ∈ opnAt d i, (upAt d k).ix = ((celAt d k).pl : Int) := fun k hk => by
    obtain ⟨h1, h2⟩ := hI.oc i k hk
    exact (hI.co k (by rw [celLen hw hI]; exact hw.ok i k hk) h1).2.1
  have hsr := hI.srt i
  unfold ixsAt at hsr
  rw [List.pairwise_map] at hsr
  have hst : (opnAt d i).Pairwise fun a b => ((celAt d a).pl : Int) > ((celAt d b).pl : Int) := hsr.imp_of_mem fun {a b} ha hb hr => by
    rw [← hix a ha, ← hix b hb]; exact hr
  have hinj : ∀ a ∈ opnAt d i, ∀ b ∈ opnAt d i, (celAt d a).pl = (celAt d b).pl → a = b := fun a ha b hb e => by
    obtain ⟨x, hx⟩ := List.mem_iff_getElem?.mp ha
    obtain ⟨y, hy⟩ := List.mem_iff_getElem?.mp hb
    have hx1 := List.getElem?_eq_some_iff.mp hx
    have hy1 := List.getElem?_eq_some_iff.mp hy
    obtain ⟨hx1, rfl⟩ := hx1
    obtain ⟨hy1, rfl⟩ := hy1
    rcases Nat.lt_trichotomy x y with h | h | h
    · have := List.pairwise_iff_getElem.mp hst x y hx1 hy1 h; lia
    · subst h; rfl
    · have := List.pairwise_iff_getElem.mp hst y x hy1 hx1 h; lia
  refine List.Perm.eq_of_pairwise (le := fun x y => 0 - ((celAt d x.toNat).pl : Int) ≤ 0 - ((celAt d y.toNat).pl : Int)) ?_ hs ?_ hp2
  · intro a b ha hb h1 h2
    have ha' := hp2.mem_iff.mp ha
    obtain ⟨x, hx, rfl⟩ := List.mem_map.mp ha'
    obtain ⟨y, hy, rfl⟩ := List.mem_map.mp hb
    simp only [Int.toNat_natCast] at h1 h2
    have := hinj x (List.mem_of_mem_take hx) y (List.mem_of_mem_take hy) (by lia)
    rw [this]
  · rw [List.pairwise_map]
    refine (hst.sublist (List.take_sublist _ _)).imp fun {a b} h => ?_
    simp only [Int.toNat_natCast]; lia
theorem ok_shutAll {d : Dt} {i : Nat} {lv : Int} : ∀ r, Ok (shutAll d i lv) r ↔ Ok d r := fun r => by
  unfold shutAll
  obtain ⟨e1, e2, e3, e4, e5, e6⟩ := closeCels_same (i := i) ((opnAt d i).take (take0 lv (ixsAt d i))) (shut d i (take0 lv (ixsAt d i)))
  replace e1 : _ = d.gst := e1
  have e3' : (closeCels (shut d i (take0 lv (ixsAt d i))) i ((opnAt d i).take (take0 lv (ixsAt d i)))).ups.length = d.ups.length := by rw [e3]; simp [shut]
  replace e5 : _ = d.mst := e5
  replace e6 : _ = d.cel.length := e6
  cases r <;> simp only [Ok, e1, e3', e5, e6]
theorem gst_shutAll {d : Dt} {i : Nat} {lv : Int} : (shutAll d i lv).gst = d.gst := (closeCels_same _ _).1

end
section
/-- the table of a code's lambdas: the lambda's code stands in it -/
def LamOn (P : Addr) (pos : Pos) (qual : Str) (c' : Addr) (led : List (Addr × Obj)) : Prop :=
  ∃ oc vs t, (P, tabObj #[rawInt pos.line, rawInt pos.col, .ref c']) ∈ led ∧ (c', oc) ∈ led ∧ oc.data = .fields vs ∧ vs[1]? = some (.str qual t)
def LamSt (P : Addr) (pos : Pos) (qual : Str) (led : List (Addr × Obj)) : Prop := (P, tabObj #[]) ∈ led ∨ ∃ c', LamOn P pos qual c' led
theorem LamOn.mono {P : Addr} {pos : Pos} {qual : Str} {c' : Addr} {a b : List (Addr × Obj)} (h : LamOn P pos qual c' a) (k : ∀ p ∈ a, p ∈ b) : LamOn P pos qual c' b :=
  let ⟨oc, vs, t, h1, h2, h3, h4⟩ := h; ⟨oc, vs, t, k _ h1, k _ h2, h3, h4⟩
section
variable {M : Model} {A : Around} {E : Value → Shared → Prop} {s : Shared} {h₀ : Heap} {L a c P : Addr} {m mg mb : Str → Option Value} {cn : Str} {cs : Scope} {ccd : Value} {cl : List (Str × Addr)} {news : List (Addr × Obj)}
  {p : Program} {loose : List Str} {mean : ExcName → Option Value} {name qual : Str} {params : Arguments} {body : PySem.Expr} {scope : Scope} {pos : Pos} {firstLine : Nat} {clos : List (Str × Addr)}
theorem lam_at {Q : Value → Shared → Prop} (F : Fr h₀ L s.heap m) (N : News h₀ L s.heap news) (T : Top p loose mean mg mb h₀) (C : CodeHd h₀ c P) (hcd : ccd = .ref c) (hL : LamSt P pos qual news)
    (hcl : closureFor scope (envX cn cs L a ccd cl) = pure clos)
    (h : ∀ f c' ctv h' tk led, Fr h₀ L h' m → News h₀ L h' led → (∀ q ∈ news, q.1 ≠ P → q ∈ led) → LamOn P pos qual c' led → (f, kla_obj name qual params body scope clos ((mg "__name__").getD .none) c' ctv) ∈ led →
      Q (.ref f) { s with heap := h', toks := tk }) :
    wpAny M A (makeFunction name qual params (.expr body) scope (envX cn cs L a ccd cl) [] [] [] pos firstLine) Q E s := by
  rcases hL with hL | ⟨c', oc, vs, t, h1, h2, h3, h4⟩
  · refine kla_nest F (focus N hL) T C hcd updF_put trivial rfl hcl ?_
    intro f c' oc vs t ctv h' tk F' N' d1 d2 l1 l2
    refine h f c' ctv h' tk _ F' N' (fun q hq hp => .tail _ (.tail _ (mem_put hq hp))) ⟨oc, vs, t, .tail _ (.tail _ ?_), .tail _ (.head _), d1, d2⟩ (.head _)
    have e : (#[] : Array Value) ++ #[rawInt pos.line, rawInt pos.col, Value.ref c'] = #[rawInt pos.line, rawInt pos.col, Value.ref c'] := by simp
    rw [e]
    exact mem_put_self
  · refine kla_hit (c' := c') F N T C hcd h1 (by simp [TriplesOk, rawInt]) (by simp [codeAmong, rawInt]) hcl ?_
    intro f ctv h' tk F' N' l1
    exact h f c' ctv h' tk _ F' N' (fun q hq _ => .tail _ hq) ⟨oc, vs, t, .tail _ h1, .tail _ h2, h3, h4⟩ (.head _)
end
abbrev Lam (news : List (Addr × Obj)) : Prop := LamSt 172 ⟨105, 26, 105, 53⟩ (Str.ofString "_law_closed" ++ Str.ofString ".<locals>." ++ Str.ofString "<lambda>") news
theorem obj_fields {A : Role → Addr} {d : Dt} : ∀ {r : Role} {o : Obj} {vs : Array Value}, objOf A d r o → o.data ≠ .fields vs := by
  intro r o vs h e
  cases r with
  | S => obtain ⟨_, rfl⟩ := h; cases e
  | G => obtain ⟨_, rfl⟩ := h; cases e
  | C => obtain ⟨_, rfl⟩ := h; cases e
  | K => obtain ⟨_, rfl⟩ := h; cases e
  | mir i => obtain ⟨_, _, _, rfl⟩ := h; cases e
  | gi i =>
    have : o = instObj 100 (A (.gd i)) := h
    subst this; cases e
  | gd i => obtain ⟨_, _, _, _, _, rfl⟩ := h; cases e
  | gs i => obtain ⟨_, _, _, rfl⟩ := h; cases e
  | go i => obtain ⟨_, rfl⟩ := h; cases e
  | cl i => obtain ⟨_, _, _, _, _, rfl⟩ := h; cases e
  | ui i =>
    have : o = instObj 81 (A (.ud i)) := h
    subst this; cases e
  | ud i =>
    obtain ⟨_, _, h⟩ := h
    obtain ⟨n, c0, c1, c2, c3, c4, c5, t0, t1, t2, t3, t4, t5, v0, v1, v2, ti, rfl⟩ := h
    cases e
theorem H.fields {news : List (Addr × Obj)} {A : Role → Addr} {d : Dt} {h₀ hp : Heap} {L a : Addr} {o : Obj} {vs : Array Value} (h : H news A d) (N : News h₀ L hp news) (hm : (a, o) ∈ news) (hd : o.data = .fields vs) : ∀ r, Ok d r → a ≠ A r := by
  rintro r hr rfl
  obtain ⟨o', h1, h2⟩ := h.has r hr
  have := one_obj N hm h1
  subst this
  exact obj_fields h2 hd
theorem Lam.kept {news news' : List (Addr × Obj)} {A : Role → Addr} {d : Dt} {h₀ hp : Heap} {L : Addr} (l : Lam news) (h : H news A d) (N : News h₀ L hp news) (k : Kept A d news news') : Lam news' := by
  rcases l with l | ⟨c', oc, vs, t, h1, h2, h3, h4⟩
  · exact .inl (k _ l (h.fields N l rfl))
  · exact .inr ⟨c', oc, vs, t, k _ h1 (h.fields N h1 rfl), k _ h2 (h.fields N h2 h3), h3, h4⟩
theorem Lam.mono {news news' : List (Addr × Obj)} (l : Lam news) (k : ∀ p ∈ news, p ∈ news') : Lam news' := by
  rcases l with l | ⟨c', l⟩
  · exact .inl (k _ l)
  · exact .inr ⟨c', l.mono k⟩
theorem H.ne172 {news : List (Addr × Obj)} {A : Role → Addr} {d : Dt} {h₀ hp : Heap} {L : Addr} (h : H news A d) (N : News h₀ L hp news) (l : Lam news) : ∀ r, Ok d r → A r ≠ 172 := fun r hr => by
  rcases l with l | ⟨c', oc, vs, t, h1, h2, h3, h4⟩
  · exact (h.fields N l rfl r hr).symm
  · exact (h.fields N h1 rfl r hr).symm
def Kept2 (A : Role → Addr) (d : Dt) (news news' : List (Addr × Obj)) : Prop := ∀ p ∈ news, (∀ r, Ok d r → p.1 ≠ A r) → p.1 ≠ 172 → p ∈ news'
theorem Lam.ne {news : List (Addr × Obj)} {h₀ hp : Heap} {L a : Addr} {o : Obj} (l : Lam news) (N : News h₀ L hp news) (hm : (a, o) ∈ news) (hd : ∀ ps, o.data ≠ .fields ps) : a ≠ 172 := by
  rcases l with l | ⟨c', oc, vs, t, h1, h2, h3, h4⟩
  · exact ne_of_obj N hm l fun e => hd _ (by rw [e])
  · exact ne_of_obj N hm h1 fun e => hd _ (by rw [e])
theorem dueK_len {d : Dt} {i lv : Nat} : ((List.range d.cel.length).filter fun k => (celAt d k).op && ((celAt d k).wh == i && decide (lv ≤ (celAt d k).pl))).length ≤ d.cel.length := by
  refine Nat.le_trans (List.length_filter_le _ _) ?_
  rw [List.length_range]; exact Nat.le_refl _

end
section
theorem and4_1 {o : Bool} {a b i p : Nat} (h1 : o = true) (h2 : (a : Int) = i) (h3 : (p : Int) ≤ b) : true = (o && (a == i && decide (p ≤ b))) := by
  have e2 : a = i := by lia
  have e3 : p ≤ b := by lia
  simp [h1, e2, e3]
theorem and4_2 {o : Bool} {a b i p : Nat} (h3 : ¬ (p : Int) ≤ b) : false = (o && (a == i && decide (p ≤ b))) := by
  have e3 : ¬ p ≤ b := by lia
  simp [e3]
theorem and4_3 {o : Bool} {a b i p : Nat} (h2 : (a : Int) ≠ i) : false = (o && (a == i && decide (p ≤ b))) := by
  have e2 : ¬ a = i := by lia
  simp [e2]
theorem and4_4 {o : Bool} {a b i p : Nat} (h1 : o = false) : false = (o && (a == i && decide (p ≤ b))) := by simp [h1]
local macro_rules | `(tactic| walk_at "compareOp NotEq ref ref") => `(tactic| (k_here; (with_reducible show wpAny _ _ (compareOp CmpOp.NotEq (Value.ref _) (Value.ref _)) _ _ _); (with_unfolding_all refine' ne_ints_same ?k1 ?k2 ?k3 ?k4 ?k5 ?_; (case k1 => exact News.isList (by k_asm) (by first | k_mem | exact List.Mem.head _ | exact List.Mem.tail _ (by k_mem))); (case k2 => assumption); (case k3 => exact News.isList (by k_asm) (by first | k_mem | exact List.Mem.head _ | exact List.Mem.tail _ (by k_mem))); (case k4 => assumption); (case k5 => (show _ < (9900 : Nat)); ktr_room); k_whole)))
section
variable {w : World} {base h₀ : Heap} {outer : List Env} {A₀ : Around} {dp u : Nat} {env : Env} {L : Addr} {m mg mb : Str → Option Value}
    {loose : List Str} {mean : ExcName → Option Value} {p : Program} {s : Shared} {news : List (Addr × Obj)} {R : Result → Shared → Prop}
set_option maxHeartbeats 4000000 in
theorem closed_H (C : Cx w A₀ base h₀ outer L s m mg mb loose mean p news env) (hd : dp ≤ 400) (hu : u ≤ 4000) {A : Role → Addr} {d : Dt} (h : H news A d) (hw : Wf d) (hI : Inv d) (hsm : d.ups.length < 60) {i : Nat} (hi : i < d.gst.length) {lv : Nat} {t1 t2 : Tok} (hlam : Lam news)
    (post : ∀ h' tk news', Fr h₀ L h' m → News h₀ L h' news' → H news' A (shutAll d i lv) → Kept2 A d news news' → Lam news' → R (.ok (.ret (.bool true))) { s with heap := h', toks := tk }) :
    codeAny (model Challenge.rw_nt0630_01.row.prog w) ⟨none, dp, some (env :: outer), some [], u⟩ (.call (.ref 175) ⟨[.ref (A .G), .ref (A .S), .ref (A .C), .ref (A .K), .int (i : Nat) t1, .int (lv : Nat) t2], []⟩) R s := by
  obtain ⟨B, F, X, T, N, hf, hke⟩ := C
  obtain ⟨nG, hG⟩ := h.lG
  have hit : (refs (row (fun i => A (.gi i)) d.gst.length))[((i : Nat) : Int).toNat]? = some (.ref (A (.gi i))) := refs_get (row_get hi)
  have hil : ((i : Nat) : Int) < 2 ^ 63 := by have := hw.gfew; lia
  tb_start
  rename_i g L1 h1 tk1 FG F1 B1 X1 T1 l1 oc1 oc2 oc3 oc4 dc1 dc2 dc3 dc4 N1 Q0 hQ0
  (repeat' (first | (k_unfold; (try dsimp only)) | (refine unhide (by assumption) ?_; (try dsimp only)) | ((fail_if_success (with_reducible first | show wpAny _ _ (exec (Stmt.While _ _ _ _) _) _ _ _ | show wpAny _ _ (exec (Stmt.For _ _ _ _ _) _) _ _ _ | show wpAny _ _ (exec (Stmt.Assign _ (Expr.ListComp _ _ _ _) _) _) _ _ _ | show wpAny _ _ (eval (Expr.ListComp _ _ _ _) _) _ _ _ | show wpAny _ _ (call (Value.type "enumerate") _) _ _ _ | show wpAny _ _ (call (Value.type "zip") _) _ _ _ | refine stand_ref (by decide) ?_)); first | ((with_reducible first | (refine execs_one (by assumption) fun _ => ?_) | (refine execs_hid fun _ _ _ => ?_))) | ((with_reducible show wpAny _ _ (setItem (Value.ref _) (Value.int _ _) _) _ _ _); k_dflt (refine setI_at (by k_asm) (by k_asm) mem_put_self (by omega) (by simp only [List.length_set, List.length_cons, List.length_nil]; omega) (by simp only [List.length_set, List.length_cons, List.length_nil]; omega) ?_; k_whole); intro _ _ _; (try k_sweep)) | ((with_reducible show wpAny _ _ (call (Value.builtin "len") [Value.ref _]) _ _ _); k_dflt (refine len_at (by k_asm) (by k_mem) (by ktr_units) ?_; k_whole); (try simp only [refs_length])) | ((with_reducible show wpAny _ _ (subscriptTail _ _ (Value.ref _) (Value.int _ _)) _ _ _); (with_unfolding_all refine item_litK (News.isList (by k_asm) (by k_mem)) (by first | decide | omega) (by first | decide | omega) (by assumption) ?_ (by with_unfolding_all rfl); k_whole)) | ((with_reducible show wpAny _ _ (setItem (Value.ref _) (Value.int _ _) _) _ _ _); k_dflt (refine setI_at (by k_asm) (by k_asm) (by first | assumption | exact mem_put_self | exact mem_put (by first | assumption | exact mem_put_self | exact mem_put (by first | assumption | exact mem_put_self | exact mem_put (by assumption) (by ktr_unf)) (by ktr_unf)) (by ktr_unf)) (by first | decide | omega) (by ktr_units) (by ktr_units) ?_; k_whole); intro _ _ _; (try k_sweep)) | ((with_reducible show TurnEnd _ _ _ _ _ _ _ _ (Flow.ret _) _); dsimp only [TurnEnd]) | ((with_reducible show wpAny _ _ (call (Value.builtin "list.append") [Value.ref _, _]) _ _ _); k_dflt (refine app_at (by k_asm) (by k_asm) (by first | assumption | exact mem_put_self | exact mem_put (by first | assumption | exact mem_put_self | exact mem_put (by first | assumption | exact mem_put_self | exact mem_put (by assumption) (by ktr_unf)) (by ktr_unf)) (by ktr_unf)) (by ktr_units) ?_; k_whole); intro _ _ _; (try k_sweep)) | ((with_reducible show wpAny _ _ (getMethod (Value.ref _) (PySem.Str.ofString "append") _) _ _ _); k_dflt (refine listMethod_K (by k_asm) (by first | assumption | exact mem_put_self | exact mem_put (by first | assumption | exact mem_put_self | exact mem_put (by first | assumption | exact mem_put_self | exact mem_put (by assumption) (by ktr_unf)) (by ktr_unf)) (by ktr_unf)) PySem.F.slot_list_append PySem.F.type_list_append ?_)) | walk1 | ((with_reducible show wpAny _ _ (call (Value.builtin "list.append") [Value.ref _, _]) _ _ _); k_dflt (refine app_at (by k_asm) (by k_asm) (by k_mem) (by ktr_units) ?_; k_whole); intro _ _ _; (try k_sweep)) | (dsimp only; walk1) | fail "no step")))
  replace dc1 : oc1.data = .cell (some (.int (lv : Nat) t2)) := dc1
  replace dc2 : oc2.data = .cell (some (.int (i : Nat) t1)) := dc2
  replace dc3 : oc3.data = .cell (some (.ref (A .K))) := dc3
  replace dc4 : oc4.data = .cell (some (.ref (A .C))) := dc4
  have hlt := h.lt l1
  refine wpAny_call (take_H (news := (L1 + 1 + 1 + 1 + 1, oc1) :: (L1 + 1 + 1 + 1, oc2) :: (L1 + 1 + 1, oc3) :: (L1 + 1, oc4) :: news) ⟨B1, F1, X1, T1, N1, rfl, rfl⟩ (by ktr_room) (by ktr_room) (h.mono fun q hq => .tail _ (.tail _ (.tail _ (.tail _ hq)))) hw hi rfl ?_)
  intro fl nf h2 tk2 news1 F2 N2 h3 kept lfl hfl
  have cne : ∀ r, Ok d r → ∀ c : Nat, 0 < c → @Ne Nat (L1 + c) (A r) := fun r hr c hc e => by have q : @LT.lt Nat _ (A r) L1 := hlt r hr; lia
  have c1 : (L1 + 1 + 1 + 1 + 1, oc1) ∈ news1 := kept _ (.head _) fun r hr => cne r hr 4 (by decide)
  have c2 : (L1 + 1 + 1 + 1, oc2) ∈ news1 := kept _ (.tail _ (.head _)) fun r hr => cne r hr 3 (by decide)
  have c3 : (L1 + 1 + 1, oc3) ∈ news1 := kept _ (.tail _ (.tail _ (.head _))) fun r hr => cne r hr 2 (by decide)
  have c4 : (L1 + 1, oc4) ∈ news1 := kept _ (.tail _ (.tail _ (.tail _ (.head _)))) fun r hr => cne r hr 1 (by decide)
  have k1 : Kept A d news news1 := fun q hq hr => kept q (.tail _ (.tail _ (.tail _ (.tail _ hq)))) hr
  have lam1 : Lam news1 := (hlam.mono fun q hq => .tail _ (.tail _ (.tail _ (.tail _ hq)))).kept (h.mono fun q hq => .tail _ (.tail _ (.tail _ (.tail _ hq)))) N1 kept
  clear kept
  dsimp only
  (repeat' (first | (k_unfold; (try dsimp only)) | (refine unhide (by assumption) ?_; (try dsimp only)) | ((fail_if_success (with_reducible first | show wpAny _ _ (exec (Stmt.While _ _ _ _) _) _ _ _ | show wpAny _ _ (exec (Stmt.For _ _ _ _ _) _) _ _ _ | show wpAny _ _ (exec (Stmt.Assign _ (Expr.ListComp _ _ _ _) _) _) _ _ _ | show wpAny _ _ (eval (Expr.ListComp _ _ _ _) _) _ _ _ | show wpAny _ _ (call (Value.type "enumerate") _) _ _ _ | show wpAny _ _ (call (Value.type "zip") _) _ _ _ | refine stand_ref (by decide) ?_)); first | ((with_reducible first | (refine execs_one (by assumption) fun _ => ?_) | (refine execs_hid fun _ _ _ => ?_))) | ((with_reducible show wpAny _ _ (setItem (Value.ref _) (Value.int _ _) _) _ _ _); k_dflt (refine setI_at (by k_asm) (by k_asm) mem_put_self (by omega) (by simp only [List.length_set, List.length_cons, List.length_nil]; omega) (by simp only [List.length_set, List.length_cons, List.length_nil]; omega) ?_; k_whole); intro _ _ _; (try k_sweep)) | ((with_reducible show wpAny _ _ (call (Value.builtin "len") [Value.ref _]) _ _ _); k_dflt (refine len_at (by k_asm) (by k_mem) (by ktr_units) ?_; k_whole); (try simp only [refs_length])) | ((with_reducible show wpAny _ _ (subscriptTail _ _ (Value.ref _) (Value.int _ _)) _ _ _); (with_unfolding_all refine item_litK (News.isList (by k_asm) (by k_mem)) (by first | decide | omega) (by first | decide | omega) (by assumption) ?_ (by with_unfolding_all rfl); k_whole)) | ((with_reducible show wpAny _ _ (setItem (Value.ref _) (Value.int _ _) _) _ _ _); k_dflt (refine setI_at (by k_asm) (by k_asm) (by first | assumption | exact mem_put_self | exact mem_put (by first | assumption | exact mem_put_self | exact mem_put (by first | assumption | exact mem_put_self | exact mem_put (by assumption) (by ktr_unf)) (by ktr_unf)) (by ktr_unf)) (by first | decide | omega) (by ktr_units) (by ktr_units) ?_; k_whole); intro _ _ _; (try k_sweep)) | ((with_reducible show TurnEnd _ _ _ _ _ _ _ _ (Flow.ret _) _); dsimp only [TurnEnd]) | ((with_reducible show wpAny _ _ (call (Value.builtin "list.append") [Value.ref _, _]) _ _ _); k_dflt (refine app_at (by k_asm) (by k_asm) (by first | assumption | exact mem_put_self | exact mem_put (by first | assumption | exact mem_put_self | exact mem_put (by first | assumption | exact mem_put_self | exact mem_put (by assumption) (by ktr_unf)) (by ktr_unf)) (by ktr_unf)) (by ktr_units) ?_; k_whole); intro _ _ _; (try k_sweep)) | ((with_reducible show wpAny _ _ (getMethod (Value.ref _) (PySem.Str.ofString "append") _) _ _ _); k_dflt (refine listMethod_K (by k_asm) (by first | assumption | exact mem_put_self | exact mem_put (by first | assumption | exact mem_put_self | exact mem_put (by first | assumption | exact mem_put_self | exact mem_put (by assumption) (by ktr_unf)) (by ktr_unf)) (by ktr_unf)) PySem.F.slot_list_append PySem.F.type_list_append ?_)) | walk1 | ((with_reducible show wpAny _ _ (call (Value.builtin "list.append") [Value.ref _, _]) _ _ _); k_dflt (refine app_at (by k_asm) (by k_asm) (by k_mem) (by ktr_units) ?_; k_whole); intro _ _ _; (try k_sweep)) | (dsimp only; walk1) | fail "no step")))
  (rename Fr g L1 _ _ => F5); (rename News g L1 _ _ => N5)
  generalize hn : take0 (lv : Int) (ixsAt d i) = n at h3 hfl
  obtain ⟨nC, hC⟩ := h3.lC
  have hcl300 : d.cel.length < 60 := by rw [celLen hw hI]; exact hsm
  (with_unfolding_all refine' Assign_ListComp_at [Str.ofString "at", Str.ofString "cell"] F5 ?qe ?qs ?qc ?qd ?qk ?qn ?qx ?qy ?qp ?_ ?qf)
  (case qe => exact rfl)
  (case qs => exact rfl)
  (case qc => exact rfl)
  (case qd => decide)
  (case qk => exact rfl)
  (case qn => decide)
  (case qx => decide)
  (case qy => exact rfl)
  (case qp => exact rfl)
  (case qf => (intro _; exact rfl))
  (repeat' (first | (k_unfold; (try dsimp only)) | (refine unhide (by assumption) ?_; (try dsimp only)) | ((fail_if_success (with_reducible first | show wpAny _ _ (exec (Stmt.While _ _ _ _) _) _ _ _ | show wpAny _ _ (exec (Stmt.For _ _ _ _ _) _) _ _ _ | show wpAny _ _ (exec (Stmt.Assign _ (Expr.ListComp _ _ _ _) _) _) _ _ _ | show wpAny _ _ (eval (Expr.ListComp _ _ _ _) _) _ _ _ | show wpAny _ _ (call (Value.type "enumerate") _) _ _ _ | show wpAny _ _ (call (Value.type "zip") _) _ _ _ | refine stand_ref (by decide) ?_)); first | ((with_reducible first | (refine execs_one (by assumption) fun _ => ?_) | (refine execs_hid fun _ _ _ => ?_))) | ((with_reducible show wpAny _ _ (setItem (Value.ref _) (Value.int _ _) _) _ _ _); k_dflt (refine setI_at (by k_asm) (by k_asm) mem_put_self (by omega) (by simp only [List.length_set, List.length_cons, List.length_nil]; omega) (by simp only [List.length_set, List.length_cons, List.length_nil]; omega) ?_; k_whole); intro _ _ _; (try k_sweep)) | ((with_reducible show wpAny _ _ (call (Value.builtin "len") [Value.ref _]) _ _ _); k_dflt (refine len_at (by k_asm) (by k_mem) (by ktr_units) ?_; k_whole); (try simp only [refs_length])) | ((with_reducible show wpAny _ _ (subscriptTail _ _ (Value.ref _) (Value.int _ _)) _ _ _); (with_unfolding_all refine item_litK (News.isList (by k_asm) (by k_mem)) (by first | decide | omega) (by first | decide | omega) (by assumption) ?_ (by with_unfolding_all rfl); k_whole)) | ((with_reducible show wpAny _ _ (setItem (Value.ref _) (Value.int _ _) _) _ _ _); k_dflt (refine setI_at (by k_asm) (by k_asm) (by first | assumption | exact mem_put_self | exact mem_put (by first | assumption | exact mem_put_self | exact mem_put (by first | assumption | exact mem_put_self | exact mem_put (by assumption) (by ktr_unf)) (by ktr_unf)) (by ktr_unf)) (by first | decide | omega) (by ktr_units) (by ktr_units) ?_; k_whole); intro _ _ _; (try k_sweep)) | ((with_reducible show TurnEnd _ _ _ _ _ _ _ _ (Flow.ret _) _); dsimp only [TurnEnd]) | ((with_reducible show wpAny _ _ (call (Value.builtin "list.append") [Value.ref _, _]) _ _ _); k_dflt (refine app_at (by k_asm) (by k_asm) (by first | assumption | exact mem_put_self | exact mem_put (by first | assumption | exact mem_put_self | exact mem_put (by first | assumption | exact mem_put_self | exact mem_put (by assumption) (by ktr_unf)) (by ktr_unf)) (by ktr_unf)) (by ktr_units) ?_; k_whole); intro _ _ _; (try k_sweep)) | ((with_reducible show wpAny _ _ (getMethod (Value.ref _) (PySem.Str.ofString "append") _) _ _ _); k_dflt (refine listMethod_K (by k_asm) (by first | assumption | exact mem_put_self | exact mem_put (by first | assumption | exact mem_put_self | exact mem_put (by first | assumption | exact mem_put_self | exact mem_put (by assumption) (by ktr_unf)) (by ktr_unf)) (by ktr_unf)) PySem.F.slot_list_append PySem.F.type_list_append ?_)) | walk1 | ((with_reducible show wpAny _ _ (call (Value.builtin "list.append") [Value.ref _, _]) _ _ _); k_dflt (refine app_at (by k_asm) (by k_asm) (by k_mem) (by ktr_units) ?_; k_whole); intro _ _ _; (try k_sweep)) | (dsimp only; walk1) | fail "no step")))
  have hC' : (A .C, W.listOf (refs (row (fun k => A (.cl k)) d.cel.length)).toArray nC) ∈ news1 := hC
  refine src_enum (l := A .C) (vs := refs (row (fun k => A (.cl k)) d.cel.length)) (k := nC) (fun k => (celAt d k).op && ((celAt d k).wh == i && decide (lv ≤ (celAt d k).pl))) (fun k v => ∃ t, v = .int (k : Nat) t) rfl (by decide) F5 N5 hC' (by rw [refs_length, row_length]; lia) ?_ ?_
  · rintro s₂ ⟨hh, rfl⟩
    constructor
    · intro k C oC m₂ hk tk E' hkl hB hNs F9 N9
      obtain ⟨v, tt, hv, hb1, hb2⟩ := hB
      have hkl' : k < d.cel.length := by simpa [refs, row] using hkl
      have hv' : v = .ref (A (.cl k)) := by
        have := refs_get (row_get (f := fun k => A (.cl k)) hkl')
        rw [this] at hv; exact (Option.some.inj hv).symm
      subst hv'
      obtain ⟨ta, tb, vv, nn, hov, hcl⟩ := h3.cell (k := k) hkl'
      have i0 : [Value.int (celAt d k).wh ta, .int (celAt d k).pl tb, .bool (celAt d k).op, vv][(0 : Int).toNat]? = some (.int (celAt d k).wh ta) := rfl
      have i1 : [Value.int (celAt d k).wh ta, .int (celAt d k).pl tb, .bool (celAt d k).op, vv][(1 : Int).toNat]? = some (.int (celAt d k).pl tb) := rfl
      have i2 : [Value.int (celAt d k).wh ta, .int (celAt d k).pl tb, .bool (celAt d k).op, vv][(2 : Int).toNat]? = some (.bool (celAt d k).op) := rfl
      replace hcl : (A (.cl k), W.listOf [Value.int (celAt d k).wh ta, .int (celAt d k).pl tb, .bool (celAt d k).op, vv].toArray nn) ∈ news1 := hcl
      refine wpAny_tests_one ?_
      (repeat' (first | (k_unfold; (try dsimp only)) | (refine unhide (by assumption) ?_; (try dsimp only)) | ((fail_if_success (with_reducible first | show wpAny _ _ (exec (Stmt.While _ _ _ _) _) _ _ _ | show wpAny _ _ (exec (Stmt.For _ _ _ _ _) _) _ _ _ | show wpAny _ _ (exec (Stmt.Assign _ (Expr.ListComp _ _ _ _) _) _) _ _ _ | show wpAny _ _ (eval (Expr.ListComp _ _ _ _) _) _ _ _ | show wpAny _ _ (call (Value.type "enumerate") _) _ _ _ | show wpAny _ _ (call (Value.type "zip") _) _ _ _ | refine stand_ref (by decide) ?_)); first | ((with_reducible first | (refine execs_one (by assumption) fun _ => ?_) | (refine execs_hid fun _ _ _ => ?_))) | ((with_reducible show wpAny _ _ (setItem (Value.ref _) (Value.int _ _) _) _ _ _); k_dflt (refine setI_at (by k_asm) (by k_asm) mem_put_self (by omega) (by simp only [List.length_set, List.length_cons, List.length_nil]; omega) (by simp only [List.length_set, List.length_cons, List.length_nil]; omega) ?_; k_whole); intro _ _ _; (try k_sweep)) | ((with_reducible show wpAny _ _ (call (Value.builtin "len") [Value.ref _]) _ _ _); k_dflt (refine len_at (by k_asm) (by k_mem) (by ktr_units) ?_; k_whole); (try simp only [refs_length])) | ((with_reducible show wpAny _ _ (subscriptTail _ _ (Value.ref _) (Value.int _ _)) _ _ _); (with_unfolding_all refine item_litK (News.isList (by k_asm) (by k_mem)) (by first | decide | omega) (by first | decide | omega) (by assumption) ?_ (by with_unfolding_all rfl); k_whole)) | ((with_reducible show wpAny _ _ (setItem (Value.ref _) (Value.int _ _) _) _ _ _); k_dflt (refine setI_at (by k_asm) (by k_asm) (by first | assumption | exact mem_put_self | exact mem_put (by first | assumption | exact mem_put_self | exact mem_put (by first | assumption | exact mem_put_self | exact mem_put (by assumption) (by ktr_unf)) (by ktr_unf)) (by ktr_unf)) (by first | decide | omega) (by ktr_units) (by ktr_units) ?_; k_whole); intro _ _ _; (try k_sweep)) | ((with_reducible show TurnEnd _ _ _ _ _ _ _ _ (Flow.ret _) _); dsimp only [TurnEnd]) | ((with_reducible show wpAny _ _ (call (Value.builtin "list.append") [Value.ref _, _]) _ _ _); k_dflt (refine app_at (by k_asm) (by k_asm) (by first | assumption | exact mem_put_self | exact mem_put (by first | assumption | exact mem_put_self | exact mem_put (by first | assumption | exact mem_put_self | exact mem_put (by assumption) (by ktr_unf)) (by ktr_unf)) (by ktr_unf)) (by ktr_units) ?_; k_whole); intro _ _ _; (try k_sweep)) | ((with_reducible show wpAny _ _ (getMethod (Value.ref _) (PySem.Str.ofString "append") _) _ _ _); k_dflt (refine listMethod_K (by k_asm) (by first | assumption | exact mem_put_self | exact mem_put (by first | assumption | exact mem_put_self | exact mem_put (by first | assumption | exact mem_put_self | exact mem_put (by assumption) (by ktr_unf)) (by ktr_unf)) (by ktr_unf)) PySem.F.slot_list_append PySem.F.type_list_append ?_)) | walk1 | ((with_reducible show wpAny _ _ (call (Value.builtin "list.append") [Value.ref _, _]) _ _ _); k_dflt (refine app_at (by k_asm) (by k_asm) (by k_mem) (by ktr_units) ?_; k_whole); intro _ _ _; (try k_sweep)) | (dsimp only; walk1) | fail "no step")))
      all_goals first | exact and4_1 (by assumption) (by assumption) (by assumption) | exact and4_2 (by assumption) | exact and4_3 (by assumption) | exact and4_4 (by assumption)
    · intro k C oC m₂ hk tk E' hkl hp hB hNs F9 N9
      obtain ⟨v, tt, hv, hb1, hb2⟩ := hB
      (repeat' (first | (k_unfold; (try dsimp only)) | (refine unhide (by assumption) ?_; (try dsimp only)) | ((fail_if_success (with_reducible first | show wpAny _ _ (exec (Stmt.While _ _ _ _) _) _ _ _ | show wpAny _ _ (exec (Stmt.For _ _ _ _ _) _) _ _ _ | show wpAny _ _ (exec (Stmt.Assign _ (Expr.ListComp _ _ _ _) _) _) _ _ _ | show wpAny _ _ (eval (Expr.ListComp _ _ _ _) _) _ _ _ | show wpAny _ _ (call (Value.type "enumerate") _) _ _ _ | show wpAny _ _ (call (Value.type "zip") _) _ _ _ | refine stand_ref (by decide) ?_)); first | ((with_reducible first | (refine execs_one (by assumption) fun _ => ?_) | (refine execs_hid fun _ _ _ => ?_))) | ((with_reducible show wpAny _ _ (setItem (Value.ref _) (Value.int _ _) _) _ _ _); k_dflt (refine setI_at (by k_asm) (by k_asm) mem_put_self (by omega) (by simp only [List.length_set, List.length_cons, List.length_nil]; omega) (by simp only [List.length_set, List.length_cons, List.length_nil]; omega) ?_; k_whole); intro _ _ _; (try k_sweep)) | ((with_reducible show wpAny _ _ (call (Value.builtin "len") [Value.ref _]) _ _ _); k_dflt (refine len_at (by k_asm) (by k_mem) (by ktr_units) ?_; k_whole); (try simp only [refs_length])) | ((with_reducible show wpAny _ _ (subscriptTail _ _ (Value.ref _) (Value.int _ _)) _ _ _); (with_unfolding_all refine item_litK (News.isList (by k_asm) (by k_mem)) (by first | decide | omega) (by first | decide | omega) (by assumption) ?_ (by with_unfolding_all rfl); k_whole)) | ((with_reducible show wpAny _ _ (setItem (Value.ref _) (Value.int _ _) _) _ _ _); k_dflt (refine setI_at (by k_asm) (by k_asm) (by first | assumption | exact mem_put_self | exact mem_put (by first | assumption | exact mem_put_self | exact mem_put (by first | assumption | exact mem_put_self | exact mem_put (by assumption) (by ktr_unf)) (by ktr_unf)) (by ktr_unf)) (by first | decide | omega) (by ktr_units) (by ktr_units) ?_; k_whole); intro _ _ _; (try k_sweep)) | ((with_reducible show TurnEnd _ _ _ _ _ _ _ _ (Flow.ret _) _); dsimp only [TurnEnd]) | ((with_reducible show wpAny _ _ (call (Value.builtin "list.append") [Value.ref _, _]) _ _ _); k_dflt (refine app_at (by k_asm) (by k_asm) (by first | assumption | exact mem_put_self | exact mem_put (by first | assumption | exact mem_put_self | exact mem_put (by first | assumption | exact mem_put_self | exact mem_put (by assumption) (by ktr_unf)) (by ktr_unf)) (by ktr_unf)) (by ktr_units) ?_; k_whole); intro _ _ _; (try k_sweep)) | ((with_reducible show wpAny _ _ (getMethod (Value.ref _) (PySem.Str.ofString "append") _) _ _ _); k_dflt (refine listMethod_K (by k_asm) (by first | assumption | exact mem_put_self | exact mem_put (by first | assumption | exact mem_put_self | exact mem_put (by first | assumption | exact mem_put_self | exact mem_put (by assumption) (by ktr_unf)) (by ktr_unf)) (by ktr_unf)) PySem.F.slot_list_append PySem.F.type_list_append ?_)) | walk1 | ((with_reducible show wpAny _ _ (call (Value.builtin "list.append") [Value.ref _, _]) _ _ _); k_dflt (refine app_at (by k_asm) (by k_asm) (by k_mem) (by ktr_units) ?_; k_whole); intro _ _ _; (try k_sweep)) | (dsimp only; walk1) | fail "no step")))
  · rintro s₂ ⟨hh, rfl⟩ D h9 tk9 ys ep F9 N9 hD hP
    rw [refs_length, row_length] at hP
    have hys : IntsAre ys ((dueK d i lv).map fun k => ((k : Nat) : Int)) := paired_ints (f := fun k => ((k : Nat) : Int)) hP
    dsimp only
    (repeat' (first | (k_unfold; (try dsimp only)) | (refine unhide (by assumption) ?_; (try dsimp only)) | ((fail_if_success (with_reducible first | show wpAny _ _ (exec (Stmt.While _ _ _ _) _) _ _ _ | show wpAny _ _ (exec (Stmt.For _ _ _ _ _) _) _ _ _ | show wpAny _ _ (exec (Stmt.Assign _ (Expr.ListComp _ _ _ _) _) _) _ _ _ | show wpAny _ _ (eval (Expr.ListComp _ _ _ _) _) _ _ _ | show wpAny _ _ (call (Value.type "enumerate") _) _ _ _ | show wpAny _ _ (call (Value.type "zip") _) _ _ _ | refine stand_ref (by decide) ?_)); first | ((with_reducible first | (refine execs_one (by assumption) fun _ => ?_) | (refine execs_hid fun _ _ _ => ?_))) | ((with_reducible show wpAny _ _ (setItem (Value.ref _) (Value.int _ _) _) _ _ _); k_dflt (refine setI_at (by k_asm) (by k_asm) mem_put_self (by omega) (by simp only [List.length_set, List.length_cons, List.length_nil]; omega) (by simp only [List.length_set, List.length_cons, List.length_nil]; omega) ?_; k_whole); intro _ _ _; (try k_sweep)) | ((with_reducible show wpAny _ _ (call (Value.builtin "len") [Value.ref _]) _ _ _); k_dflt (refine len_at (by k_asm) (by k_mem) (by ktr_units) ?_; k_whole); (try simp only [refs_length])) | ((with_reducible show wpAny _ _ (subscriptTail _ _ (Value.ref _) (Value.int _ _)) _ _ _); (with_unfolding_all refine item_litK (News.isList (by k_asm) (by k_mem)) (by first | decide | omega) (by first | decide | omega) (by assumption) ?_ (by with_unfolding_all rfl); k_whole)) | ((with_reducible show wpAny _ _ (setItem (Value.ref _) (Value.int _ _) _) _ _ _); k_dflt (refine setI_at (by k_asm) (by k_asm) (by first | assumption | exact mem_put_self | exact mem_put (by first | assumption | exact mem_put_self | exact mem_put (by first | assumption | exact mem_put_self | exact mem_put (by assumption) (by ktr_unf)) (by ktr_unf)) (by ktr_unf)) (by first | decide | omega) (by ktr_units) (by ktr_units) ?_; k_whole); intro _ _ _; (try k_sweep)) | ((with_reducible show TurnEnd _ _ _ _ _ _ _ _ (Flow.ret _) _); dsimp only [TurnEnd]) | ((with_reducible show wpAny _ _ (call (Value.builtin "list.append") [Value.ref _, _]) _ _ _); k_dflt (refine app_at (by k_asm) (by k_asm) (by first | assumption | exact mem_put_self | exact mem_put (by first | assumption | exact mem_put_self | exact mem_put (by first | assumption | exact mem_put_self | exact mem_put (by assumption) (by ktr_unf)) (by ktr_unf)) (by ktr_unf)) (by ktr_units) ?_; k_whole); intro _ _ _; (try k_sweep)) | ((with_reducible show wpAny _ _ (getMethod (Value.ref _) (PySem.Str.ofString "append") _) _ _ _); k_dflt (refine listMethod_K (by k_asm) (by first | assumption | exact mem_put_self | exact mem_put (by first | assumption | exact mem_put_self | exact mem_put (by first | assumption | exact mem_put_self | exact mem_put (by assumption) (by ktr_unf)) (by ktr_unf)) (by ktr_unf)) PySem.F.slot_list_append PySem.F.type_list_append ?_)) | walk1 | ((with_reducible show wpAny _ _ (call (Value.builtin "list.append") [Value.ref _, _]) _ _ _); k_dflt (refine app_at (by k_asm) (by k_asm) (by k_mem) (by ktr_units) ?_; k_whole); intro _ _ _; (try k_sweep)) | (dsimp only; walk1) | fail "no step")))
    have CH : CodeHd g 174 172 := codeHd_of_K X1 (by kernel_rfl)
    have hlamD : Lam ((D, W.listOf ys.toArray ep) :: news1) := lam1.mono fun q hq => .tail _ hq
    have h9' : H ((D, W.listOf ys.toArray ep) :: news1) A (shut d i n) := h3.mono fun q hq => .tail _ hq
    have n172 := h9'.ne172 N9 hlamD
    refine kla_eval rfl ?_
    (with_unfolding_all refine' lam_at (c := 174) (P := 172) F9 N9 T1 CH ?qa hlamD ?qc ?_; (case qa => exact rfl); (case qc => exact rfl))
    intro f c' ctv h10 tk10 led F10 N10 kl hlo hfm
    have cD : (D, W.listOf ys.toArray ep) ∈ led := kl _ (.head _) (hlamD.ne N9 (.head _) (fun ps e => by cases e))
    have fcell : ∀ (a : Addr) (o : Obj) v, (a, o) ∈ news1 → o.data = .cell v → (a, o) ∈ led := fun a o v hm hd => kl _ (.tail _ hm) (lam1.ne N5 hm (fun ps e => by rw [hd] at e; cases e))
    replace c1 := fcell _ _ _ c1 dc1
    replace c2 := fcell _ _ _ c2 dc2
    replace c3 := fcell _ _ _ c3 dc3
    replace c4 := fcell _ _ _ c4 dc4
    replace hfl : (fl, W.listOf (refs (List.map (fun k => A (Role.ui k)) (List.take n (opnAt d i)))).toArray nf) ∈ led := kl _ (.tail _ hfl) (lam1.ne N5 hfl (fun ps e => by cases e))
    have k2 : Kept2 A d news led := fun q hq hr hq2 => kl q (.tail _ (k1 q hq hr)) hq2
    have hL' : H led A (shut d i n) := ⟨h9'.inj, fun r hr => let ⟨o, a, b⟩ := h9'.has r hr; ⟨o, kl _ a (n172 r hr), b⟩⟩
    replace hC' : (A .C, W.listOf (refs (row (fun k => A (.cl k)) d.cel.length)).toArray nC) ∈ led := kl _ (.tail _ hC') (n172 .C trivial)
    obtain ⟨oc, vs, tq, lo1, lo2, lo3, lo4⟩ := hlo
    clear fcell kl
    dsimp only
    (repeat' (first | (k_unfold; (try dsimp only)) | (refine unhide (by assumption) ?_; (try dsimp only)) | ((fail_if_success (with_reducible first | show wpAny _ _ (exec (Stmt.While _ _ _ _) _) _ _ _ | show wpAny _ _ (exec (Stmt.For _ _ _ _ _) _) _ _ _ | show wpAny _ _ (exec (Stmt.Assign _ (Expr.ListComp _ _ _ _) _) _) _ _ _ | show wpAny _ _ (eval (Expr.ListComp _ _ _ _) _) _ _ _ | show wpAny _ _ (call (Value.type "enumerate") _) _ _ _ | show wpAny _ _ (call (Value.type "zip") _) _ _ _ | refine stand_ref (by decide) ?_)); first | ((with_reducible first | (refine execs_one (by assumption) fun _ => ?_) | (refine execs_hid fun _ _ _ => ?_))) | ((with_reducible show wpAny _ _ (setItem (Value.ref _) (Value.int _ _) _) _ _ _); k_dflt (refine setI_at (by k_asm) (by k_asm) mem_put_self (by omega) (by simp only [List.length_set, List.length_cons, List.length_nil]; omega) (by simp only [List.length_set, List.length_cons, List.length_nil]; omega) ?_; k_whole); intro _ _ _; (try k_sweep)) | ((with_reducible show wpAny _ _ (call (Value.builtin "len") [Value.ref _]) _ _ _); k_dflt (refine len_at (by k_asm) (by k_mem) (by ktr_units) ?_; k_whole); (try simp only [refs_length])) | ((with_reducible show wpAny _ _ (subscriptTail _ _ (Value.ref _) (Value.int _ _)) _ _ _); (with_unfolding_all refine item_litK (News.isList (by k_asm) (by k_mem)) (by first | decide | omega) (by first | decide | omega) (by assumption) ?_ (by with_unfolding_all rfl); k_whole)) | ((with_reducible show wpAny _ _ (setItem (Value.ref _) (Value.int _ _) _) _ _ _); k_dflt (refine setI_at (by k_asm) (by k_asm) (by first | assumption | exact mem_put_self | exact mem_put (by first | assumption | exact mem_put_self | exact mem_put (by first | assumption | exact mem_put_self | exact mem_put (by assumption) (by ktr_unf)) (by ktr_unf)) (by ktr_unf)) (by first | decide | omega) (by ktr_units) (by ktr_units) ?_; k_whole); intro _ _ _; (try k_sweep)) | ((with_reducible show TurnEnd _ _ _ _ _ _ _ _ (Flow.ret _) _); dsimp only [TurnEnd]) | ((with_reducible show wpAny _ _ (call (Value.builtin "list.append") [Value.ref _, _]) _ _ _); k_dflt (refine app_at (by k_asm) (by k_asm) (by first | assumption | exact mem_put_self | exact mem_put (by first | assumption | exact mem_put_self | exact mem_put (by first | assumption | exact mem_put_self | exact mem_put (by assumption) (by ktr_unf)) (by ktr_unf)) (by ktr_unf)) (by ktr_units) ?_; k_whole); intro _ _ _; (try k_sweep)) | ((with_reducible show wpAny _ _ (getMethod (Value.ref _) (PySem.Str.ofString "append") _) _ _ _); k_dflt (refine listMethod_K (by k_asm) (by first | assumption | exact mem_put_self | exact mem_put (by first | assumption | exact mem_put_self | exact mem_put (by first | assumption | exact mem_put_self | exact mem_put (by assumption) (by ktr_unf)) (by ktr_unf)) (by ktr_unf)) PySem.F.slot_list_append PySem.F.type_list_append ?_)) | walk1 | ((with_reducible show wpAny _ _ (call (Value.builtin "list.append") [Value.ref _, _]) _ _ _); k_dflt (refine app_at (by k_asm) (by k_asm) (by k_mem) (by ktr_units) ?_; k_whole); intro _ _ _; (try k_sweep)) | (dsimp only; walk1) | fail "no step")))
    show wpAny _ _ (call (.builtin "sorted") [.ref D] [(Str.ofString "key", .ref f)]) _ _ _
    have hdl : ((dueK d i lv).map fun k => ((k : Nat) : Int)).length < 60 := by rw [List.length_map]; exact Nat.lt_of_le_of_lt dueK_len hcl300
    refine ksk_letter (b := false) (ns := (dueK d i lv).map fun k => ((k : Nat) : Int)) (fun n => 0 - ((celAt d n.toNat).pl : Int)) F10 N10 (News.isList N10 cD) hys (by lia) (ksk_s1 _ _) (fun x => ksk_l1 _ _) (fun x => ksk_t1 _ _) ?_ ?_
    · intro nn tt h11 tk11 own hnn F11 N11
      obtain ⟨k, hk, rfl⟩ := List.mem_map.mp hnn
      have hkl' : k < d.cel.length := by
        unfold dueK at hk
        exact List.mem_range.mp (List.mem_filter.mp hk).1
      have hL2 : H (led ++ own) A (shut d i n) := hL'.mono fun q hq => List.mem_append_left _ hq
      have up2 : ∀ q ∈ led, q ∈ led ++ own := fun q hq => List.mem_append_left _ hq
      obtain ⟨ta, tb, vv, nn, hov, hcl⟩ := hL2.cell (k := k) hkl'
      replace hcl : (A (.cl k), W.listOf [Value.int (celAt d k).wh ta, .int (celAt d k).pl tb, .bool (celAt d k).op, vv].toArray nn) ∈ led ++ own := hcl
      have i1 : [Value.int (celAt d k).wh ta, .int (celAt d k).pl tb, .bool (celAt d k).op, vv][(1 : Int).toNat]? = some (.int (celAt d k).pl tb) := rfl
      have j0 : (refs (row (fun k => A (.cl k)) d.cel.length))[((k : Nat) : Int).toNat]? = some (.ref (A (.cl k))) := refs_get (row_get hkl')
      have b1 : ((k : Nat) : Int) < 2 ^ 63 := by lia
      replace c4 := up2 _ c4
      replace hC' := up2 _ hC'
      replace hfm := up2 _ hfm
      replace lo2 := up2 _ lo2
      generalize led ++ own = led2 at N11 hL2 hcl c4 hC' hfm lo2
      clear up2
      refine wpAny_call ?_
      kla_enter
      (repeat' (first | (k_unfold; (try dsimp only)) | (refine unhide (by assumption) ?_; (try dsimp only)) | ((fail_if_success (with_reducible first | show wpAny _ _ (exec (Stmt.While _ _ _ _) _) _ _ _ | show wpAny _ _ (exec (Stmt.For _ _ _ _ _) _) _ _ _ | show wpAny _ _ (exec (Stmt.Assign _ (Expr.ListComp _ _ _ _) _) _) _ _ _ | show wpAny _ _ (eval (Expr.ListComp _ _ _ _) _) _ _ _ | show wpAny _ _ (call (Value.type "enumerate") _) _ _ _ | show wpAny _ _ (call (Value.type "zip") _) _ _ _ | refine stand_ref (by decide) ?_)); first | ((with_reducible first | (refine execs_one (by assumption) fun _ => ?_) | (refine execs_hid fun _ _ _ => ?_))) | ((with_reducible show wpAny _ _ (setItem (Value.ref _) (Value.int _ _) _) _ _ _); k_dflt (refine setI_at (by k_asm) (by k_asm) mem_put_self (by omega) (by simp only [List.length_set, List.length_cons, List.length_nil]; omega) (by simp only [List.length_set, List.length_cons, List.length_nil]; omega) ?_; k_whole); intro _ _ _; (try k_sweep)) | ((with_reducible show wpAny _ _ (call (Value.builtin "len") [Value.ref _]) _ _ _); k_dflt (refine len_at (by k_asm) (by k_mem) (by ktr_units) ?_; k_whole); (try simp only [refs_length])) | ((with_reducible show wpAny _ _ (subscriptTail _ _ (Value.ref _) (Value.int _ _)) _ _ _); (with_unfolding_all refine item_litK (News.isList (by k_asm) (by k_mem)) (by first | decide | omega) (by first | decide | omega) (by assumption) ?_ (by with_unfolding_all rfl); k_whole)) | ((with_reducible show wpAny _ _ (setItem (Value.ref _) (Value.int _ _) _) _ _ _); k_dflt (refine setI_at (by k_asm) (by k_asm) (by first | assumption | exact mem_put_self | exact mem_put (by first | assumption | exact mem_put_self | exact mem_put (by first | assumption | exact mem_put_self | exact mem_put (by assumption) (by ktr_unf)) (by ktr_unf)) (by ktr_unf)) (by first | decide | omega) (by ktr_units) (by ktr_units) ?_; k_whole); intro _ _ _; (try k_sweep)) | ((with_reducible show TurnEnd _ _ _ _ _ _ _ _ (Flow.ret _) _); dsimp only [TurnEnd]) | ((with_reducible show wpAny _ _ (call (Value.builtin "list.append") [Value.ref _, _]) _ _ _); k_dflt (refine app_at (by k_asm) (by k_asm) (by first | assumption | exact mem_put_self | exact mem_put (by first | assumption | exact mem_put_self | exact mem_put (by first | assumption | exact mem_put_self | exact mem_put (by assumption) (by ktr_unf)) (by ktr_unf)) (by ktr_unf)) (by ktr_units) ?_; k_whole); intro _ _ _; (try k_sweep)) | ((with_reducible show wpAny _ _ (getMethod (Value.ref _) (PySem.Str.ofString "append") _) _ _ _); k_dflt (refine listMethod_K (by k_asm) (by first | assumption | exact mem_put_self | exact mem_put (by first | assumption | exact mem_put_self | exact mem_put (by first | assumption | exact mem_put_self | exact mem_put (by assumption) (by ktr_unf)) (by ktr_unf)) (by ktr_unf)) PySem.F.slot_list_append PySem.F.type_list_append ?_)) | walk1 | ((with_reducible show wpAny _ _ (call (Value.builtin "list.append") [Value.ref _, _]) _ _ _); k_dflt (refine app_at (by k_asm) (by k_asm) (by k_mem) (by ktr_units) ?_; k_whole); intro _ _ _; (try k_sweep)) | (dsimp only; walk1) | fail "no step")))
    · intro D4 vs4 ns4 n4 h12 tk12 F12 N12 l12 hi12 _ hperm hpw _
      have e4 : ns4 = ((opnAt d i).take n).map fun (k : Nat) => (k : Int) := by
        rw [← hn]; exact due_sorted hw hI i lv hperm (by simpa using hpw)
      subst e4
      clear cD hfm hperm hpw
      have hD4 : ∀ r, Ok d r → A r ≠ D4 := fun r hr => by
        obtain ⟨o, a, _⟩ := hL'.has r ((ok_shut r).mpr hr)
        exact Nat.ne_of_lt (l12 _ a)
      have hks : ∀ k ∈ (opnAt d i).take n, k < d.ups.length := fun k hk => hw.ok i k (List.mem_of_mem_take hk)
      have hkm : ∀ k ∈ (opnAt d i).take n, k ∈ opnAt d i := fun k hk => List.mem_of_mem_take hk
      have hks3 : ((opnAt d i).take n).length ≤ 300 := by have := hw.ofew i; simp; lia
      have hfin : shutAll d i lv = closeCels (shut d i n) i ((opnAt d i).take n) := by unfold shutAll; rw [hn]
      generalize (opnAt d i).take n = ks at hi12 hfl hks hkm hks3 hfin
      have cD4 : (D4, W.listOf vs4.toArray n4) ∈ (D4, W.listOf vs4.toArray n4) :: led := .head _
      have up3 : ∀ q ∈ led, q ∈ (D4, W.listOf vs4.toArray n4) :: led := fun q hq => .tail _ hq
      replace c1 := up3 _ c1
      replace c2 := up3 _ c2
      replace c3 := up3 _ c3
      replace c4 := up3 _ c4
      replace hfl := up3 _ hfl
      replace hC' := up3 _ hC'
      replace lo1 := up3 _ lo1
      replace lo2 := up3 _ lo2
      replace k2 : Kept2 A d news ((D4, W.listOf vs4.toArray n4) :: led) := fun q hq hr hq2 => .tail _ (k2 q hq hr hq2)
      replace hL' := hL'.mono up3
      generalize (D4, W.listOf vs4.toArray n4) :: led = led3 at N12 c1 c2 c3 c4 hfl hC' lo1 lo2 k2 hL' cD4
      clear up3 N10 F10 lam1 hlamD h9' n172
      have hv4 := hi12.length
      simp only [List.length_map] at hv4
      have hft : (refs (ks.map fun k => A (.ui k))).length = vs4.length := by rw [refs_length, List.length_map]; exact hv4.symm
      have hft2 : (ks.map fun k => A (.ui k)).length = vs4.length := by rw [List.length_map]; exact hv4.symm
      have hvf : vs4.length ≤ 300 := by lia
      dsimp only
      (repeat' (first | (k_unfold; (try dsimp only)) | (refine unhide (by assumption) ?_; (try dsimp only)) | ((fail_if_success (with_reducible first | show wpAny _ _ (exec (Stmt.While _ _ _ _) _) _ _ _ | show wpAny _ _ (exec (Stmt.For _ _ _ _ _) _) _ _ _ | show wpAny _ _ (exec (Stmt.Assign _ (Expr.ListComp _ _ _ _) _) _) _ _ _ | show wpAny _ _ (eval (Expr.ListComp _ _ _ _) _) _ _ _ | show wpAny _ _ (call (Value.type "enumerate") _) _ _ _ | show wpAny _ _ (call (Value.type "zip") _) _ _ _ | refine stand_ref (by decide) ?_)); first | ((with_reducible first | (refine execs_one (by assumption) fun _ => ?_) | (refine execs_hid fun _ _ _ => ?_))) | ((with_reducible show wpAny _ _ (setItem (Value.ref _) (Value.int _ _) _) _ _ _); k_dflt (refine setI_at (by k_asm) (by k_asm) mem_put_self (by omega) (by simp only [List.length_set, List.length_cons, List.length_nil]; omega) (by simp only [List.length_set, List.length_cons, List.length_nil]; omega) ?_; k_whole); intro _ _ _; (try k_sweep)) | ((with_reducible show wpAny _ _ (call (Value.builtin "len") [Value.ref _]) _ _ _); k_dflt (refine len_at (by k_asm) (by k_mem) (by ktr_units) ?_; k_whole); (try simp only [refs_length])) | ((with_reducible show wpAny _ _ (subscriptTail _ _ (Value.ref _) (Value.int _ _)) _ _ _); (with_unfolding_all refine item_litK (News.isList (by k_asm) (by k_mem)) (by first | decide | omega) (by first | decide | omega) (by assumption) ?_ (by with_unfolding_all rfl); k_whole)) | ((with_reducible show wpAny _ _ (setItem (Value.ref _) (Value.int _ _) _) _ _ _); k_dflt (refine setI_at (by k_asm) (by k_asm) (by first | assumption | exact mem_put_self | exact mem_put (by first | assumption | exact mem_put_self | exact mem_put (by first | assumption | exact mem_put_self | exact mem_put (by assumption) (by ktr_unf)) (by ktr_unf)) (by ktr_unf)) (by first | decide | omega) (by ktr_units) (by ktr_units) ?_; k_whole); intro _ _ _; (try k_sweep)) | ((with_reducible show TurnEnd _ _ _ _ _ _ _ _ (Flow.ret _) _); dsimp only [TurnEnd]) | ((with_reducible show wpAny _ _ (call (Value.builtin "list.append") [Value.ref _, _]) _ _ _); k_dflt (refine app_at (by k_asm) (by k_asm) (by first | assumption | exact mem_put_self | exact mem_put (by first | assumption | exact mem_put_self | exact mem_put (by first | assumption | exact mem_put_self | exact mem_put (by assumption) (by ktr_unf)) (by ktr_unf)) (by ktr_unf)) (by ktr_units) ?_; k_whole); intro _ _ _; (try k_sweep)) | ((with_reducible show wpAny _ _ (getMethod (Value.ref _) (PySem.Str.ofString "append") _) _ _ _); k_dflt (refine listMethod_K (by k_asm) (by first | assumption | exact mem_put_self | exact mem_put (by first | assumption | exact mem_put_self | exact mem_put (by first | assumption | exact mem_put_self | exact mem_put (by assumption) (by ktr_unf)) (by ktr_unf)) (by ktr_unf)) PySem.F.slot_list_append PySem.F.type_list_append ?_)) | walk1 | ((with_reducible show wpAny _ _ (call (Value.builtin "list.append") [Value.ref _, _]) _ _ _); k_dflt (refine app_at (by k_asm) (by k_asm) (by k_mem) (by ktr_units) ?_; k_whole); intro _ _ _; (try k_sweep)) | (dsimp only; walk1) | fail "no step")))
      · exfalso; lia
      (rename Fr g L1 _ _ => F13); (rename News g L1 _ _ => N13)
      (with_unfolding_all refine' ListComp_at [Str.ofString "at", Str.ofString "one"] F13 ?qc ?qd ?qk ?qn ?qx ?_ ?qf)
      (case qc => exact rfl)
      (case qd => decide)
      (case qk => exact rfl)
      (case qn => decide)
      (case qx => decide)
      (case qf => (intro _; exact rfl))
      (repeat' (first | (k_unfold; (try dsimp only)) | (refine unhide (by assumption) ?_; (try dsimp only)) | ((fail_if_success (with_reducible first | show wpAny _ _ (exec (Stmt.While _ _ _ _) _) _ _ _ | show wpAny _ _ (exec (Stmt.For _ _ _ _ _) _) _ _ _ | show wpAny _ _ (exec (Stmt.Assign _ (Expr.ListComp _ _ _ _) _) _) _ _ _ | show wpAny _ _ (eval (Expr.ListComp _ _ _ _) _) _ _ _ | show wpAny _ _ (call (Value.type "enumerate") _) _ _ _ | show wpAny _ _ (call (Value.type "zip") _) _ _ _ | refine stand_ref (by decide) ?_)); first | ((with_reducible first | (refine execs_one (by assumption) fun _ => ?_) | (refine execs_hid fun _ _ _ => ?_))) | ((with_reducible show wpAny _ _ (setItem (Value.ref _) (Value.int _ _) _) _ _ _); k_dflt (refine setI_at (by k_asm) (by k_asm) mem_put_self (by omega) (by simp only [List.length_set, List.length_cons, List.length_nil]; omega) (by simp only [List.length_set, List.length_cons, List.length_nil]; omega) ?_; k_whole); intro _ _ _; (try k_sweep)) | ((with_reducible show wpAny _ _ (call (Value.builtin "len") [Value.ref _]) _ _ _); k_dflt (refine len_at (by k_asm) (by k_mem) (by ktr_units) ?_; k_whole); (try simp only [refs_length])) | ((with_reducible show wpAny _ _ (subscriptTail _ _ (Value.ref _) (Value.int _ _)) _ _ _); (with_unfolding_all refine item_litK (News.isList (by k_asm) (by k_mem)) (by first | decide | omega) (by first | decide | omega) (by assumption) ?_ (by with_unfolding_all rfl); k_whole)) | ((with_reducible show wpAny _ _ (setItem (Value.ref _) (Value.int _ _) _) _ _ _); k_dflt (refine setI_at (by k_asm) (by k_asm) (by first | assumption | exact mem_put_self | exact mem_put (by first | assumption | exact mem_put_self | exact mem_put (by first | assumption | exact mem_put_self | exact mem_put (by assumption) (by ktr_unf)) (by ktr_unf)) (by ktr_unf)) (by first | decide | omega) (by ktr_units) (by ktr_units) ?_; k_whole); intro _ _ _; (try k_sweep)) | ((with_reducible show TurnEnd _ _ _ _ _ _ _ _ (Flow.ret _) _); dsimp only [TurnEnd]) | ((with_reducible show wpAny _ _ (call (Value.builtin "list.append") [Value.ref _, _]) _ _ _); k_dflt (refine app_at (by k_asm) (by k_asm) (by first | assumption | exact mem_put_self | exact mem_put (by first | assumption | exact mem_put_self | exact mem_put (by first | assumption | exact mem_put_self | exact mem_put (by assumption) (by ktr_unf)) (by ktr_unf)) (by ktr_unf)) (by ktr_units) ?_; k_whole); intro _ _ _; (try k_sweep)) | ((with_reducible show wpAny _ _ (getMethod (Value.ref _) (PySem.Str.ofString "append") _) _ _ _); k_dflt (refine listMethod_K (by k_asm) (by first | assumption | exact mem_put_self | exact mem_put (by first | assumption | exact mem_put_self | exact mem_put (by first | assumption | exact mem_put_self | exact mem_put (by assumption) (by ktr_unf)) (by ktr_unf)) (by ktr_unf)) PySem.F.slot_list_append PySem.F.type_list_append ?_)) | walk1 | ((with_reducible show wpAny _ _ (call (Value.builtin "list.append") [Value.ref _, _]) _ _ _); k_dflt (refine app_at (by k_asm) (by k_asm) (by k_mem) (by ktr_units) ?_; k_whole); intro _ _ _; (try k_sweep)) | (dsimp only; walk1) | fail "no step")))
      (rename Fr g L1 _ _ => F14); (rename News g L1 _ _ => N14)
      obtain ⟨nK, hK⟩ := hL'.lK
      replace hK : (A .K, W.listOf (refs (row (fun k => A (.ui k)) d.kn)).toArray nK) ∈ led3 := hK
      refine src_zip (l1 := D4) (vs := vs4) (l2 := fl) (us := refs (ks.map fun k => A (.ui k))) (fun _ => false) (fun _ _ => True) rfl (by decide) F14 N14 cD4 hfl hft.symm (by lia) ?_ ?_
      · rintro s₂ ⟨hh, rfl⟩
        constructor
        · intro k C oC m₂ hk tk E' hkl hB hNs F15 N15
          obtain ⟨v, uu, hv, hu, hb1, hb2⟩ := hB
          obtain ⟨j, hj⟩ : ∃ j, ks[k]? = some j := ⟨ks[k]'(by lia), by simp⟩
          obtain ⟨tj, htj⟩ := hi12.get k (j : Int) (by simp [hj])
          rw [htj] at hv
          have hv' := Option.some.inj hv
          subst hv'
          have hu' : uu = .ref (A (.ui j)) := by simpa [refs, hj] using hu.symm
          subst hu'
          have hju : j < d.ups.length := hks j (List.mem_of_getElem? hj)
          have hjk : j < d.kn := by rw [hI.kn]; exact hju
          obtain ⟨oU, vlU, hu1, hu2, _⟩ := hL'.up (k := j) (by simpa [shut] using hju)
          have j0 : (refs (row (fun k => A (.ui k)) d.kn))[((j : Nat) : Int).toNat]? = some (.ref (A (.ui j))) := refs_get (row_get hjk)
          have b1 : ((j : Nat) : Int) < 2 ^ 63 := by lia
          refine wpAny_tests_one ?_
          (repeat' (first | (k_unfold; (try dsimp only)) | (refine unhide (by assumption) ?_; (try dsimp only)) | ((fail_if_success (with_reducible first | show wpAny _ _ (exec (Stmt.While _ _ _ _) _) _ _ _ | show wpAny _ _ (exec (Stmt.For _ _ _ _ _) _) _ _ _ | show wpAny _ _ (exec (Stmt.Assign _ (Expr.ListComp _ _ _ _) _) _) _ _ _ | show wpAny _ _ (eval (Expr.ListComp _ _ _ _) _) _ _ _ | show wpAny _ _ (call (Value.type "enumerate") _) _ _ _ | show wpAny _ _ (call (Value.type "zip") _) _ _ _ | refine stand_ref (by decide) ?_)); first | ((with_reducible first | (refine execs_one (by assumption) fun _ => ?_) | (refine execs_hid fun _ _ _ => ?_))) | ((with_reducible show wpAny _ _ (setItem (Value.ref _) (Value.int _ _) _) _ _ _); k_dflt (refine setI_at (by k_asm) (by k_asm) mem_put_self (by omega) (by simp only [List.length_set, List.length_cons, List.length_nil]; omega) (by simp only [List.length_set, List.length_cons, List.length_nil]; omega) ?_; k_whole); intro _ _ _; (try k_sweep)) | ((with_reducible show wpAny _ _ (call (Value.builtin "len") [Value.ref _]) _ _ _); k_dflt (refine len_at (by k_asm) (by k_mem) (by ktr_units) ?_; k_whole); (try simp only [refs_length])) | ((with_reducible show wpAny _ _ (subscriptTail _ _ (Value.ref _) (Value.int _ _)) _ _ _); (with_unfolding_all refine item_litK (News.isList (by k_asm) (by k_mem)) (by first | decide | omega) (by first | decide | omega) (by assumption) ?_ (by with_unfolding_all rfl); k_whole)) | ((with_reducible show wpAny _ _ (setItem (Value.ref _) (Value.int _ _) _) _ _ _); k_dflt (refine setI_at (by k_asm) (by k_asm) (by first | assumption | exact mem_put_self | exact mem_put (by first | assumption | exact mem_put_self | exact mem_put (by first | assumption | exact mem_put_self | exact mem_put (by assumption) (by ktr_unf)) (by ktr_unf)) (by ktr_unf)) (by first | decide | omega) (by ktr_units) (by ktr_units) ?_; k_whole); intro _ _ _; (try k_sweep)) | ((with_reducible show TurnEnd _ _ _ _ _ _ _ _ (Flow.ret _) _); dsimp only [TurnEnd]) | ((with_reducible show wpAny _ _ (call (Value.builtin "list.append") [Value.ref _, _]) _ _ _); k_dflt (refine app_at (by k_asm) (by k_asm) (by first | assumption | exact mem_put_self | exact mem_put (by first | assumption | exact mem_put_self | exact mem_put (by first | assumption | exact mem_put_self | exact mem_put (by assumption) (by ktr_unf)) (by ktr_unf)) (by ktr_unf)) (by ktr_units) ?_; k_whole); intro _ _ _; (try k_sweep)) | ((with_reducible show wpAny _ _ (getMethod (Value.ref _) (PySem.Str.ofString "append") _) _ _ _); k_dflt (refine listMethod_K (by k_asm) (by first | assumption | exact mem_put_self | exact mem_put (by first | assumption | exact mem_put_self | exact mem_put (by first | assumption | exact mem_put_self | exact mem_put (by assumption) (by ktr_unf)) (by ktr_unf)) (by ktr_unf)) PySem.F.slot_list_append PySem.F.type_list_append ?_)) | walk1 | ((with_reducible show wpAny _ _ (call (Value.builtin "list.append") [Value.ref _, _]) _ _ _); k_dflt (refine app_at (by k_asm) (by k_asm) (by k_mem) (by ktr_units) ?_; k_whole); intro _ _ _; (try k_sweep)) | (dsimp only; walk1) | fail "no step")))
          all_goals simp
        · intro k C oC m₂ hk tk E' hkl hp
          cases hp
      · rintro s₂ ⟨hh, rfl⟩ D5 h15 tk15 ys5 ep5 F15 N15 hD5 hP5
        have e0 : (List.range vs4.length).filter (fun _ => false) = [] := by simp
        rw [e0] at hP5
        cases hP5
        have hnil : IntsAre [] [] := .nil
        have cD5 : (D5, W.listOf ([] : List Value).toArray ep5) ∈ (D5, W.listOf ([] : List Value).toArray ep5) :: led3 := .head _
        dsimp only
        (repeat' (first | (k_unfold; (try dsimp only)) | (refine unhide (by assumption) ?_; (try dsimp only)) | ((fail_if_success (with_reducible first | show wpAny _ _ (exec (Stmt.While _ _ _ _) _) _ _ _ | show wpAny _ _ (exec (Stmt.For _ _ _ _ _) _) _ _ _ | show wpAny _ _ (exec (Stmt.Assign _ (Expr.ListComp _ _ _ _) _) _) _ _ _ | show wpAny _ _ (eval (Expr.ListComp _ _ _ _) _) _ _ _ | show wpAny _ _ (call (Value.type "enumerate") _) _ _ _ | show wpAny _ _ (call (Value.type "zip") _) _ _ _ | refine stand_ref (by decide) ?_)); first | ((with_reducible first | (refine execs_one (by assumption) fun _ => ?_) | (refine execs_hid fun _ _ _ => ?_))) | ((with_reducible show wpAny _ _ (setItem (Value.ref _) (Value.int _ _) _) _ _ _); k_dflt (refine setI_at (by k_asm) (by k_asm) mem_put_self (by omega) (by simp only [List.length_set, List.length_cons, List.length_nil]; omega) (by simp only [List.length_set, List.length_cons, List.length_nil]; omega) ?_; k_whole); intro _ _ _; (try k_sweep)) | ((with_reducible show wpAny _ _ (call (Value.builtin "len") [Value.ref _]) _ _ _); k_dflt (refine len_at (by k_asm) (by k_mem) (by ktr_units) ?_; k_whole); (try simp only [refs_length])) | ((with_reducible show wpAny _ _ (subscriptTail _ _ (Value.ref _) (Value.int _ _)) _ _ _); (with_unfolding_all refine item_litK (News.isList (by k_asm) (by k_mem)) (by first | decide | omega) (by first | decide | omega) (by assumption) ?_ (by with_unfolding_all rfl); k_whole)) | ((with_reducible show wpAny _ _ (setItem (Value.ref _) (Value.int _ _) _) _ _ _); k_dflt (refine setI_at (by k_asm) (by k_asm) (by first | assumption | exact mem_put_self | exact mem_put (by first | assumption | exact mem_put_self | exact mem_put (by first | assumption | exact mem_put_self | exact mem_put (by assumption) (by ktr_unf)) (by ktr_unf)) (by ktr_unf)) (by first | decide | omega) (by ktr_units) (by ktr_units) ?_; k_whole); intro _ _ _; (try k_sweep)) | ((with_reducible show TurnEnd _ _ _ _ _ _ _ _ (Flow.ret _) _); dsimp only [TurnEnd]) | ((with_reducible show wpAny _ _ (call (Value.builtin "list.append") [Value.ref _, _]) _ _ _); k_dflt (refine app_at (by k_asm) (by k_asm) (by first | assumption | exact mem_put_self | exact mem_put (by first | assumption | exact mem_put_self | exact mem_put (by first | assumption | exact mem_put_self | exact mem_put (by assumption) (by ktr_unf)) (by ktr_unf)) (by ktr_unf)) (by ktr_units) ?_; k_whole); intro _ _ _; (try k_sweep)) | ((with_reducible show wpAny _ _ (getMethod (Value.ref _) (PySem.Str.ofString "append") _) _ _ _); k_dflt (refine listMethod_K (by k_asm) (by first | assumption | exact mem_put_self | exact mem_put (by first | assumption | exact mem_put_self | exact mem_put (by first | assumption | exact mem_put_self | exact mem_put (by assumption) (by ktr_unf)) (by ktr_unf)) (by ktr_unf)) PySem.F.slot_list_append PySem.F.type_list_append ?_)) | walk1 | ((with_reducible show wpAny _ _ (call (Value.builtin "list.append") [Value.ref _, _]) _ _ _); k_dflt (refine app_at (by k_asm) (by k_asm) (by k_mem) (by ktr_units) ?_; k_whole); intro _ _ _; (try k_sweep)) | (dsimp only; walk1) | fail "no step")))
        (rename Fr g L1 _ _ => F16); (rename News g L1 _ _ => N16)
        obtain ⟨led4, hsub, N17⟩ := hide2 N16
        clear N16 cD5
        replace c2 := hsub _ c2
        replace c4 := hsub _ c4
        replace cD4 := hsub _ cD4
        have lamA : Lam led4 := .inr ⟨c', oc, vs, tq, hsub _ lo1, hsub _ lo2, lo3, lo4⟩
        replace k2 : Kept2 A d news led4 := fun q hq hr hq2 => hsub _ (k2 q hq hr hq2)
        replace hL' := hL'.mono hsub
        clear hsub hfl hC' lo1 lo2 c1 c3 hK
        have okS : ∀ j r, Ok (closeCels (shut d i n) i (ks.take j)) r ↔ Ok d r := fun j r => by
          obtain ⟨e1, e2, e3, e4, e5, e6⟩ := closeCels_same (i := i) (ks.take j) (shut d i n)
          replace e1 : _ = d.gst := e1
          have e3' : (closeCels (shut d i n) i (ks.take j)).ups.length = d.ups.length := by rw [e3]; simp [shut]
          replace e5 : _ = d.mst := e5
          replace e6 : _ = d.cel.length := e6
          cases r <;> simp only [Ok, e1, e3', e5, e6]
        (with_unfolding_all refine' For_invVF F16 ?k1 ?k2 ?_; (case k1 => exact rfl); (case k2 => exact rfl))
        (repeat' (first | (k_unfold; (try dsimp only)) | (refine unhide (by assumption) ?_; (try dsimp only)) | ((fail_if_success (with_reducible first | show wpAny _ _ (exec (Stmt.While _ _ _ _) _) _ _ _ | show wpAny _ _ (exec (Stmt.For _ _ _ _ _) _) _ _ _ | show wpAny _ _ (exec (Stmt.Assign _ (Expr.ListComp _ _ _ _) _) _) _ _ _ | show wpAny _ _ (eval (Expr.ListComp _ _ _ _) _) _ _ _ | show wpAny _ _ (call (Value.type "enumerate") _) _ _ _ | show wpAny _ _ (call (Value.type "zip") _) _ _ _ | refine stand_ref (by decide) ?_)); first | ((with_reducible first | (refine execs_one (by assumption) fun _ => ?_) | (refine execs_hid fun _ _ _ => ?_))) | ((with_reducible show wpAny _ _ (setItem (Value.ref _) (Value.int _ _) _) _ _ _); k_dflt (refine setI_at (by k_asm) (by k_asm) mem_put_self (by omega) (by simp only [List.length_set, List.length_cons, List.length_nil]; omega) (by simp only [List.length_set, List.length_cons, List.length_nil]; omega) ?_; k_whole); intro _ _ _; (try k_sweep)) | ((with_reducible show wpAny _ _ (call (Value.builtin "len") [Value.ref _]) _ _ _); k_dflt (refine len_at (by k_asm) (by k_mem) (by ktr_units) ?_; k_whole); (try simp only [refs_length])) | ((with_reducible show wpAny _ _ (subscriptTail _ _ (Value.ref _) (Value.int _ _)) _ _ _); (with_unfolding_all refine item_litK (News.isList (by k_asm) (by k_mem)) (by first | decide | omega) (by first | decide | omega) (by assumption) ?_ (by with_unfolding_all rfl); k_whole)) | ((with_reducible show wpAny _ _ (setItem (Value.ref _) (Value.int _ _) _) _ _ _); k_dflt (refine setI_at (by k_asm) (by k_asm) (by first | assumption | exact mem_put_self | exact mem_put (by first | assumption | exact mem_put_self | exact mem_put (by first | assumption | exact mem_put_self | exact mem_put (by assumption) (by ktr_unf)) (by ktr_unf)) (by ktr_unf)) (by first | decide | omega) (by ktr_units) (by ktr_units) ?_; k_whole); intro _ _ _; (try k_sweep)) | ((with_reducible show TurnEnd _ _ _ _ _ _ _ _ (Flow.ret _) _); dsimp only [TurnEnd]) | ((with_reducible show wpAny _ _ (call (Value.builtin "list.append") [Value.ref _, _]) _ _ _); k_dflt (refine app_at (by k_asm) (by k_asm) (by first | assumption | exact mem_put_self | exact mem_put (by first | assumption | exact mem_put_self | exact mem_put (by first | assumption | exact mem_put_self | exact mem_put (by assumption) (by ktr_unf)) (by ktr_unf)) (by ktr_unf)) (by ktr_units) ?_; k_whole); intro _ _ _; (try k_sweep)) | ((with_reducible show wpAny _ _ (getMethod (Value.ref _) (PySem.Str.ofString "append") _) _ _ _); k_dflt (refine listMethod_K (by k_asm) (by first | assumption | exact mem_put_self | exact mem_put (by first | assumption | exact mem_put_self | exact mem_put (by first | assumption | exact mem_put_self | exact mem_put (by assumption) (by ktr_unf)) (by ktr_unf)) (by ktr_unf)) PySem.F.slot_list_append PySem.F.type_list_append ?_)) | walk1 | ((with_reducible show wpAny _ _ (call (Value.builtin "list.append") [Value.ref _, _]) _ _ _); k_dflt (refine app_at (by k_asm) (by k_asm) (by k_mem) (by ktr_units) ?_; k_whole); intro _ _ _; (try k_sweep)) | (dsimp only; walk1) | fail "no step")))
        refine iter_at (l := D4) (vs := vs4) (n := n4) (fun j m nx => H nx A (closeCels (shut d i n) i (ks.take j)) ∧ Kept2 A d news nx ∧ Lam nx ∧ (L1 + 1 + 1 + 1, oc2) ∈ nx ∧ (L1 + 1, oc4) ∈ nx ∧ m (Str.ofString "stacks") = some (.ref (A .S))) rfl N17 cD4 F16 ⟨hL', k2, lamA, c2, c4, rfl⟩ ?_ ?_
        · rintro I j v m₁ nx h18 tk18 own hv hIn hown hnx hR1 F18 N18
          obtain ⟨hJ1, hJ2, hJ3, hJ4, hJ5, hJ6⟩ := hR1
          replace F18 := fr_at (x := Str.ofString "stacks") F18 (by with_unfolding_all exact hJ6)
          obtain ⟨k, hk⟩ : ∃ k, ks[j]? = some k := ⟨ks[j]'(by have := (List.getElem?_eq_some_iff.mp hv).1; lia), by simp⟩
          obtain ⟨tj, htj⟩ := hi12.get j (k : Int) (by simp [hk])
          rw [htj] at hv
          have hv' := Option.some.inj hv
          subst hv'
          generalize hd2 : closeCels (shut d i n) i (ks.take j) = d2 at hJ1
          have okd : ∀ r, Ok d2 r ↔ Ok d r := fun r => hd2 ▸ okS j r
          obtain ⟨e1, e2, e3, e4, e5, e6⟩ := closeCels_same (i := i) (ks.take j) (shut d i n)
          rw [hd2] at e1 e2 e3 e4 e5 e6
          have hkc : k < d2.cel.length := by
            rw [e6]; show k < d.cel.length
            rw [celLen hw hI]; exact hks k (List.mem_of_getElem? hk)
          have hkc0 : k < d.cel.length := by rw [celLen hw hI]; exact hks k (List.mem_of_getElem? hk)
          have hcd : (celAt d2 k).pl = (celAt d k).pl ∧ (celAt d2 k).wh = (celAt d k).wh := by
            rw [← hd2, celAt_closeCels _ _ _ (fun q hq => by show q < d.cel.length; rw [celLen hw hI]; exact hks q (List.mem_of_mem_take hq))]
            split <;> exact ⟨rfl, rfl⟩
          have hwk : (celAt d k).wh = i ∧ (celAt d k).pl < (mstAt d i).length := by
            obtain ⟨h1, h2⟩ := hI.oc i k (hkm k (List.mem_of_getElem? hk))
            refine ⟨h2, ?_⟩
            have := (hI.cw k hkc0).2
            rw [h2] at this
            unfold mstAt; rw [hI.mir]; exact this
          have hmd : mstAt d2 i = mstAt d i := by unfold mstAt; rw [e5]; rfl
          have him : i < d2.mst.length := by rw [e5]; show i < d.mst.length; rw [hI.mir]; exact hi
          obtain ⟨nC2, hC2⟩ := hJ1.lC
          obtain ⟨nS2, hS2⟩ := hJ1.lS
          obtain ⟨ta, tb, vv, nn, hov, hcl⟩ := hJ1.cell (k := k) hkc
          obtain ⟨ws, nw, hws, hwl⟩ := hJ1.mirror him
          rw [hmd] at hws
          obtain ⟨tv, htv⟩ := ints_get? hws hwk.2
          have i1 : [Value.int (celAt d2 k).wh ta, .int (celAt d2 k).pl tb, .bool (celAt d2 k).op, vv][(1 : Int).toNat]? = some (.int (celAt d2 k).pl tb) := rfl
          have j0 : (refs (row (fun k => A (.cl k)) d2.cel.length))[((k : Nat) : Int).toNat]? = some (.ref (A (.cl k))) := refs_get (row_get hkc)
          have j1 : (refs (row (fun i => A (.mir i)) d2.mst.length))[((i : Nat) : Int).toNat]? = some (.ref (A (.mir i))) := refs_get (row_get him)
          have j2 : ws[(((celAt d2 k).pl : Nat) : Int).toNat]? = some (.int ((mstAt d i).getD (celAt d k).pl 0) tv) := by rw [hcd.1]; exact htv
          have b1 : ((k : Nat) : Int) < 2 ^ 63 := by lia
          have b2 : (((celAt d2 k).pl : Nat) : Int) < 2 ^ 63 := by have := hw.mfit i; lia
          have r1 : A .C ≠ A (.cl k) := hJ1.ne (r := .C) (r' := .cl k) trivial hkc (by simp)
          have r2 : A .S ≠ A (.cl k) := hJ1.ne (r := .S) (r' := .cl k) trivial hkc (by simp)
          have r3 : A (.mir i) ≠ A (.cl k) := hJ1.ne (r := .mir i) (r' := .cl k) him hkc (by simp)
          have r4 : @Ne Nat (L1 + 1 + 1 + 1) (A (.cl k)) := cne (.cl k) hkc0 3 (by decide)
          have r5 : @Ne Nat (L1 + 1) (A (.cl k)) := cne (.cl k) hkc0 1 (by decide)
          have r6 : D4 ≠ A (.cl k) := (hD4 (.cl k) hkc0).symm
          have r7 : I ≠ A (.cl k) := by
            obtain ⟨o, a, _⟩ := hJ1.has (.cl k) hkc
            exact (hnx _ a).symm
          have up4 : ∀ q ∈ nx, q ∈ nx ++ own := fun q hq => List.mem_append_left _ hq
          have up5 : ∀ q ∈ own, q ∈ nx ++ own := fun q hq => List.mem_append_right _ hq
          have q1 := up4 _ hC2
          have q2 := up4 _ hS2
          have q3 := up4 _ hcl
          have q4 := up4 _ hwl
          have q5 := up4 _ hJ4
          have q6 := up4 _ hJ5
          have lamK : ∀ news', Kept A d2 nx news' → Lam news' := fun news' k => Lam.kept hJ3 hJ1 (fun q hq => N18 q (up4 q hq)) k
          generalize hbig : nx ++ own = big at N18 up4 up5 q1 q2 q3 q4 q5 q6
          clear hC2 hS2 hcl hwl
          dsimp only
          (repeat' (first | (k_unfold; (try dsimp only)) | (refine unhide (by assumption) ?_; (try dsimp only)) | ((fail_if_success (with_reducible first | show wpAny _ _ (exec (Stmt.While _ _ _ _) _) _ _ _ | show wpAny _ _ (exec (Stmt.For _ _ _ _ _) _) _ _ _ | show wpAny _ _ (exec (Stmt.Assign _ (Expr.ListComp _ _ _ _) _) _) _ _ _ | show wpAny _ _ (eval (Expr.ListComp _ _ _ _) _) _ _ _ | show wpAny _ _ (call (Value.type "enumerate") _) _ _ _ | show wpAny _ _ (call (Value.type "zip") _) _ _ _ | refine stand_ref (by decide) ?_)); first | ((with_reducible first | (refine execs_one (by assumption) fun _ => ?_) | (refine execs_hid fun _ _ _ => ?_))) | ((with_reducible show wpAny _ _ (setItem (Value.ref _) (Value.int _ _) _) _ _ _); k_dflt (refine setI_at (by k_asm) (by k_asm) mem_put_self (by omega) (by simp only [List.length_set, List.length_cons, List.length_nil]; omega) (by simp only [List.length_set, List.length_cons, List.length_nil]; omega) ?_; k_whole); intro _ _ _; (try k_sweep)) | ((with_reducible show wpAny _ _ (call (Value.builtin "len") [Value.ref _]) _ _ _); k_dflt (refine len_at (by k_asm) (by k_mem) (by ktr_units) ?_; k_whole); (try simp only [refs_length])) | ((with_reducible show wpAny _ _ (subscriptTail _ _ (Value.ref _) (Value.int _ _)) _ _ _); (with_unfolding_all refine item_litK (News.isList (by k_asm) (by k_mem)) (by first | decide | omega) (by first | decide | omega) (by assumption) ?_ (by with_unfolding_all rfl); k_whole)) | ((with_reducible show wpAny _ _ (setItem (Value.ref _) (Value.int _ _) _) _ _ _); k_dflt (refine setI_at (by k_asm) (by k_asm) (by first | assumption | exact mem_put_self | exact mem_put (by first | assumption | exact mem_put_self | exact mem_put (by first | assumption | exact mem_put_self | exact mem_put (by assumption) (by ktr_unf)) (by ktr_unf)) (by ktr_unf)) (by first | decide | omega) (by ktr_units) (by ktr_units) ?_; k_whole); intro _ _ _; (try k_sweep)) | ((with_reducible show TurnEnd _ _ _ _ _ _ _ _ (Flow.ret _) _); dsimp only [TurnEnd]) | ((with_reducible show wpAny _ _ (call (Value.builtin "list.append") [Value.ref _, _]) _ _ _); k_dflt (refine app_at (by k_asm) (by k_asm) (by first | assumption | exact mem_put_self | exact mem_put (by first | assumption | exact mem_put_self | exact mem_put (by first | assumption | exact mem_put_self | exact mem_put (by assumption) (by ktr_unf)) (by ktr_unf)) (by ktr_unf)) (by ktr_units) ?_; k_whole); intro _ _ _; (try k_sweep)) | ((with_reducible show wpAny _ _ (getMethod (Value.ref _) (PySem.Str.ofString "append") _) _ _ _); k_dflt (refine listMethod_K (by k_asm) (by first | assumption | exact mem_put_self | exact mem_put (by first | assumption | exact mem_put_self | exact mem_put (by first | assumption | exact mem_put_self | exact mem_put (by assumption) (by ktr_unf)) (by ktr_unf)) (by ktr_unf)) PySem.F.slot_list_append PySem.F.type_list_append ?_)) | walk1 | ((with_reducible show wpAny _ _ (call (Value.builtin "list.append") [Value.ref _, _]) _ _ _); k_dflt (refine app_at (by k_asm) (by k_asm) (by k_mem) (by ktr_units) ?_; k_whole); intro _ _ _; (try k_sweep)) | (dsimp only; walk1) | fail "no step")))
          (rename Fr g _ _ _ => F19); (rename News g _ _ _ => N19)
          have H1 := hJ1.setCel hkc ⟨(celAt d2 k).wh, (celAt d2 k).pl, (celAt d2 k).op, some ((mstAt d i).getD (celAt d k).pl 0)⟩ (t1 := ta) (t2 := tb) (n := nn) (v := .int ((mstAt d i).getD (celAt d k).pl 0) tv) ⟨tv, rfl⟩
          have H2 := H1.setCel (k := k) (by simpa [setCel] using hkc) ⟨(celAt d2 k).wh, (celAt d2 k).pl, false, some ((mstAt d i).getD (celAt d k).pl 0)⟩ (t1 := ta) (t2 := tb) (n := nn) (v := .int ((mstAt d i).getD (celAt d k).pl 0) tv) ⟨tv, rfl⟩
          have ed : setCel (setCel d2 k ⟨(celAt d2 k).wh, (celAt d2 k).pl, (celAt d2 k).op, some ((mstAt d i).getD (celAt d k).pl 0)⟩) k ⟨(celAt d2 k).wh, (celAt d2 k).pl, false, some ((mstAt d i).getD (celAt d k).pl 0)⟩ = closeCels (shut d i n) i (ks.take (j + 1)) := by
            have et : ks.take (j + 1) = ks.take j ++ [k] := by rw [List.take_add_one, hk]; rfl
            rw [et, closeCels_snoc, hd2]
            unfold closeCel setCel
            rw [hmd, hcd.1, hcd.2]
            simp
          rw [ed] at H2
          refine ⟨_, _, _, _, Mine.put (A (.cl k)) _ (Mine.put (A (.cl k)) _ nx), rfl, F19, N19, put_mono (put_mono up4), (fun q hq => ?_), (fun q hq => ?_), H2, (fun q hq hr hq2 => mem_put (mem_put (hJ2 q hq hr hq2) (hr (.cl k) hkc0)) (hr (.cl k) hkc0)), lamK _ (fun q hq hr => mem_put (mem_put hq (hr (.cl k) hkc)) (hr (.cl k) hkc)), mem_put (mem_put hJ4 r4) r4, mem_put (mem_put hJ5 r5) r5, rfl⟩
          · have : q.1 ≠ A (.cl k) := by
              rcases hown q hq with e | e
              · rw [e]; exact r7
              · rw [e]; exact r6
            exact mem_put (mem_put (up5 q hq) this) this
          · rcases of_put hq with rfl | ⟨hq, _⟩
            · exact r7.symm
            · rcases of_put hq with rfl | ⟨hq, _⟩
              · exact r7.symm
              · exact hnx q hq
        · rintro m₁ nx h20 tk20 hR1 F20 N20
          obtain ⟨hJ1, hJ2, hJ3, -, -, -⟩ := hR1
          rw [List.take_of_length_le (by lia), ← hfin] at hJ1
          dsimp only
          (repeat' (first | (k_unfold; (try dsimp only)) | (refine unhide (by assumption) ?_; (try dsimp only)) | ((fail_if_success (with_reducible first | show wpAny _ _ (exec (Stmt.While _ _ _ _) _) _ _ _ | show wpAny _ _ (exec (Stmt.For _ _ _ _ _) _) _ _ _ | show wpAny _ _ (exec (Stmt.Assign _ (Expr.ListComp _ _ _ _) _) _) _ _ _ | show wpAny _ _ (eval (Expr.ListComp _ _ _ _) _) _ _ _ | show wpAny _ _ (call (Value.type "enumerate") _) _ _ _ | show wpAny _ _ (call (Value.type "zip") _) _ _ _ | refine stand_ref (by decide) ?_)); first | ((with_reducible first | (refine execs_one (by assumption) fun _ => ?_) | (refine execs_hid fun _ _ _ => ?_))) | ((with_reducible show wpAny _ _ (setItem (Value.ref _) (Value.int _ _) _) _ _ _); k_dflt (refine setI_at (by k_asm) (by k_asm) mem_put_self (by omega) (by simp only [List.length_set, List.length_cons, List.length_nil]; omega) (by simp only [List.length_set, List.length_cons, List.length_nil]; omega) ?_; k_whole); intro _ _ _; (try k_sweep)) | ((with_reducible show wpAny _ _ (call (Value.builtin "len") [Value.ref _]) _ _ _); k_dflt (refine len_at (by k_asm) (by k_mem) (by ktr_units) ?_; k_whole); (try simp only [refs_length])) | ((with_reducible show wpAny _ _ (subscriptTail _ _ (Value.ref _) (Value.int _ _)) _ _ _); (with_unfolding_all refine item_litK (News.isList (by k_asm) (by k_mem)) (by first | decide | omega) (by first | decide | omega) (by assumption) ?_ (by with_unfolding_all rfl); k_whole)) | ((with_reducible show wpAny _ _ (setItem (Value.ref _) (Value.int _ _) _) _ _ _); k_dflt (refine setI_at (by k_asm) (by k_asm) (by first | assumption | exact mem_put_self | exact mem_put (by first | assumption | exact mem_put_self | exact mem_put (by first | assumption | exact mem_put_self | exact mem_put (by assumption) (by ktr_unf)) (by ktr_unf)) (by ktr_unf)) (by first | decide | omega) (by ktr_units) (by ktr_units) ?_; k_whole); intro _ _ _; (try k_sweep)) | ((with_reducible show TurnEnd _ _ _ _ _ _ _ _ (Flow.ret _) _); dsimp only [TurnEnd]) | ((with_reducible show wpAny _ _ (call (Value.builtin "list.append") [Value.ref _, _]) _ _ _); k_dflt (refine app_at (by k_asm) (by k_asm) (by first | assumption | exact mem_put_self | exact mem_put (by first | assumption | exact mem_put_self | exact mem_put (by first | assumption | exact mem_put_self | exact mem_put (by assumption) (by ktr_unf)) (by ktr_unf)) (by ktr_unf)) (by ktr_units) ?_; k_whole); intro _ _ _; (try k_sweep)) | ((with_reducible show wpAny _ _ (getMethod (Value.ref _) (PySem.Str.ofString "append") _) _ _ _); k_dflt (refine listMethod_K (by k_asm) (by first | assumption | exact mem_put_self | exact mem_put (by first | assumption | exact mem_put_self | exact mem_put (by first | assumption | exact mem_put_self | exact mem_put (by assumption) (by ktr_unf)) (by ktr_unf)) (by ktr_unf)) PySem.F.slot_list_append PySem.F.type_list_append ?_)) | walk1 | ((with_reducible show wpAny _ _ (call (Value.builtin "list.append") [Value.ref _, _]) _ _ _); k_dflt (refine app_at (by k_asm) (by k_asm) (by k_mem) (by ktr_units) ?_; k_whole); intro _ _ _; (try k_sweep)) | (dsimp only; walk1) | fail "no step")))
          (rename Fr h₀ _ _ _ => kF); (rename News h₀ _ _ _ => kN)
          exact post _ _ _ kF kN hJ1 hJ2 hJ3
end

end
section
theorem fmod_nat (a : Int) {m : Nat} (hm : 0 < m) : ∃ i : Nat, i < m ∧ a.fmod (m : Int) = i := by
  have h1 : 0 ≤ a.fmod (m : Int) := Int.fmod_nonneg_of_pos a (by omega)
  have h2 : a.fmod (m : Int) < m := Int.fmod_lt_of_pos a (by omega)
  exact ⟨(a.fmod m).toNat, by omega, by omega⟩
theorem hide1 {h₀ h : Heap} {L : Addr} {a : Addr × Obj} {led : List (Addr × Obj)} (N : News h₀ L h (a :: led)) : ∃ led', (∀ q ∈ led, q ∈ led') ∧ News h₀ L h led' := ⟨_, fun _ h => .tail _ h, N⟩
def setG (d : Dt) (i : Nat) (l : List Int) : Dt := { d with gst := d.gst.set i l }
def setM (d : Dt) (i : Nat) (l : List Int) : Dt := { d with mst := d.mst.set i l }
def setU (d : Dt) (k : Nat) (u : Up) : Dt := { d with ups := d.ups.set k u }
theorem gstAt_setG {d : Dt} {i j : Nat} {l : List Int} (hi : i < d.gst.length) : gstAt (setG d i l) j = if j = i then l else gstAt d j := by
  unfold gstAt setG
  by_cases e : j = i
  · subst e; simp [List.getD, hi]
  · simp [List.getD, List.getElem?_set, e, Ne.symm e]
theorem mstAt_setM {d : Dt} {i j : Nat} {l : List Int} (hi : i < d.mst.length) : mstAt (setM d i l) j = if j = i then l else mstAt d j := by
  unfold mstAt setM
  by_cases e : j = i
  · subst e; simp [List.getD, hi]
  · simp [List.getD, List.getElem?_set, e, Ne.symm e]
theorem upAt_setU {d : Dt} {k j : Nat} {u : Up} (hk : k < d.ups.length) : upAt (setU d k u) j = if j = k then u else upAt d j := by
  unfold upAt setU
  by_cases e : j = k
  · subst e; simp [List.getD, hk]
  · simp [List.getD, List.getElem?_set, e, Ne.symm e]
theorem ok_setG {d : Dt} {i : Nat} {l : List Int} : ∀ r, Ok (setG d i l) r ↔ Ok d r := fun r => by cases r <;> simp [Ok, setG]
theorem ok_setM {d : Dt} {i : Nat} {l : List Int} : ∀ r, Ok (setM d i l) r ↔ Ok d r := fun r => by cases r <;> simp [Ok, setM]
theorem ok_setU {d : Dt} {k : Nat} {u : Up} : ∀ r, Ok (setU d k u) r ↔ Ok d r := fun r => by cases r <;> simp [Ok, setU]
theorem H.setG {news : List (Addr × Obj)} {A : Role → Addr} {d : Dt} (h : H news A d) {i : Nat} (hi : i < d.gst.length) {l : List Int} {vs : List Value} {n : Nat} (hv : IntsAre vs l) :
    H (Mine.put (A (.gs i)) (W.listOf vs.toArray n) news) A (Mine.setG d i l) := by
  refine h.put (.gs i) _ ok_setG hi ⟨vs, n, ?_, rfl⟩ fun r hr hok o ho => ?_
  · rw [gstAt_setG hi, if_pos rfl]; exact hv
  · cases r with
    | gs j =>
      have hj : j ≠ i := fun e => hr (by rw [e])
      obtain ⟨v', m, b1, b2⟩ := ho
      exact ⟨v', m, by rw [gstAt_setG hi, if_neg hj]; exact b1, b2⟩
    | G =>
      obtain ⟨m, b⟩ := ho
      exact ⟨m, by rw [b]; simp [Mine.setG]⟩
    | _ => exact ho
theorem H.setM {news : List (Addr × Obj)} {A : Role → Addr} {d : Dt} (h : H news A d) {i : Nat} (hi : i < d.mst.length) {l : List Int} {vs : List Value} {n : Nat} (hv : IntsAre vs l) :
    H (Mine.put (A (.mir i)) (W.listOf vs.toArray n) news) A (Mine.setM d i l) := by
  refine h.put (.mir i) _ ok_setM hi ⟨vs, n, ?_, rfl⟩ fun r hr hok o ho => ?_
  · rw [mstAt_setM hi, if_pos rfl]; exact hv
  · cases r with
    | mir j =>
      have hj : j ≠ i := fun e => hr (by rw [e])
      obtain ⟨v', m, b1, b2⟩ := ho
      exact ⟨v', m, by rw [mstAt_setM hi, if_neg hj]; exact b1, b2⟩
    | S =>
      obtain ⟨m, b⟩ := ho
      exact ⟨m, by rw [b]; simp [Mine.setM]⟩
    | _ => exact ho
theorem H.setU {news : List (Addr × Obj)} {A : Role → Addr} {d : Dt} (h : H news A d) {k : Nat} (hk : k < d.ups.length) {u : Up} {o : Obj} {vl : Value} (hvl : OptVal vl u.vl) (ho : UpDict o (thOf A u.th) u.ix vl) :
    H (Mine.put (A (.ud k)) o news) A (Mine.setU d k u) := by
  refine h.put (.ud k) _ ok_setU hk ⟨vl, ?_, ?_⟩ fun r hr hok o ho => ?_
  · rw [upAt_setU hk, if_pos rfl]; exact hvl
  · rw [upAt_setU hk, if_pos rfl]; exact ho
  · cases r with
    | ud j =>
      have hj : j ≠ k := fun e => hr (by rw [e])
      obtain ⟨v', b1, b2⟩ := ho
      exact ⟨v', by rw [upAt_setU hk, if_neg hj]; exact b1, by rw [upAt_setU hk, if_neg hj]; exact b2⟩
    | _ => exact ho
theorem ints_set {vs : List Value} {ns : List Int} (h : IntsAre vs ns) (j : Nat) (x : Int) (t : Tok) : IntsAre (vs.set j (.int x t)) (ns.set j x) := by
  induction h generalizing j with
  | nil => exact .nil
  | cons n t' h ih =>
    cases j with
    | zero => exact .cons _ _ h
    | succ j => exact .cons _ _ (ih j)
theorem ints_snoc {vs : List Value} {ns : List Int} (h : IntsAre vs ns) (x : Int) (t : Tok) : IntsAre (vs ++ [.int x t]) (ns ++ [x]) := by
  induction h with
  | nil => exact .cons _ _ .nil
  | cons n t' h ih => exact .cons _ _ ih

/-- one stack place written, in the ground and in the mirror -/
def wrote (d : Dt) (i pl : Nat) (x : Int) : Dt := setM (setG d i ((gstAt d i).set pl x)) i ((mstAt d i).set pl x)
/-- one value on top -/
def pushed (d : Dt) (i : Nat) (x : Int) : Dt := setM (setG d i (gstAt d i ++ [x])) i (mstAt d i ++ [x])
/-- a closed variable set -/
def setShut (d : Dt) (k : Nat) (x : Int) : Dt := setCel (setU d k ⟨(upAt d k).th, (upAt d k).ix, some x⟩) k ⟨(celAt d k).wh, (celAt d k).pl, (celAt d k).op, some x⟩
theorem ok_wrote {d : Dt} {i pl : Nat} {x : Int} : ∀ r, Ok (wrote d i pl x) r ↔ Ok d r := fun r => (ok_setM r).trans (ok_setG r)
theorem ok_pushed {d : Dt} {i : Nat} {x : Int} : ∀ r, Ok (pushed d i x) r ↔ Ok d r := fun r => (ok_setM r).trans (ok_setG r)
theorem ok_setShut {d : Dt} {k : Nat} {x : Int} : ∀ r, Ok (setShut d k x) r ↔ Ok d r := fun r => (ok_setCel r).trans (ok_setU r)
theorem gst_wrote {d : Dt} {i pl : Nat} {x : Int} : (wrote d i pl x).gst.length = d.gst.length := by simp [wrote, setM, setG]
theorem gst_pushed {d : Dt} {i : Nat} {x : Int} : (pushed d i x).gst.length = d.gst.length := by simp [pushed, setM, setG]

end
section
theorem ints_snoc0 {vs : List Value} {ns : List Int} (h : IntsAre vs ns) (x : Int) (t : Tok) : IntsAre (vs ++ [.int x t]) (ns ++ [x]) := by
  induction h with
  | nil => exact .cons _ _ .nil
  | cons n t' h ih => exact .cons _ _ ih
theorem paired_any : ∀ {l : List Nat} {ys : List Value}, Paired (fun _ v => ∃ x t, v = Value.int x t) l ys → ∃ ms, IntsAre ys ms ∧ ms.length = l.length
  | _, _, .nil => ⟨[], .nil, rfl⟩
  | _, _, .cons ⟨x, t, e⟩ h => let ⟨ms, h1, h2⟩ := paired_any h; ⟨x :: ms, e ▸ .cons x t h1, by simp [h2]⟩
section
variable {w : World} {base h₀ : Heap} {outer : List Env} {A₀ : Around} {dp u : Nat} {env : Env} {L : Addr} {m mg mb : Str → Option Value}
    {loose : List Str} {mean : ExcName → Option Value} {p : Program} {s : Shared} {news : List (Addr × Obj)} {R : Result → Shared → Prop}
set_option maxHeartbeats 4000000 in
theorem numbers_ctr (C : Cx w A₀ base h₀ outer L s m mg mb loose mean p news env) (hd : dp ≤ 350) (hu : u ≤ 3000) {l : Addr} {vs : List Value} {ns : List Int} {k : Nat} (hl : (l, W.listOf vs.toArray k) ∈ news) (hi : IntsAre vs ns) (hlen : ns.length ≤ 63)
    (post : ∀ D ws ms e h' tk led, Fr h₀ L h' m → News h₀ L h' led → (∀ q ∈ news, q ∈ led) → (D, W.listOf ws.toArray e) ∈ led → (∀ q ∈ news, q.1 < D) → IntsAre ws ms → 10 ≤ ms.length → ms.length ≤ 16 → R (.ok (.ret (.ref D))) { s with heap := h', toks := tk }) :
    codeAny (model Challenge.rw_nt0630_01.row.prog w) ⟨none, dp, some (env :: outer), some [], u⟩ (.call (.ref 158) ⟨[.ref l], []⟩) R s := by
  obtain ⟨B, F, X, T, N, hf, hke⟩ := C
  have hvl := hi.length
  tb_start
  rename_i g L1 h1 FG F1 N1 B1 X1 T1 Q0 hQ0
  (repeat' (first | (k_unfold; (try dsimp only)) | (refine unhide (by assumption) ?_; (try dsimp only)) | ((fail_if_success (with_reducible first | show wpAny _ _ (exec (Stmt.While _ _ _ _) _) _ _ _ | show wpAny _ _ (exec (Stmt.For _ _ _ _ _) _) _ _ _ | show wpAny _ _ (exec (Stmt.Assign _ (Expr.ListComp _ _ _ _) _) _) _ _ _ | show wpAny _ _ (eval (Expr.ListComp _ _ _ _) _) _ _ _ | show wpAny _ _ (call (Value.type "enumerate") _) _ _ _ | show wpAny _ _ (call (Value.type "zip") _) _ _ _ | refine stand_ref (by decide) ?_)); first | ((with_reducible first | (refine execs_one (by assumption) fun _ => ?_) | (refine execs_hid fun _ _ _ => ?_))) | ((with_reducible show wpAny _ _ (call (Value.builtin "len") [Value.ref _]) _ _ _); k_dflt (refine len_at (by k_asm) (by k_mem) (by ktr_units) ?_; k_whole); (try simp only [refs_length])) | ((with_reducible show wpAny _ _ (subscriptTail _ _ (Value.ref _) (Value.int _ _)) _ _ _); (with_unfolding_all refine item_litK (News.isList (by k_asm) (by k_mem)) (by first | decide | omega) (by first | decide | omega) (by assumption) ?_ (by with_unfolding_all rfl); k_whole)) | ((with_reducible show wpAny _ _ (call (Value.builtin "list.append") [Value.ref _, _]) _ _ _); k_dflt (refine app_at (by k_asm) (by k_asm) (by first | assumption | exact mem_put_self | exact mem_put (by first | assumption | exact mem_put_self | exact mem_put (by first | assumption | exact mem_put_self | exact mem_put (by assumption) (by ktr_unf)) (by ktr_unf)) (by ktr_unf)) (by ktr_units) ?_; k_whole); intro _ _ _; (try k_sweep)) | ((with_reducible show wpAny _ _ (getMethod (Value.ref _) (PySem.Str.ofString "append") _) _ _ _); k_dflt (refine listMethod_K (by k_asm) (by first | assumption | exact mem_put_self | exact mem_put (by first | assumption | exact mem_put_self | exact mem_put (by first | assumption | exact mem_put_self | exact mem_put (by assumption) (by ktr_unf)) (by ktr_unf)) (by ktr_unf)) PySem.F.slot_list_append PySem.F.type_list_append ?_)) | walk1 | ((with_reducible show wpAny _ _ (call (Value.builtin "list.append") [Value.ref _, _]) _ _ _); k_dflt (refine app_at (by k_asm) (by k_asm) (by k_mem) (by ktr_units) ?_; k_whole); intro _ _ _; (try k_sweep)) | (dsimp only; walk1) | fail "no step")))
  (rename Fr g L1 _ _ => F5); (rename News g L1 _ _ => N5)
  (with_unfolding_all refine' Assign_ListComp_at [Str.ofString "one"] F5 ?qe ?qs ?qc ?qd ?qk ?qn ?qx ?qy ?qp ?_ ?qf)
  (case qe => exact rfl)
  (case qs => exact rfl)
  (case qc => exact rfl)
  (case qd => decide)
  (case qk => exact rfl)
  (case qn => decide)
  (case qx => decide)
  (case qy => exact rfl)
  (case qp => exact rfl)
  (case qf => (intro _; exact rfl))
  (repeat' (first | (k_unfold; (try dsimp only)) | (refine unhide (by assumption) ?_; (try dsimp only)) | ((fail_if_success (with_reducible first | show wpAny _ _ (exec (Stmt.While _ _ _ _) _) _ _ _ | show wpAny _ _ (exec (Stmt.For _ _ _ _ _) _) _ _ _ | show wpAny _ _ (exec (Stmt.Assign _ (Expr.ListComp _ _ _ _) _) _) _ _ _ | show wpAny _ _ (eval (Expr.ListComp _ _ _ _) _) _ _ _ | show wpAny _ _ (call (Value.type "enumerate") _) _ _ _ | show wpAny _ _ (call (Value.type "zip") _) _ _ _ | refine stand_ref (by decide) ?_)); first | ((with_reducible first | (refine execs_one (by assumption) fun _ => ?_) | (refine execs_hid fun _ _ _ => ?_))) | ((with_reducible show wpAny _ _ (call (Value.builtin "len") [Value.ref _]) _ _ _); k_dflt (refine len_at (by k_asm) (by k_mem) (by ktr_units) ?_; k_whole); (try simp only [refs_length])) | ((with_reducible show wpAny _ _ (subscriptTail _ _ (Value.ref _) (Value.int _ _)) _ _ _); (with_unfolding_all refine item_litK (News.isList (by k_asm) (by k_mem)) (by first | decide | omega) (by first | decide | omega) (by assumption) ?_ (by with_unfolding_all rfl); k_whole)) | ((with_reducible show wpAny _ _ (call (Value.builtin "list.append") [Value.ref _, _]) _ _ _); k_dflt (refine app_at (by k_asm) (by k_asm) (by first | assumption | exact mem_put_self | exact mem_put (by first | assumption | exact mem_put_self | exact mem_put (by first | assumption | exact mem_put_self | exact mem_put (by assumption) (by ktr_unf)) (by ktr_unf)) (by ktr_unf)) (by ktr_units) ?_; k_whole); intro _ _ _; (try k_sweep)) | ((with_reducible show wpAny _ _ (getMethod (Value.ref _) (PySem.Str.ofString "append") _) _ _ _); k_dflt (refine listMethod_K (by k_asm) (by first | assumption | exact mem_put_self | exact mem_put (by first | assumption | exact mem_put_self | exact mem_put (by first | assumption | exact mem_put_self | exact mem_put (by assumption) (by ktr_unf)) (by ktr_unf)) (by ktr_unf)) PySem.F.slot_list_append PySem.F.type_list_append ?_)) | walk1 | ((with_reducible show wpAny _ _ (call (Value.builtin "list.append") [Value.ref _, _]) _ _ _); k_dflt (refine app_at (by k_asm) (by k_asm) (by k_mem) (by ktr_units) ?_; k_whole); intro _ _ _; (try k_sweep)) | (dsimp only; walk1) | fail "no step")))
  (rename Fr g L1 _ _ => F6); (rename News g L1 _ _ => N6); (rename IntsAre _ (List.take 16 ns) => hI6); (rename ∀ q ∈ news, q.1 < _ => l6)
  have hvl6 := hI6.length
  have ht16 : (List.take 16 ns).length ≤ 16 := by rw [List.length_take]; omega
  dsimp only
  refine src_list (fun _ => true) (fun _ v => ∃ x t, v = Value.int x t) rfl F6 N6 (.head _) (by omega) ?_ ?_
  · rintro s₂ ⟨hh, rfl⟩
    constructor
    · intro k C oC m₂ hk tk E' hkl hB hNs F14 N14
      exact wpAny_tests_nil ⟨rfl, _, rfl⟩
    · intro k C oC m₂ hk tk E' hkl hp hB hNs F14 N14
      obtain ⟨v, hv, hb1⟩ := hB
      obtain ⟨x, tx, rfl, _⟩ := hI6.at k v hv
      (repeat' (first | (k_unfold; (try dsimp only)) | (refine unhide (by assumption) ?_; (try dsimp only)) | ((fail_if_success (with_reducible first | show wpAny _ _ (exec (Stmt.While _ _ _ _) _) _ _ _ | show wpAny _ _ (exec (Stmt.For _ _ _ _ _) _) _ _ _ | show wpAny _ _ (exec (Stmt.Assign _ (Expr.ListComp _ _ _ _) _) _) _ _ _ | show wpAny _ _ (eval (Expr.ListComp _ _ _ _) _) _ _ _ | show wpAny _ _ (call (Value.type "enumerate") _) _ _ _ | show wpAny _ _ (call (Value.type "zip") _) _ _ _ | refine stand_ref (by decide) ?_)); first | ((with_reducible first | (refine execs_one (by assumption) fun _ => ?_) | (refine execs_hid fun _ _ _ => ?_))) | ((with_reducible show wpAny _ _ (call (Value.builtin "len") [Value.ref _]) _ _ _); k_dflt (refine len_at (by k_asm) (by k_mem) (by ktr_units) ?_; k_whole); (try simp only [refs_length])) | ((with_reducible show wpAny _ _ (subscriptTail _ _ (Value.ref _) (Value.int _ _)) _ _ _); (with_unfolding_all refine item_litK (News.isList (by k_asm) (by k_mem)) (by first | decide | omega) (by first | decide | omega) (by assumption) ?_ (by with_unfolding_all rfl); k_whole)) | ((with_reducible show wpAny _ _ (call (Value.builtin "list.append") [Value.ref _, _]) _ _ _); k_dflt (refine app_at (by k_asm) (by k_asm) (by first | assumption | exact mem_put_self | exact mem_put (by first | assumption | exact mem_put_self | exact mem_put (by first | assumption | exact mem_put_self | exact mem_put (by assumption) (by ktr_unf)) (by ktr_unf)) (by ktr_unf)) (by ktr_units) ?_; k_whole); intro _ _ _; (try k_sweep)) | ((with_reducible show wpAny _ _ (getMethod (Value.ref _) (PySem.Str.ofString "append") _) _ _ _); k_dflt (refine listMethod_K (by k_asm) (by first | assumption | exact mem_put_self | exact mem_put (by first | assumption | exact mem_put_self | exact mem_put (by first | assumption | exact mem_put_self | exact mem_put (by assumption) (by ktr_unf)) (by ktr_unf)) (by ktr_unf)) PySem.F.slot_list_append PySem.F.type_list_append ?_)) | walk1 | ((with_reducible show wpAny _ _ (call (Value.builtin "list.append") [Value.ref _, _]) _ _ _); k_dflt (refine app_at (by k_asm) (by k_asm) (by k_mem) (by ktr_units) ?_; k_whole); intro _ _ _; (try k_sweep)) | (dsimp only; walk1) | fail "no step")))
  · rintro s₂ ⟨hh, rfl⟩ D h14 tk14 ys2 ep2 F14 N14 hD2 hP2
    obtain ⟨ms, hms, hml⟩ := paired_any hP2
    have hml2 : ms.length ≤ 16 := by
      rw [hml]
      refine Nat.le_trans (List.length_filter_le _ _) ?_
      rw [List.length_range, hvl6]; exact ht16
    have hysl := hms.length
    dsimp only
    (repeat' (first | (k_unfold; (try dsimp only)) | (refine unhide (by assumption) ?_; (try dsimp only)) | ((fail_if_success (with_reducible first | show wpAny _ _ (exec (Stmt.While _ _ _ _) _) _ _ _ | show wpAny _ _ (exec (Stmt.For _ _ _ _ _) _) _ _ _ | show wpAny _ _ (exec (Stmt.Assign _ (Expr.ListComp _ _ _ _) _) _) _ _ _ | show wpAny _ _ (eval (Expr.ListComp _ _ _ _) _) _ _ _ | show wpAny _ _ (call (Value.type "enumerate") _) _ _ _ | show wpAny _ _ (call (Value.type "zip") _) _ _ _ | refine stand_ref (by decide) ?_)); first | ((with_reducible first | (refine execs_one (by assumption) fun _ => ?_) | (refine execs_hid fun _ _ _ => ?_))) | ((with_reducible show wpAny _ _ (call (Value.builtin "len") [Value.ref _]) _ _ _); k_dflt (refine len_at (by k_asm) (by k_mem) (by ktr_units) ?_; k_whole); (try simp only [refs_length])) | ((with_reducible show wpAny _ _ (subscriptTail _ _ (Value.ref _) (Value.int _ _)) _ _ _); (with_unfolding_all refine item_litK (News.isList (by k_asm) (by k_mem)) (by first | decide | omega) (by first | decide | omega) (by assumption) ?_ (by with_unfolding_all rfl); k_whole)) | ((with_reducible show wpAny _ _ (call (Value.builtin "list.append") [Value.ref _, _]) _ _ _); k_dflt (refine app_at (by k_asm) (by k_asm) (by first | assumption | exact mem_put_self | exact mem_put (by first | assumption | exact mem_put_self | exact mem_put (by first | assumption | exact mem_put_self | exact mem_put (by assumption) (by ktr_unf)) (by ktr_unf)) (by ktr_unf)) (by ktr_units) ?_; k_whole); intro _ _ _; (try k_sweep)) | ((with_reducible show wpAny _ _ (getMethod (Value.ref _) (PySem.Str.ofString "append") _) _ _ _); k_dflt (refine listMethod_K (by k_asm) (by first | assumption | exact mem_put_self | exact mem_put (by first | assumption | exact mem_put_self | exact mem_put (by first | assumption | exact mem_put_self | exact mem_put (by assumption) (by ktr_unf)) (by ktr_unf)) (by ktr_unf)) PySem.F.slot_list_append PySem.F.type_list_append ?_)) | walk1 | ((with_reducible show wpAny _ _ (call (Value.builtin "list.append") [Value.ref _, _]) _ _ _); k_dflt (refine app_at (by k_asm) (by k_asm) (by k_mem) (by ktr_units) ?_; k_whole); intro _ _ _; (try k_sweep)) | (dsimp only; walk1) | fail "no step")))
    (rename Fr g L1 _ _ => F15); (rename News g L1 _ _ => N15)
    have l7 : ∀ q ∈ news, q.1 < D := fun q hq => hD2 q (.tail _ hq)
    refine While_inv2 (fun n m nx => ∃ ws ms e made t, n = 10 - ws.length ∧ (D, W.listOf ws.toArray e) ∈ nx ∧ IntsAre ws ms ∧ ws.length ≤ 16 ∧ (∀ q ∈ news, q ∈ nx) ∧ m (Str.ofString "some") = some (.ref D) ∧ m (Str.ofString "made") = some (.int made t)) (n₀ := 10 - ys2.length) F15 N15
      ⟨ys2, ms, ep2, _, _, rfl, .head _, hms, by omega, fun q hq => .tail _ (.tail _ hq), rfl, rfl⟩ ?_
    rintro n₁ m₁ nx h₁ tk₁ F₁ N₁ hR1
    obtain ⟨ws, ms', e, made, t, hn, hw, hwi, hw16, hsub, m1, m2⟩ := hR1
    replace F₁ := fr_at (x := Str.ofString "some") (fr_at (x := Str.ofString "made") F₁ m2) m1
    clear N15 F15
    by_cases hlt : ws.length < 10
    · have hlt2 : (ws.length : Int) < 10 := by omega
      (repeat' (first | (k_unfold; (try dsimp only)) | (refine unhide (by assumption) ?_; (try dsimp only)) | ((fail_if_success (with_reducible first | show wpAny _ _ (exec (Stmt.While _ _ _ _) _) _ _ _ | show wpAny _ _ (exec (Stmt.For _ _ _ _ _) _) _ _ _ | show wpAny _ _ (exec (Stmt.Assign _ (Expr.ListComp _ _ _ _) _) _) _ _ _ | show wpAny _ _ (eval (Expr.ListComp _ _ _ _) _) _ _ _ | show wpAny _ _ (call (Value.type "enumerate") _) _ _ _ | show wpAny _ _ (call (Value.type "zip") _) _ _ _ | refine stand_ref (by decide) ?_)); first | ((with_reducible first | (refine execs_one (by assumption) fun _ => ?_) | (refine execs_hid fun _ _ _ => ?_))) | ((with_reducible show wpAny _ _ (call (Value.builtin "len") [Value.ref _]) _ _ _); k_dflt (refine len_at (by k_asm) (by k_mem) (by ktr_units) ?_; k_whole); (try simp only [refs_length])) | ((with_reducible show wpAny _ _ (subscriptTail _ _ (Value.ref _) (Value.int _ _)) _ _ _); (with_unfolding_all refine item_litK (News.isList (by k_asm) (by k_mem)) (by first | decide | omega) (by first | decide | omega) (by assumption) ?_ (by with_unfolding_all rfl); k_whole)) | ((with_reducible show wpAny _ _ (call (Value.builtin "list.append") [Value.ref _, _]) _ _ _); k_dflt (refine app_at (by k_asm) (by k_asm) (by first | assumption | exact mem_put_self | exact mem_put (by first | assumption | exact mem_put_self | exact mem_put (by first | assumption | exact mem_put_self | exact mem_put (by assumption) (by ktr_unf)) (by ktr_unf)) (by ktr_unf)) (by ktr_units) ?_; k_whole); intro _ _ _; (try k_sweep)) | ((with_reducible show wpAny _ _ (getMethod (Value.ref _) (PySem.Str.ofString "append") _) _ _ _); k_dflt (refine listMethod_K (by k_asm) (by first | assumption | exact mem_put_self | exact mem_put (by first | assumption | exact mem_put_self | exact mem_put (by first | assumption | exact mem_put_self | exact mem_put (by assumption) (by ktr_unf)) (by ktr_unf)) (by ktr_unf)) PySem.F.slot_list_append PySem.F.type_list_append ?_)) | walk1 | ((with_reducible show wpAny _ _ (call (Value.builtin "list.append") [Value.ref _, _]) _ _ _); k_dflt (refine app_at (by k_asm) (by k_asm) (by k_mem) (by ktr_units) ?_; k_whole); intro _ _ _; (try k_sweep)) | (dsimp only; walk1) | fail "no step")))
      (rename Fr g L1 _ _ => F9); (rename News g L1 _ _ => N9)
      refine ⟨_, _, _, _, 10 - (ws.length + 1), rfl, F9, N9, by omega, ws ++ [_], ms' ++ [_], e + 1, _, _, by simp, mem_put_self, ints_snoc0 hwi _ _, by simp; omega, fun q hq => mem_put (hsub q hq) (Nat.ne_of_lt (l7 q hq)), rfl, rfl⟩
    · have hge : ¬ (ws.length : Int) < 10 := by omega
      (repeat' (first | (k_unfold; (try dsimp only)) | (refine unhide (by assumption) ?_; (try dsimp only)) | ((fail_if_success (with_reducible first | show wpAny _ _ (exec (Stmt.While _ _ _ _) _) _ _ _ | show wpAny _ _ (exec (Stmt.For _ _ _ _ _) _) _ _ _ | show wpAny _ _ (exec (Stmt.Assign _ (Expr.ListComp _ _ _ _) _) _) _ _ _ | show wpAny _ _ (eval (Expr.ListComp _ _ _ _) _) _ _ _ | show wpAny _ _ (call (Value.type "enumerate") _) _ _ _ | show wpAny _ _ (call (Value.type "zip") _) _ _ _ | refine stand_ref (by decide) ?_)); first | ((with_reducible first | (refine execs_one (by assumption) fun _ => ?_) | (refine execs_hid fun _ _ _ => ?_))) | ((with_reducible show wpAny _ _ (call (Value.builtin "len") [Value.ref _]) _ _ _); k_dflt (refine len_at (by k_asm) (by k_mem) (by ktr_units) ?_; k_whole); (try simp only [refs_length])) | ((with_reducible show wpAny _ _ (subscriptTail _ _ (Value.ref _) (Value.int _ _)) _ _ _); (with_unfolding_all refine item_litK (News.isList (by k_asm) (by k_mem)) (by first | decide | omega) (by first | decide | omega) (by assumption) ?_ (by with_unfolding_all rfl); k_whole)) | ((with_reducible show wpAny _ _ (call (Value.builtin "list.append") [Value.ref _, _]) _ _ _); k_dflt (refine app_at (by k_asm) (by k_asm) (by first | assumption | exact mem_put_self | exact mem_put (by first | assumption | exact mem_put_self | exact mem_put (by first | assumption | exact mem_put_self | exact mem_put (by assumption) (by ktr_unf)) (by ktr_unf)) (by ktr_unf)) (by ktr_units) ?_; k_whole); intro _ _ _; (try k_sweep)) | ((with_reducible show wpAny _ _ (getMethod (Value.ref _) (PySem.Str.ofString "append") _) _ _ _); k_dflt (refine listMethod_K (by k_asm) (by first | assumption | exact mem_put_self | exact mem_put (by first | assumption | exact mem_put_self | exact mem_put (by first | assumption | exact mem_put_self | exact mem_put (by assumption) (by ktr_unf)) (by ktr_unf)) (by ktr_unf)) PySem.F.slot_list_append PySem.F.type_list_append ?_)) | walk1 | ((with_reducible show wpAny _ _ (call (Value.builtin "list.append") [Value.ref _, _]) _ _ _); k_dflt (refine app_at (by k_asm) (by k_asm) (by k_mem) (by ktr_units) ?_; k_whole); intro _ _ _; (try k_sweep)) | (dsimp only; walk1) | fail "no step")))
      (rename Fr h₀ _ _ _ => kF); (rename News h₀ _ _ _ => kN)
      have hwl := hwi.length
      exact post D ws ms' e _ _ _ kF kN hsub hw l7 hwi (by omega) (by omega)
end

end
section
theorem small_nat (n : Nat) (h : n ≤ 100000) : Builtin.Range.small 0 (n : Int) 1 = true := small_one (by lia) (by lia) (by lia) (by lia)
theorem size_nat (n : Nat) : Builtin.Range.rangeSize 0 (n : Int) 1 = (n : Int) := by
  rw [rangeSize_one]
  split <;> lia
section
variable {prog : Program} {w : World} {A : Around} {E : Value → Shared → Prop} {s : Shared} {h₀ : Heap} {L : Addr} {m : Str → Option Value} {env : Env}
  {scope : Scope} {cl : List (Str × Addr)} {ifs : List PySem.Expr} {elt : PySem.Expr} {Fin : Shared → List (Addr × Obj) → Nat → (Nat → Bool) → (Nat → Value → Prop) → Prop} {news : List (Addr × Obj)}
/-- the source is a range -/
theorem src_range {x : Str} {px : Pos} {n : Nat} {t : Tok} (p : Nat → Bool) (G : Nat → Value → Prop) (hh : A.handled = none) (F : Fr h₀ L s.heap m) (N : News h₀ L s.heap news) (hsz : n ≤ 100000)
    (Qt : ∀ s₂ : Shared, (∃ h tk, s₂ = { s with heap := h, toks := tk }) → Quiet prog w A env scope cl ifs elt h₀ L m news s₂ n (fun i m => ∃ t, m x = some (.int (i : Nat) t)) p G)
    (fin : ∀ s₂ : Shared, (∃ h tk, s₂ = { s with heap := h, toks := tk }) → Fin s₂ news n p G) :
    wpAny (model prog w) A (call (.type "range") [.int (n : Nat) t]) (fun xv s₁ => wpAny (model prog w) A (pyIter xv) (CompAt prog w A env scope cl (.Name x px) ifs elt [x] h₀ L m Fin) E s₁) E s := by
  refine range1_rows F N fun h' tk t₁ u₁ v₁ hr F' N' hk => ?_
  refine wpAny_pyIter_range hr (small_nat n hsz) ?_
  dsimp only
  have W0 : Walks prog w A h'.objs.size [h'.objs.size] [h'.objs.size] n (fun i v => ∃ t, v = .int (0 + i * 1) t) (fun i h => IsRangeIter h h'.objs.size (0 + (i : Nat) * 1) ((n : Int) - (i : Nat)) 1) := Walks.range hh _ 0 1 n
  have up : ∀ b o, h'.get? b = some o → (h'.push { cls := .type "range_iterator", data := .fields #[.int 0 0, .int (Builtin.Range.rangeSize 0 (n : Int) 1) 0, .int 1 0] }).get? b = some o := fun b o e => Heap.get?_push_of_some _ e
  refine ⟨h'.objs.size, _, _, n, _, _, news, p, G, rfl, TSrc.name W0, hsz, ?_, (fun b hb => ?_), F'.push _, (fun p hp => ⟨Heap.get?_push_of_some _ (N' p hp).1, (N' p hp).2⟩), (fun q => ?_), (fun b hb => ?_), (fun q hq hb => ?_), ?_, fin _ ⟨_, _, rfl⟩⟩
  · show IsRangeIter _ _ _ _ _
    rw [size_nat]
    simpa using Heap.get?_push_size _ rfl
  · rw [List.mem_singleton.mp hb, Heap.size_push]; exact Nat.lt_succ_self _
  · exact absurd F'.ns.lt ((List.mem_singleton.mp q) ▸ Nat.lt_irrefl _)
  · rw [List.mem_singleton.mp hb]; exact next_is_new F'
  · exact absurd (Heap.lt_size (N' q hq).1) ((List.mem_singleton.mp hb) ▸ Nat.lt_irrefl _)
  · refine ⟨fun i C oC m₂ h tk E' hi hB => (Qt _ ⟨_, _, rfl⟩).tests i C oC m₂ h tk E' hi ?_, fun i C oC m₂ h tk E' hi hp hB => (Qt _ ⟨_, _, rfl⟩).elt i C oC m₂ h tk E' hi hp ?_⟩
    all_goals
      obtain ⟨v, ⟨t, rfl⟩, h1⟩ := hB
      refine ⟨t, ?_⟩
      rw [h1]
      have e : (0 : Int) + (i : Int) * 1 = i := by lia
      rw [e]
end
section
variable {prog : Program} {w : World} {A : Around} {E : Value → Shared → Prop} {s : Shared} {env : Env} {h₀ : Heap} {x : Str} {body : List Stmt} {Q : Flow → Shared → Prop}
/-- a loop over a range -/
theorem range_at {n : Nat} {t : Tok} {m₀ : Str → Option Value} {news : List (Addr × Obj)} (J : Nat → (Str → Option Value) → List (Addr × Obj) → Prop)
    (hh : A.handled = none) (hsz : n ≤ 100000) (F : Fr h₀ env.locals s.heap m₀) (N : News h₀ env.locals s.heap news) (hj : J 0 m₀ news)
    (turn : ∀ I i t m₁ news₁ h tk own, i < n → (∀ p ∈ news, p.1 ≠ I) → (∀ p ∈ own, p.1 = I) → (∀ p ∈ news₁, p.1 ≠ I) → J i m₁ news₁ →
      Fr h₀ env.locals h (fun y => if y = x then some (.int (i : Nat) t) else m₁ y) → News h₀ env.locals h (news₁ ++ own) →
      wpAny (model prog w) A (execs body env) (TurnEnd h₀ env.locals (J (i + 1)) I I own s Q) E { s with heap := h, toks := tk })
    (done : ∀ m₁ news₁ h tk, J n m₁ news₁ → Fr h₀ env.locals h m₁ → News h₀ env.locals h news₁ → Q .next { s with heap := h, toks := tk }) :
    wpAny (model prog w) A (call (.type "range") [.int (n : Nat) t]) (fun xv s₁ => wpAny (model prog w) A (pyIter xv) (fun it s₂ => LoopAtV prog w A h₀ env x body Q E it s₂) E s₁) E s := by
  refine range1_rows F N fun h' tk t₁ u₁ v₁ hr F' N' hk => ?_
  refine wpAny_pyIter_range hr (small_nat n hsz) ?_
  dsimp only
  have W0 : Walks prog w A h'.objs.size [h'.objs.size] [h'.objs.size] n (fun i v => i < n ∧ ∃ t, v = .int (0 + i * 1) t) (fun i h => IsRangeIter h h'.objs.size (0 + (i : Nat) * 1) ((n : Int) - (i : Nat)) 1) := (Walks.range hh _ 0 1 n).bound
  refine ⟨_, _, _, n, _, _, m₀, news, J, rfl, W0, ?_, ?_, ?_, (by show IsRangeIter _ _ _ _ _; rw [size_nat]; simpa using Heap.get?_push_size _ rfl), F'.push _, (fun p hp => ⟨Heap.get?_push_of_some _ (N' p hp).1, (N' p hp).2⟩), hj, ?_, ?_⟩
  · intro hm'
    exact absurd F'.ns.lt ((List.mem_singleton.mp hm') ▸ Nat.lt_irrefl _)
  · intro b hb
    rw [List.mem_singleton.mp hb]
    exact next_is_new F'
  · intro p hp hI
    exact absurd (Heap.lt_size (N' p hp).1) ((List.mem_singleton.mp hI) ▸ Nat.lt_irrefl _)
  · rintro i v m₁ news₁ s₁ own ⟨hh', tk', rfl⟩ hin ⟨_, tv, rfl⟩ hJ hoff hown _ _ _ F₁ N₁
    have N₂ : News h₀ env.locals hh' (news₁ ++ own) := fun p hp => N₁ p ((List.mem_append.mp hp).elim (fun h => List.mem_append.mpr (.inr h)) fun h => List.mem_append.mpr (.inl h))
    have e1 : (0 : Int) + (i : Int) * 1 = (i : Int) := by lia
    rw [e1] at F₁
    refine wpAny_mono (turn h'.objs.size i tv m₁ news₁ hh' tk' own hin (fun p hp e => ?_) (fun p hp => ?_) (fun p hp e => hoff p hp (List.mem_singleton.mpr e)) hJ F₁ N₂) (fun f s₂ p => ?_) fun _ _ e => e
    · exact absurd (Heap.lt_size (N' p hp).1) (e ▸ Nat.lt_irrefl _)
    · exact List.mem_singleton.mp (hown p hp)
    · have fin : (∃ h2 tk m' news' nx, s₂ = { s with heap := h2, toks := tk } ∧ Fr h₀ env.locals h2 m' ∧ News h₀ env.locals h2 news' ∧ (∀ p ∈ nx, p ∈ news') ∧ (∀ p ∈ own, p ∈ news') ∧ (∀ p ∈ nx, p.1 ≠ h'.objs.size) ∧ J (i + 1) m' nx) →
          LoopStepU h₀ env.locals [h'.objs.size] own (J (i + 1)) { s with heap := hh', toks := tk' } .next s₂ := by
        rintro ⟨h2, tk, m', news', nx, rfl, F', N', hn, ho, ha, hm'⟩
        exact ⟨rfl, h2, tk, m', nx, rfl, F', fun p hp => N' p ((List.mem_append.mp hp).elim (ho p) (hn p)), fun p hp hI => ha p hp (List.mem_singleton.mp hI), hm'⟩
      cases f with
      | ret v => exact .ret p
      | brk => exact .brk p
      | next => exact .next (fin p)
      | cont => exact .cont (fin p)
  · rintro h2 tk m' news' F' N' _ hJ
    exact done m' news' h2 tk hJ F' N'
end

end
section
section
variable {prog : Program} {w : World} {A : Around} {E : Value → Shared → Prop} {s : Shared} {env : Env} {h₀ : Heap} {x : Str} {body : List Stmt} {Q : Flow → Shared → Prop}

theorem iter_at2 {l : Addr} {vs : List Value} {n : Nat} {m₀ : Str → Option Value} {news : List (Addr × Obj)} (J : Nat → (Str → Option Value) → List (Addr × Obj) → Prop)
    (hh : A.handled = none) (N : News h₀ env.locals s.heap news) (hm : (l, W.listOf vs.toArray n) ∈ news) (F : Fr h₀ env.locals s.heap m₀) (hj : J 0 m₀ news)
    (turn : ∀ I i v m₁ news₁ h tk own, vs[i]? = some v → (∀ p ∈ news, p.1 ≠ I) → (∀ p ∈ own, p.1 = I ∨ p.1 = l) → (∀ p ∈ news₁, p.1 ≠ I) → (∃ o, (I, o) ∈ own ∧ ∀ vs q t, o.data = .fields vs → vs[1]? ≠ some (.str q t)) → J i m₁ news₁ →
      Fr h₀ env.locals h (fun y => if y = x then some v else m₁ y) → News h₀ env.locals h (news₁ ++ own) →
      wpAny (model prog w) A (execs body env) (TurnEnd h₀ env.locals (J (i + 1)) I l own s Q) E { s with heap := h, toks := tk })
    (done : ∀ m₁ news₁ h tk, J vs.length m₁ news₁ → Fr h₀ env.locals h m₁ → News h₀ env.locals h news₁ → Q .next { s with heap := h, toks := tk }) :
    wpAny (model prog w) A (pyIter (.ref l)) (fun it s₂ => LoopAtV prog w A h₀ env x body Q E it s₂) E s := by
  have hl : s.heap.IsList l vs.toArray := ⟨_, N.get hm, rfl, n, rfl⟩
  have hlt : l < s.heap.objs.size := Heap.lt_size (N.get hm)
  have hne : l ≠ s.heap.objs.size := Nat.ne_of_lt hlt
  refine wpAny_pyIter_list hl ?_
  have W := Walks.list (prog := prog) (w := w) hh s.heap.objs.size l hne vs.toArray
  have hlen : vs.toArray.size = vs.length := by simp
  rw [hlen] at W
  refine ⟨_, _, _, vs.length, _, _, m₀, news, J, rfl, W, ?_, ?_, ?_, ⟨⟨_, Heap.get?_push_size _ rfl, rfl, rfl⟩, hl.at fun o e => Heap.get?_push_of_some _ e⟩, F.push _, (fun p hp => ⟨Heap.get?_push_of_some _ (N p hp).1, (N p hp).2⟩), hj, ?_, ?_⟩
  · intro hm'
    rcases List.mem_cons.mp hm' with e | hm'
    · exact absurd F.ns.lt (e ▸ Nat.lt_irrefl _)
    · exact (N _ hm).2.1 (List.mem_singleton.mp hm').symm
  · intro b hb
    rw [List.mem_singleton.mp hb]
    exact next_is_new F
  · intro p hp hI
    exact absurd (Heap.lt_size (N p hp).1) ((List.mem_singleton.mp hI) ▸ Nat.lt_irrefl _)
  · rintro i v m₁ news₁ s₁ own ⟨hh', tk', rfl⟩ hin hP hJ hoff hown _ hall hst₁ F₁ N₁
    have hv : vs[i]? = some v := by simpa using hP
    have N₂ : News h₀ env.locals hh' (news₁ ++ own) := fun p hp => N₁ p ((List.mem_append.mp hp).elim (fun h => List.mem_append.mpr (.inr h)) fun h => List.mem_append.mpr (.inl h))
    refine wpAny_mono (turn s.heap.objs.size i v m₁ news₁ hh' tk' own hv (fun p hp e => ?_) (fun p hp => ?_) (fun p hp e => hoff p hp (List.mem_singleton.mpr e)) ?_ hJ F₁ N₂) (fun f s₂ p => ?_) fun _ _ e => e
    · exact absurd (Heap.lt_size (N p hp).1) (e ▸ Nat.lt_irrefl _)
    · rcases List.mem_cons.mp (hown p hp) with h | h
      · exact .inl h
      · exact .inr (List.mem_singleton.mp h)
    · obtain ⟨⟨oI, e1, _, e3⟩, _⟩ := hst₁
      refine ⟨oI, hall _ (List.mem_cons_self ..) (next_is_new F) oI e1, fun vs q t hd => ?_⟩
      rw [e3] at hd
      cases hd
      simp
    · have fin : (∃ h' tk m' news' nx, s₂ = { s with heap := h', toks := tk } ∧ Fr h₀ env.locals h' m' ∧ News h₀ env.locals h' news' ∧ (∀ p ∈ nx, p ∈ news') ∧ (∀ p ∈ own, p ∈ news') ∧ (∀ p ∈ nx, p.1 ≠ s.heap.objs.size) ∧ J (i + 1) m' nx) →
          LoopStepU h₀ env.locals [s.heap.objs.size] own (J (i + 1)) { s with heap := hh', toks := tk' } .next s₂ := by
        rintro ⟨h', tk, m', news', nx, rfl, F', N', hn, ho, ha, hm'⟩
        exact ⟨rfl, h', tk, m', nx, rfl, F', fun p hp => N' p ((List.mem_append.mp hp).elim (ho p) (hn p)), fun p hp hI => ha p hp (List.mem_singleton.mp hI), hm'⟩
      cases f with
      | ret v => exact .ret p
      | brk => exact .brk p
      | next => exact .next (fin p)
      | cont => exact .cont (fin p)
  · rintro h' tk m' news' F' N' _ hJ
    exact done m' news' h' tk hJ F' N'
/-- a loop over a range, its iterator in the own ledger -/
theorem range_at2 {n : Nat} {t : Tok} {m₀ : Str → Option Value} {news : List (Addr × Obj)} (J : Nat → (Str → Option Value) → List (Addr × Obj) → Prop)
    (hh : A.handled = none) (hsz : n ≤ 100000) (F : Fr h₀ env.locals s.heap m₀) (N : News h₀ env.locals s.heap news) (hj : J 0 m₀ news)
    (turn : ∀ I i t m₁ news₁ h tk own, i < n → (∀ p ∈ news, p.1 ≠ I) → (∀ p ∈ own, p.1 = I) → (∀ p ∈ news₁, p.1 ≠ I) → (∃ o, (I, o) ∈ own ∧ ∀ vs q t, o.data = .fields vs → vs[1]? ≠ some (.str q t)) → J i m₁ news₁ →
      Fr h₀ env.locals h (fun y => if y = x then some (.int (i : Nat) t) else m₁ y) → News h₀ env.locals h (news₁ ++ own) →
      wpAny (model prog w) A (execs body env) (TurnEnd h₀ env.locals (J (i + 1)) I I own s Q) E { s with heap := h, toks := tk })
    (done : ∀ m₁ news₁ h tk, J n m₁ news₁ → Fr h₀ env.locals h m₁ → News h₀ env.locals h news₁ → Q .next { s with heap := h, toks := tk }) :
    wpAny (model prog w) A (call (.type "range") [.int (n : Nat) t]) (fun xv s₁ => wpAny (model prog w) A (pyIter xv) (fun it s₂ => LoopAtV prog w A h₀ env x body Q E it s₂) E s₁) E s := by
  refine range1_rows F N fun h' tk t₁ u₁ v₁ hr F' N' hk => ?_
  refine wpAny_pyIter_range hr (small_nat n hsz) ?_
  dsimp only
  have W0 : Walks prog w A h'.objs.size [h'.objs.size] [h'.objs.size] n (fun i v => i < n ∧ ∃ t, v = .int (0 + i * 1) t) (fun i h => IsRangeIter h h'.objs.size (0 + (i : Nat) * 1) ((n : Int) - (i : Nat)) 1) := (Walks.range hh _ 0 1 n).bound
  refine ⟨_, _, _, n, _, _, m₀, news, J, rfl, W0, ?_, ?_, ?_, (by show IsRangeIter _ _ _ _ _; rw [size_nat]; simpa using Heap.get?_push_size _ rfl), F'.push _, (fun p hp => ⟨Heap.get?_push_of_some _ (N' p hp).1, (N' p hp).2⟩), hj, ?_, ?_⟩
  · intro hm'
    exact absurd F'.ns.lt ((List.mem_singleton.mp hm') ▸ Nat.lt_irrefl _)
  · intro b hb
    rw [List.mem_singleton.mp hb]
    exact next_is_new F'
  · intro p hp hI
    exact absurd (Heap.lt_size (N' p hp).1) ((List.mem_singleton.mp hI) ▸ Nat.lt_irrefl _)
  · rintro i v m₁ news₁ s₁ own ⟨hh', tk', rfl⟩ hin ⟨_, tv, rfl⟩ hJ hoff hown _ hall hst₁ F₁ N₁
    have N₂ : News h₀ env.locals hh' (news₁ ++ own) := fun p hp => N₁ p ((List.mem_append.mp hp).elim (fun h => List.mem_append.mpr (.inr h)) fun h => List.mem_append.mpr (.inl h))
    have e1 : (0 : Int) + (i : Int) * 1 = (i : Int) := by lia
    rw [e1] at F₁
    refine wpAny_mono (turn h'.objs.size i tv m₁ news₁ hh' tk' own hin (fun p hp e => ?_) (fun p hp => ?_) (fun p hp e => hoff p hp (List.mem_singleton.mpr e)) ?_ hJ F₁ N₂) (fun f s₂ p => ?_) fun _ _ e => e
    · exact absurd (Heap.lt_size (N' p hp).1) (e ▸ Nat.lt_irrefl _)
    · exact List.mem_singleton.mp (hown p hp)
    · refine ⟨_, hall _ (List.mem_cons_self ..) (next_is_new F') _ hst₁, fun vs q t hd => ?_⟩
      cases hd
      simp [rawInt]
    · have fin : (∃ h2 tk m' news' nx, s₂ = { s with heap := h2, toks := tk } ∧ Fr h₀ env.locals h2 m' ∧ News h₀ env.locals h2 news' ∧ (∀ p ∈ nx, p ∈ news') ∧ (∀ p ∈ own, p ∈ news') ∧ (∀ p ∈ nx, p.1 ≠ h'.objs.size) ∧ J (i + 1) m' nx) →
          LoopStepU h₀ env.locals [h'.objs.size] own (J (i + 1)) { s with heap := hh', toks := tk' } .next s₂ := by
        rintro ⟨h2, tk, m', news', nx, rfl, F', N', hn, ho, ha, hm'⟩
        exact ⟨rfl, h2, tk, m', nx, rfl, F', fun p hp => N' p ((List.mem_append.mp hp).elim (ho p) (hn p)), fun p hp hI => ha p hp (List.mem_singleton.mp hI), hm'⟩
      cases f with
      | ret v => exact .ret p
      | brk => exact .brk p
      | next => exact .next (fin p)
      | cont => exact .cont (fin p)
  · rintro h2 tk m' news' F' N' _ hJ
    exact done m' news' h2 tk hJ F' N'
end

end
section
/-- sizes -/
structure Sz (d : Dt) (c : Nat) : Prop where
  ups : d.ups.length ≤ c
  g : ∀ i, (gstAt d i).length ≤ 10 + c
  lo : 0 < d.gst.length
  hi : d.gst.length ≤ 2
theorem Sz.mono {d : Dt} {c c' : Nat} (h : Sz d c) (k : c ≤ c') : Sz d c' := ⟨Nat.le_trans h.ups k, fun i => by have := h.g i; lia, h.lo, h.hi⟩

/-- the stacks changed alike, the variables as they were -/
theorem stack_keep {d d' : Dt} (hw : Wf d) (hI : Inv d) (eo : d'.opn = d.opn) (eu : d'.ups = d.ups) (ek : d'.kn = d.kn) (ec : d'.cel = d.cel) (em : d'.mst = d'.gst) (eg : d'.gst.length = d.gst.length)
    (hl : ∀ j, (gstAt d j).length ≤ (gstAt d' j).length) (hf : ∀ j, (gstAt d' j).length ≤ 300) : Wf d' ∧ Inv d' := by
  have u : ∀ k, upAt d' k = upAt d k := fun k => by unfold upAt; rw [eu]
  have c : ∀ k, celAt d' k = celAt d k := fun k => by unfold celAt; rw [ec]
  have o : ∀ i, opnAt d' i = opnAt d i := fun i => by unfold opnAt; rw [eo]
  have x : ∀ i, ixsAt d' i = ixsAt d i := fun i => by unfold ixsAt; rw [o]; exact List.map_congr_left fun k _ => by rw [u]
  have mg : ∀ j, mstAt d' j = gstAt d' j := fun j => by unfold mstAt gstAt; rw [em]
  refine ⟨⟨?_, ?_, ?_, ?_, ?_, ?_, ?_, ?_, ?_, ?_, ?_, ?_, ?_⟩, ⟨em, ?_, ?_, ?_, ?_, ?_, ?_, ?_⟩⟩
  · rw [eo, eg]; exact hw.n2
  · rw [em]
  · rw [ek, eu]; exact hw.kn
  · rw [ec, ek]; exact hw.ck
  · rw [eu]; exact hw.few
  · rw [eg]; exact hw.gfew
  · intro i; rw [o]; exact hw.ofew i
  · exact hf
  · intro i; rw [mg]; exact hf i
  · intro i k hk; rw [o] at hk; rw [eu]; exact hw.ok i k hk
  · intro i k hk
    rw [o] at hk
    obtain ⟨a, b, c', d''⟩ := hw.op i k hk
    rw [u]
    exact ⟨a, b, by have := hl i; lia, d''⟩
  · intro i; rw [o]; exact hw.nd i
  · intro k hk g hg
    rw [eu] at hk; rw [u] at hg; rw [eg]
    exact hw.th k hk g hg
  · rw [ek, eu]; exact hI.kn
  · intro k hk
    rw [ec] at hk
    rw [c, eg]
    obtain ⟨a, b⟩ := hI.cw k hk
    exact ⟨a, Nat.lt_of_lt_of_le b (hl _)⟩
  · intro k hk h
    rw [ec] at hk
    rw [c] at h
    rw [c, u, o]; exact hI.co k hk h
  · intro k hk h
    rw [ec] at hk
    rw [c] at h
    rw [c, u]; exact hI.cc k hk h
  · intro i k hk
    rw [o] at hk
    rw [c]; exact hI.oc i k hk
  · intro i; rw [x]; exact hI.srt i
  · intro i hi
    rw [eg] at hi
    exact Nat.lt_of_lt_of_le (hI.pos i hi) (hl i)

theorem gstAt_wrote {d : Dt} {i pl j : Nat} {x : Int} (hi : i < d.gst.length) : gstAt (wrote d i pl x) j = if j = i then (gstAt d i).set pl x else gstAt d j := gstAt_setG hi
theorem wrote_keep {d : Dt} (hw : Wf d) (hI : Inv d) {i pl c : Nat} {x : Int} (hi : i < d.gst.length) (hs : Sz d c) : Wf (wrote d i pl x) ∧ Inv (wrote d i pl x) ∧ Sz (wrote d i pl x) c := by
  have em : (wrote d i pl x).mst = (wrote d i pl x).gst := by
    have : mstAt d i = gstAt d i := by unfold mstAt gstAt; rw [hI.mir]
    simp only [wrote, setM, setG]
    rw [this, hI.mir]
  have el : ∀ j, (gstAt (wrote d i pl x) j).length = (gstAt d j).length := fun j => by
    rw [gstAt_wrote hi]
    split
    · rename_i e; subst e; simp
    · rfl
  have eg : (wrote d i pl x).gst.length = d.gst.length := by simp [wrote, setM, setG]
  obtain ⟨a, b⟩ := stack_keep hw hI (d' := wrote d i pl x) rfl rfl rfl rfl em eg (fun j => by rw [el]; exact Nat.le_refl _) (fun j => by rw [el]; exact hw.gfit j)
  exact ⟨a, b, hs.ups, fun j => by rw [el]; exact hs.g j, by rw [eg]; exact hs.lo, by rw [eg]; exact hs.hi⟩
theorem gstAt_pushed {d : Dt} {i j : Nat} {x : Int} (hi : i < d.gst.length) : gstAt (pushed d i x) j = if j = i then gstAt d i ++ [x] else gstAt d j := gstAt_setG hi
theorem pushed_keep {d : Dt} (hw : Wf d) (hI : Inv d) {i c : Nat} {x : Int} (hi : i < d.gst.length) (hs : Sz d c) (hc : c < 60) : Wf (pushed d i x) ∧ Inv (pushed d i x) ∧ Sz (pushed d i x) (c + 1) := by
  have em : (pushed d i x).mst = (pushed d i x).gst := by
    have : mstAt d i = gstAt d i := by unfold mstAt gstAt; rw [hI.mir]
    simp only [pushed, setM, setG]
    rw [this, hI.mir]
  have el : ∀ j, (gstAt d j).length ≤ (gstAt (pushed d i x) j).length ∧ (gstAt (pushed d i x) j).length ≤ (gstAt d j).length + 1 := fun j => by
    rw [gstAt_pushed hi]
    split
    · rename_i e; subst e; simp
    · exact ⟨Nat.le_refl _, Nat.le_succ _⟩
  have eg : (pushed d i x).gst.length = d.gst.length := by simp [pushed, setM, setG]
  obtain ⟨a, b⟩ := stack_keep hw hI (d' := pushed d i x) rfl rfl rfl rfl em eg (fun j => (el j).1) (fun j => by have := (el j).2; have := hs.g j; lia)
  exact ⟨a, b, Nat.le_succ_of_le hs.ups, fun j => by have := (el j).2; have := hs.g j; lia, by rw [eg]; exact hs.lo, by rw [eg]; exact hs.hi⟩

/-- the variables changed, the stacks as they were -/
theorem ups_keep {d d' : Dt} (hw : Wf d) (hI : Inv d) (eg : d'.gst = d.gst) (em : d'.mst = d.mst) (hn : d'.opn.length = d.opn.length) (hku : d'.kn = d'.ups.length) (hck : d'.cel.length = d'.kn) (hf : d'.ups.length ≤ 300)
    (ho : ∀ i, (opnAt d' i).length ≤ 300) (hok : ∀ i k, k ∈ opnAt d' i → k < d'.ups.length)
    (hop : ∀ i k, k ∈ opnAt d' i → (upAt d' k).th = some i ∧ 0 ≤ (upAt d' k).ix ∧ (upAt d' k).ix < (gstAt d i).length ∧ (upAt d' k).vl = none)
    (hnd : ∀ i, (opnAt d' i).Nodup) (hth : ∀ k, k < d'.ups.length → ∀ g, (upAt d' k).th = some g → g < d.gst.length)
    (cw : ∀ k, k < d'.cel.length → (celAt d' k).wh < d.gst.length ∧ (celAt d' k).pl < (gstAt d (celAt d' k).wh).length)
    (co : ∀ k, k < d'.cel.length → (celAt d' k).op = true → (upAt d' k).th = some (celAt d' k).wh ∧ (upAt d' k).ix = (celAt d' k).pl ∧ k ∈ opnAt d' (celAt d' k).wh)
    (cc : ∀ k, k < d'.cel.length → (celAt d' k).op = false → (upAt d' k).th = none ∧ (upAt d' k).vl = (celAt d' k).vl ∧ ∃ v, (celAt d' k).vl = some v)
    (oc : ∀ i k, k ∈ opnAt d' i → (celAt d' k).op = true ∧ (celAt d' k).wh = i) (srt : ∀ i, (ixsAt d' i).Pairwise (· > ·)) : Wf d' ∧ Inv d' := by
  have g : ∀ i, gstAt d' i = gstAt d i := fun i => by unfold gstAt; rw [eg]
  have m : ∀ i, mstAt d' i = mstAt d i := fun i => by unfold mstAt; rw [em]
  refine ⟨⟨?_, ?_, ?_, ?_, ?_, ?_, ?_, ?_, ?_, ?_, ?_, ?_, ?_⟩, ⟨?_, ?_, ?_, ?_, ?_, ?_, ?_, ?_⟩⟩
  · rw [hn, eg]; exact hw.n2
  · rw [em, eg]; exact hw.nm
  · rw [hku]; exact Nat.le_refl _
  · exact hck
  · exact hf
  · rw [eg]; exact hw.gfew
  · exact ho
  · intro i; rw [g]; exact hw.gfit i
  · intro i; rw [m]; exact hw.mfit i
  · exact hok
  · intro i k hk; rw [g]; exact hop i k hk
  · exact hnd
  · intro k hk q hq; rw [eg]; exact hth k hk q hq
  · rw [em, eg]; exact hI.mir
  · exact hku
  · intro k hk; rw [eg, g]; exact cw k hk
  · exact co
  · exact cc
  · exact oc
  · exact srt
  · intro i hi
    rw [eg] at hi
    rw [g]; exact hI.pos i hi

theorem setShut_keep {d : Dt} (hw : Wf d) (hI : Inv d) {k c : Nat} {x : Int} (hk : k < d.ups.length) (hc : (celAt d k).op = false) (hs : Sz d c) : Wf (setShut d k x) ∧ Inv (setShut d k x) ∧ Sz (setShut d k x) c := by
  have hkc : k < d.cel.length := by rw [celLen hw hI]; exact hk
  have eu : ∀ j, upAt (setShut d k x) j = if j = k then ⟨(upAt d k).th, (upAt d k).ix, some x⟩ else upAt d j := fun j => upAt_setU hk
  have ec : ∀ j, celAt (setShut d k x) j = if j = k then ⟨(celAt d k).wh, (celAt d k).pl, (celAt d k).op, some x⟩ else celAt d j := fun j => celAt_set (d := setU d k _) hkc
  have lu : (setShut d k x).ups.length = d.ups.length := by simp [setShut, setCel, setU]
  have lc : (setShut d k x).cel.length = d.cel.length := by simp [setShut, setCel, setU]
  have eo : ∀ i, opnAt (setShut d k x) i = opnAt d i := fun i => rfl
  have nk : ∀ i j, j ∈ opnAt d i → j ≠ k := fun i j hj e => by
    have := (hI.oc i j hj).1
    rw [e, hc] at this; cases this
  have ew : ∀ j, (celAt (setShut d k x) j).wh = (celAt d j).wh ∧ (celAt (setShut d k x) j).pl = (celAt d j).pl ∧ (celAt (setShut d k x) j).op = (celAt d j).op := fun j => by
    rw [ec]; split
    · rename_i e; subst e; exact ⟨rfl, rfl, rfl⟩
    · exact ⟨rfl, rfl, rfl⟩
  have et : ∀ j, (upAt (setShut d k x) j).th = (upAt d j).th ∧ (upAt (setShut d k x) j).ix = (upAt d j).ix := fun j => by
    rw [eu]; split
    · rename_i e; subst e; exact ⟨rfl, rfl⟩
    · exact ⟨rfl, rfl⟩
  have hkn := hI.kn
  obtain ⟨a, b⟩ := ups_keep hw hI (d' := setShut d k x) rfl rfl rfl (by rw [lu]; exact hkn) (by rw [lc]; exact hw.ck) (by rw [lu]; exact hw.few) hw.ofew (fun i j hj => by rw [lu]; exact hw.ok i j hj)
    (fun i j hj => by rw [eu, if_neg (nk i j hj)]; exact hw.op i j hj) hw.nd (fun j hj g hg => by rw [lu] at hj; rw [(et j).1] at hg; exact hw.th j hj g hg)
    (fun j hj => by rw [lc] at hj; obtain ⟨h1, h2, h3⟩ := ew j; rw [h1, h2]; exact hI.cw j hj)
    (fun j hj h => by rw [lc] at hj; obtain ⟨h1, h2, h3⟩ := ew j; obtain ⟨h4, h5⟩ := et j; rw [h3] at h; rw [h1, h2, h4, h5]; exact hI.co j hj h)
    (fun j hj h => by
      rw [lc] at hj
      obtain ⟨h1, h2, h3⟩ := ew j
      rw [h3] at h
      obtain ⟨c1, c2, c3⟩ := hI.cc j hj h
      rw [(et j).1]
      refine ⟨c1, ?_⟩
      rw [eu, ec]
      by_cases e : j = k
      · rw [if_pos e, if_pos e]; exact ⟨rfl, x, rfl⟩
      · rw [if_neg e, if_neg e]; exact ⟨c2, c3⟩)
    (fun i j hj => by obtain ⟨h1, h2, h3⟩ := ew j; rw [h1, h3]; exact hI.oc i j hj)
    (fun i => by
      have : ixsAt (setShut d k x) i = ixsAt d i := List.map_congr_left fun j _ => (et j).2
      rw [this]; exact hI.srt i)
  exact ⟨a, b, by rw [lu]; exact hs.ups, hs.g, hs.lo, hs.hi⟩

theorem shutAll_keep {d : Dt} (hw : Wf d) (hI : Inv d) {i c : Nat} {lv : Nat} (hi : i < d.gst.length) (hs : Sz d c) : Wf (shutAll d i lv) ∧ Inv (shutAll d i lv) ∧ Sz (shutAll d i lv) c := by
  have hopn : i < d.opn.length := by rw [hw.n2]; exact hi
  generalize hn : take0 (lv : Int) (ixsAt d i) = n
  generalize hks : (opnAt d i).take n = ks
  have hd' : shutAll d i lv = closeCels (shut d i n) i ks := by unfold shutAll; rw [hn, hks]
  rw [hd']
  obtain ⟨e1, e2, e3, e4, e5, e6⟩ := closeCels_same (i := i) ks (shut d i n)
  have mks : ∀ k ∈ ks, k ∈ opnAt d i := fun k hk => by rw [← hks] at hk; exact List.mem_of_mem_take hk
  have lks : ∀ k ∈ ks, k < d.ups.length := fun k hk => hw.ok i k (mks k hk)
  have lkc : ∀ k ∈ ks, k < (shut d i n).cel.length := fun k hk => by show k < d.cel.length; rw [celLen hw hI]; exact lks k hk
  have lu : (closeCels (shut d i n) i ks).ups.length = d.ups.length := by rw [e3]; simp [shut]
  have lc : (closeCels (shut d i n) i ks).cel.length = d.cel.length := e6
  have kn : (closeCels (shut d i n) i ks).kn = d.kn := e4
  have eg : (closeCels (shut d i n) i ks).gst = d.gst := e1
  have em : (closeCels (shut d i n) i ks).mst = d.mst := e5
  have u : ∀ k, k < d.ups.length → upAt (closeCels (shut d i n) i ks) k = if k ∈ ks then closed d i k else upAt d k := fun k hk => by
    have : upAt (closeCels (shut d i n) i ks) k = upAt (shut d i n) k := by unfold upAt; rw [e3]
    rw [this, upAt_shut hk, hks]
  have cl : ∀ k, celAt (closeCels (shut d i n) i ks) k = if k ∈ ks then ⟨(celAt d k).wh, (celAt d k).pl, false, some ((mstAt d i).getD (celAt d k).pl 0)⟩ else celAt d k := fun k => celAt_closeCels ks (shut d i n) k lkc
  have os : opnAt (closeCels (shut d i n) i ks) i = (opnAt d i).drop n := by
    have : opnAt (closeCels (shut d i n) i ks) i = opnAt (shut d i n) i := by unfold opnAt; rw [e2]
    rw [this, opnAt_shut_self hopn]
  have on : ∀ j, j ≠ i → opnAt (closeCels (shut d i n) i ks) j = opnAt d j := fun j hj => by
    have : opnAt (closeCels (shut d i n) i ks) j = opnAt (shut d i n) j := by unfold opnAt; rw [e2]
    rw [this, opnAt_shut hj]
  have nd := hw.nd i
  rw [← List.take_append_drop n (opnAt d i), hks] at nd
  have nd3 := List.nodup_append.mp nd
  -- a member of a row left is not among the closed
  have left : ∀ j k, k ∈ opnAt (closeCels (shut d i n) i ks) j → k ∈ opnAt d j ∧ k ∉ ks := fun j k hk => by
    by_cases e : j = i
    · subst e
      rw [os] at hk
      exact ⟨List.mem_of_mem_drop hk, fun h => nd3.2.2 k h k hk rfl⟩
    · rw [on j e] at hk
      refine ⟨hk, fun h => e ?_⟩
      have h1 := (hI.oc j k hk).2
      have h2 := (hI.oc i k (mks k h)).2
      rw [← h1, h2]
  have wp : ∀ k, (celAt (closeCels (shut d i n) i ks) k).wh = (celAt d k).wh ∧ (celAt (closeCels (shut d i n) i ks) k).pl = (celAt d k).pl := fun k => by
    rw [cl]; split <;> exact ⟨rfl, rfl⟩
  have hms : ∀ j, mstAt d j = gstAt d j := fun j => by unfold mstAt gstAt; rw [hI.mir]
  have len : ∀ j, (opnAt (closeCels (shut d i n) i ks) j).length ≤ (opnAt d j).length := fun j => by
    by_cases e : j = i
    · subst e; rw [os, List.length_drop]; lia
    · rw [on j e]; exact Nat.le_refl _
  obtain ⟨a, b⟩ := ups_keep hw hI (d' := closeCels (shut d i n) i ks) eg em (by rw [e2]; simp [shut]) (by rw [kn, lu]; exact hI.kn) (by rw [lc, kn]; exact hw.ck) (by rw [lu]; exact hw.few)
    (fun j => Nat.le_trans (len j) (hw.ofew j)) (fun j k hk => by rw [lu]; exact hw.ok j k (left j k hk).1)
    (fun j k hk => by
      obtain ⟨h1, h2⟩ := left j k hk
      rw [u k (hw.ok j k h1), if_neg h2]; exact hw.op j k h1)
    (fun j => by
      by_cases e : j = i
      · subst e; rw [os]; exact nd3.2.1
      · rw [on j e]; exact hw.nd j)
    (fun k hk g hg => by
      rw [lu] at hk
      rw [u k hk] at hg
      split at hg
      · cases hg
      · exact hw.th k hk g hg)
    (fun k hk => by rw [lc] at hk; obtain ⟨h1, h2⟩ := wp k; rw [h1, h2]; exact hI.cw k hk)
    (fun k hk h => by
      rw [lc] at hk
      have hku : k < d.ups.length := by rw [← celLen hw hI]; exact hk
      rw [cl] at h ⊢
      by_cases e : k ∈ ks
      · rw [if_pos e] at h; cases h
      · rw [if_neg e] at h ⊢
        obtain ⟨h1, h2, h3⟩ := hI.co k hk h
        rw [u k hku, if_neg e]
        refine ⟨h1, h2, ?_⟩
        by_cases e' : (celAt d k).wh = i
        · rw [e'] at h3 ⊢
          rw [os]
          rw [← List.take_append_drop n (opnAt d i), hks] at h3
          rcases List.mem_append.mp h3 with h3 | h3
          · exact absurd h3 e
          · exact h3
        · rw [on _ e']; exact h3)
    (fun k hk h => by
      rw [lc] at hk
      have hku : k < d.ups.length := by rw [← celLen hw hI]; exact hk
      rw [cl] at h ⊢
      by_cases e : k ∈ ks
      · rw [if_pos e, u k hku, if_pos e]
        refine ⟨rfl, ?_, _, rfl⟩
        obtain ⟨h1, h2⟩ := hI.oc i k (mks k e)
        have h3 := (hI.co k hk h1).2.1
        show some _ = some _
        rw [h3, hms]; rfl
      · rw [if_neg e] at h ⊢
        rw [u k hku, if_neg e]; exact hI.cc k hk h)
    (fun j k hk => by
      obtain ⟨h1, h2⟩ := left j k hk
      rw [cl, if_neg h2]; exact hI.oc j k h1)
    (fun j => by
      have hmap : ixsAt (closeCels (shut d i n) i ks) j = (opnAt (closeCels (shut d i n) i ks) j).map fun k => (upAt d k).ix := List.map_congr_left fun k hk => by
        obtain ⟨h1, h2⟩ := left j k hk
        rw [u k (hw.ok j k h1), if_neg h2]
      rw [hmap]
      by_cases e : j = i
      · subst e
        rw [os]
        exact (hI.srt j).sublist ((List.drop_sublist _ _).map _)
      · rw [on j e]; exact hI.srt j)
  have hg : ∀ j, gstAt (closeCels (shut d i n) i ks) j = gstAt d j := fun j => by unfold gstAt; rw [eg]
  exact ⟨a, b, by rw [lu]; exact hs.ups, fun j => by rw [hg]; exact hs.g j, by rw [eg]; exact hs.lo, by rw [eg]; exact hs.hi⟩

end
section
theorem take_lead {p : Int} : ∀ {l : List Int}, ∀ x ∈ l.take (lead p l), p < x
  | [], x, h => by simp at h
  | a :: r, x, h => by
    by_cases e : p < a
    · have : lead p (a :: r) = lead p r + 1 := by simp [lead, e]
      rw [this, List.take_succ_cons] at h
      rcases List.mem_cons.mp h with rfl | h
      · exact e
      · exact take_lead x h
    · have : lead p (a :: r) = 0 := by simp [lead, e]
      rw [this] at h; simp at h
theorem drop_lead {p : Int} : ∀ {l : List Int}, l.Pairwise (· > ·) → ∀ x ∈ l.drop (lead p l), x ≤ p
  | [], _, x, h => by simp at h
  | a :: r, hp, x, h => by
    obtain ⟨h1, h2⟩ := List.pairwise_cons.mp hp
    by_cases e : p < a
    · have : lead p (a :: r) = lead p r + 1 := by simp [lead, e]
      rw [this, List.drop_succ_cons] at h
      exact drop_lead h2 x h
    · have : lead p (a :: r) = 0 := by simp [lead, e]
      rw [this, List.drop_zero] at h
      rcases List.mem_cons.mp h with rfl | h
      · lia
      · have := h1 x h; lia
theorem drop_lead' {p : Int} {l : List Int} (hp : l.Pairwise (· > ·)) (hn : l[lead p l]? ≠ some p) : ∀ x ∈ l.drop (lead p l), x < p := fun x hx => by
  have h1 := drop_lead hp x hx
  rcases Int.lt_or_eq_of_le h1 with h | h
  · exact h
  · exfalso
    subst h
    obtain ⟨j, hj⟩ := List.mem_iff_getElem?.mp hx
    rw [List.getElem?_drop] at hj
    cases j with
    | zero => exact hn hj
    | succ j =>
      have hlt := (List.getElem?_eq_some_iff.mp hj).1
      have hlt0 : lead x l < l.length := by lia
      have h3 := List.pairwise_iff_getElem.mp hp (lead x l) (lead x l + (j + 1)) hlt0 hlt (by lia)
      have h4 : l[lead x l + (j + 1)] = x := (List.getElem?_eq_some_iff.mp hj).2
      have h5 : l[lead x l] ∈ l.drop (lead x l) := List.mem_iff_getElem?.mpr ⟨0, by rw [List.getElem?_drop]; simp⟩
      have h6 := drop_lead hp _ h5
      lia
theorem ixs_get {d : Dt} {i n k : Nat} (h : (opnAt d i)[n]? = some k) : (ixsAt d i)[n]? = some (upAt d k).ix := by unfold ixsAt; simp [h]
theorem ixs_inj {d : Dt} (hI : Inv d) {i a b : Nat} (ha : a ∈ opnAt d i) (hb : b ∈ opnAt d i) (e : (upAt d a).ix = (upAt d b).ix) : a = b := by
  obtain ⟨x, hx⟩ := List.mem_iff_getElem?.mp ha
  obtain ⟨y, hy⟩ := List.mem_iff_getElem?.mp hb
  obtain ⟨hx1, hx2⟩ := List.getElem?_eq_some_iff.mp (ixs_get hx)
  obtain ⟨hy1, hy2⟩ := List.getElem?_eq_some_iff.mp (ixs_get hy)
  rcases Nat.lt_trichotomy x y with h | h | h
  · have := List.pairwise_iff_getElem.mp (hI.srt i) x y hx1 hy1 h; lia
  · subst h; rw [hx] at hy; exact Option.some.inj hy
  · have := List.pairwise_iff_getElem.mp (hI.srt i) y x hy1 hx1 h; lia
theorem mem_oo {d : Dt} (hw : Wf d) (hI : Inv d) {i place k : Nat} : k ∈ oo d i place ↔ k ∈ opnAt d i ∧ (upAt d k).ix = place := by
  unfold oo
  rw [List.mem_filter, List.mem_range]
  constructor
  · rintro ⟨hk, hb⟩
    simp only [Bool.and_eq_true, beq_iff_eq] at hb
    obtain ⟨h1, h2, h3⟩ := hI.co k hk hb.1
    rw [hb.2.1] at h3
    exact ⟨h3, by rw [h2, hb.2.2]⟩
  · rintro ⟨hk, hb⟩
    obtain ⟨h1, h2⟩ := hI.oc i k hk
    have hc : k < d.cel.length := by rw [celLen hw hI]; exact hw.ok i k hk
    obtain ⟨_, h3, _⟩ := hI.co k hc h1
    refine ⟨hc, ?_⟩
    simp only [Bool.and_eq_true, beq_iff_eq]
    exact ⟨h1, h2, by lia⟩
theorem ask_old {d : Dt} (hw : Wf d) (hI : Inv d) {i place : Nat} : ∀ k, (opnAt d i)[lead place (ixsAt d i)]? = some k → (upAt d k).ix = place → k < d.kn ∧ ∃ r, oo d i place = k :: r := fun k hk he => by
  have hm := List.mem_of_getElem? hk
  refine ⟨by rw [hI.kn]; exact hw.ok i k hm, ?_⟩
  have h1 : k ∈ oo d i place := (mem_oo hw hI).mpr ⟨hm, he⟩
  cases e : oo d i place with
  | nil => rw [e] at h1; cases h1
  | cons a r =>
    have ha : a ∈ oo d i place := by rw [e]; exact List.mem_cons_self ..
    obtain ⟨h2, h3⟩ := (mem_oo hw hI).mp ha
    have := ixs_inj hI h2 hm (by rw [h3, he])
    subst this
    exact ⟨r, rfl⟩
theorem ask_none {d : Dt} (hw : Wf d) (hI : Inv d) {i place : Nat} (hn : ∀ k, (opnAt d i)[lead place (ixsAt d i)]? = some k → (upAt d k).ix ≠ place) : (ixsAt d i)[lead place (ixsAt d i)]? ≠ some (place : Int) := fun e => by
  cases e2 : (opnAt d i)[lead place (ixsAt d i)]? with
  | none =>
    unfold ixsAt at e e2
    rw [List.getElem?_map, e2] at e; cases e
  | some k =>
    rw [ixs_get e2] at e
    exact hn k e2 (Option.some.inj e)
theorem ask_new {d : Dt} (hw : Wf d) (hI : Inv d) {i place : Nat} (hn : ∀ k, (opnAt d i)[lead place (ixsAt d i)]? = some k → (upAt d k).ix ≠ place) : oo d i place = [] ∧ d.kn = d.ups.length := by
  refine ⟨?_, hI.kn⟩
  cases e : oo d i place with
  | nil => rfl
  | cons a r =>
    exfalso
    have ha : a ∈ oo d i place := by rw [e]; exact List.mem_cons_self ..
    obtain ⟨h2, h3⟩ := (mem_oo hw hI).mp ha
    have hm : (place : Int) ∈ ixsAt d i := by
      rw [← h3]; exact List.mem_map_of_mem h2
    rw [← List.take_append_drop (lead place (ixsAt d i)) (ixsAt d i)] at hm
    rcases List.mem_append.mp hm with h | h
    · have := take_lead _ h; lia
    · have := drop_lead' (hI.srt i) (ask_none hw hI hn) _ h; lia

theorem askNew_keep {d : Dt} (hw : Wf d) (hI : Inv d) {i place c : Nat} (hi : i < d.gst.length) (hpl : place < (gstAt d i).length) (hs : Sz d c) (hc : c < 60)
    (hn : ∀ k, (opnAt d i)[lead place (ixsAt d i)]? = some k → (upAt d k).ix ≠ place) : Wf (askNew d i place) ∧ Inv (askNew d i place) ∧ Sz (askNew d i place) (c + 1) := by
  have hopn : i < d.opn.length := by rw [hw.n2]; exact hi
  have hkn := hI.kn
  have hcl := celLen hw hI
  have hcups := hs.ups
  generalize hnn : lead (place : Int) (ixsAt d i) = n at *
  have hd' : askNew d i place = addCel { addUp d i place n with kn := d.kn + 1 } ⟨i, place, true, none⟩ := by unfold askNew; rw [hnn]
  rw [hd']
  generalize hdd : addCel { addUp d i place n with kn := d.kn + 1 } ⟨i, place, true, none⟩ = d'
  have eg : d'.gst = d.gst := by rw [← hdd]; rfl
  have em : d'.mst = d.mst := by rw [← hdd]; rfl
  have lu : d'.ups.length = d.ups.length + 1 := by rw [← hdd]; simp [addCel, addUp]
  have lc : d'.cel.length = d.cel.length + 1 := by rw [← hdd]; simp [addCel, addUp]
  have kn : d'.kn = d.kn + 1 := by rw [← hdd]; rfl
  have u : ∀ k, k < d.ups.length → upAt d' k = upAt d k := fun k hk => by rw [← hdd]; exact upAt_add (n := n) hk
  have un : upAt d' d.ups.length = ⟨some i, place, none⟩ := by rw [← hdd]; exact upAt_add_new (n := n)
  have cl : ∀ k, k < d.ups.length → celAt d' k = celAt d k := fun k hk => by rw [← hdd]; exact celAt_add (d := { addUp d i place n with kn := d.kn + 1 }) (by show k < d.cel.length; lia)
  have cn : celAt d' d.ups.length = ⟨i, place, true, none⟩ := by
    rw [← hdd, ← hcl]; exact celAt_add_new (d := { addUp d i place n with kn := d.kn + 1 })
  have os : opnAt d' i = (opnAt d i).take n ++ d.ups.length :: (opnAt d i).drop n := by rw [← hdd]; exact opnAt_add_new (n := n) (place := place) hopn
  have on : ∀ j, j ≠ i → opnAt d' j = opnAt d j := fun j hj => by rw [← hdd]; exact opnAt_add (n := n) (place := place) hj
  have lo : d'.opn.length = d.opn.length := by rw [← hdd]; simp [addCel, addUp]
  have mem : ∀ j k, k ∈ opnAt d' j → k ∈ opnAt d j ∨ (j = i ∧ k = d.ups.length) := fun j k hk => by
    by_cases e : j = i
    · subst e
      rw [os] at hk
      rcases List.mem_append.mp hk with hk | hk
      · exact .inl (List.mem_of_mem_take hk)
      · rcases List.mem_cons.mp hk with rfl | hk
        · exact .inr ⟨rfl, rfl⟩
        · exact .inl (List.mem_of_mem_drop hk)
    · rw [on j e] at hk; exact .inl hk
  have memr : ∀ j k, k ∈ opnAt d j → k ∈ opnAt d' j := fun j k hk => by
    by_cases e : j = i
    · subst e
      rw [os]
      rw [← List.take_append_drop n (opnAt d j)] at hk
      rcases List.mem_append.mp hk with hk | hk
      · exact List.mem_append_left _ hk
      · exact List.mem_append_right _ (List.mem_cons_of_mem _ hk)
    · rw [on j e]; exact hk
  have hlen : ∀ j, (opnAt d j).length ≤ d.ups.length := fun j => by
    have h1 := places_perm hw hI j
    have h2 := h1.length_eq
    have h3 := places_len (d := d) j
    have h4 : (ixsAt d j).length = (opnAt d j).length := by simp [ixsAt]
    lia
  obtain ⟨a, b⟩ := ups_keep hw hI (d' := d') eg em lo (by rw [kn, lu, hkn]) (by rw [lc, kn, hw.ck]) (by rw [lu]; lia)
    (fun j => by
      have := hlen j
      by_cases e : j = i
      · subst e; rw [os, List.length_append, List.length_cons, List.length_take, List.length_drop]; lia
      · rw [on j e]; lia)
    (fun j k hk => by
      rw [lu]
      rcases mem j k hk with h | ⟨_, h⟩
      · have := hw.ok j k h; lia
      · lia)
    (fun j k hk => by
      rcases mem j k hk with h | ⟨rfl, rfl⟩
      · rw [u k (hw.ok j k h)]; exact hw.op j k h
      · rw [un]; exact ⟨rfl, by simp, by simp; exact hpl, rfl⟩)
    (fun j => by
      by_cases e : j = i
      · subst e
        rw [os]
        have nd := hw.nd j
        rw [← List.take_append_drop n (opnAt d j)] at nd
        obtain ⟨n1, n2, n3⟩ := List.nodup_append.mp nd
        have fr : ∀ k ∈ opnAt d j, k ≠ d.ups.length := fun k hk e => by have := hw.ok j k hk; lia
        refine List.nodup_append.mpr ⟨n1, List.nodup_cons.mpr ⟨fun h => fr _ (List.mem_of_mem_drop h) rfl, n2⟩, fun x hx y hy => ?_⟩
        rcases List.mem_cons.mp hy with rfl | hy
        · exact fr x (List.mem_of_mem_take hx)
        · exact n3 x hx y hy
      · rw [on j e]; exact hw.nd j)
    (fun k hk g hg => by
      rw [lu] at hk
      rcases Nat.lt_or_ge k d.ups.length with h | h
      · rw [u k h] at hg; exact hw.th k h g hg
      · have : k = d.ups.length := by lia
        subst this
        rw [un] at hg
        cases hg; exact hi)
    (fun k hk => by
      rw [lc] at hk
      rcases Nat.lt_or_ge k d.ups.length with h | h
      · rw [cl k h]; exact hI.cw k (by lia)
      · have : k = d.ups.length := by lia
        subst this
        rw [cn]; exact ⟨hi, hpl⟩)
    (fun k hk h' => by
      rw [lc] at hk
      rcases Nat.lt_or_ge k d.ups.length with h | h
      · rw [cl k h] at h' ⊢
        rw [u k h]
        obtain ⟨h1, h2, h3⟩ := hI.co k (by lia) h'
        exact ⟨h1, h2, memr _ _ h3⟩
      · have : k = d.ups.length := by lia
        subst this
        rw [cn, un]
        exact ⟨rfl, rfl, by rw [os]; exact List.mem_append_right _ (List.mem_cons_self ..)⟩)
    (fun k hk h' => by
      rw [lc] at hk
      rcases Nat.lt_or_ge k d.ups.length with h | h
      · rw [cl k h] at h' ⊢
        rw [u k h]
        exact hI.cc k (by lia) h'
      · have : k = d.ups.length := by lia
        subst this
        rw [cn] at h'; cases h')
    (fun j k hk => by
      rcases mem j k hk with h | ⟨rfl, rfl⟩
      · rw [cl k (hw.ok j k h)]; exact hI.oc j k h
      · rw [cn]; exact ⟨rfl, rfl⟩)
    (fun j => by
      by_cases e : j = i
      · subst e
        have e1 : ixsAt d' j = (ixsAt d j).take n ++ (place : Int) :: (ixsAt d j).drop n := by
          unfold ixsAt
          rw [os, List.map_append, List.map_cons, un, ← List.map_take, ← List.map_drop]
          congr 1
          · exact List.map_congr_left fun k hk => by rw [u k (hw.ok j k (List.mem_of_mem_take hk))]
          · congr 1
            exact List.map_congr_left fun k hk => by rw [u k (hw.ok j k (List.mem_of_mem_drop hk))]
        rw [e1]
        have srt := hI.srt j
        have t1 : ∀ x ∈ (ixsAt d j).take n, (place : Int) < x := by rw [← hnn]; exact take_lead
        have t2 : ∀ x ∈ (ixsAt d j).drop n, x < (place : Int) := by
          have := ask_none hw hI (i := j) (place := place) (by rw [hnn]; exact hn)
          rw [← hnn]; exact drop_lead' srt this
        refine List.pairwise_append.mpr ⟨srt.sublist (List.take_sublist _ _), List.pairwise_cons.mpr ⟨t2, srt.sublist (List.drop_sublist _ _)⟩, fun x hx y hy => ?_⟩
        rcases List.mem_cons.mp hy with rfl | hy
        · exact t1 x hx
        · have h1 := t1 x hx; have h2 := t2 y hy
          show y < x
          lia
      · have e1 : ixsAt d' j = ixsAt d j := by
          unfold ixsAt
          rw [on j e]
          exact List.map_congr_left fun k hk => by rw [u k (hw.ok j k hk)]
        rw [e1]; exact hI.srt j)
  have hg : ∀ j, gstAt d' j = gstAt d j := fun j => by unfold gstAt; rw [eg]
  exact ⟨a, b, by rw [lu]; lia, fun j => by rw [hg]; have := hs.g j; lia, by rw [eg]; exact hs.lo, by rw [eg]; exact hs.hi⟩

end
section
/-- all that holds between the deeds -/
structure Good (news : List (Addr × Obj)) (A : Role → Addr) (d : Dt) (c : Nat) : Prop where
  h : H news A d
  w : Wf d
  i : Inv d
  l : Lam news
  sz : Sz d c
theorem ite_beq_ff {a b : Int} {P Q : Prop} (h : a ≠ b) (q : Q) : if (a == b) = true then P else Q := by
  rw [if_neg (by simpa using h)]; exact q
theorem ite_beq_tt {a b : Int} {P Q : Prop} (h : a = b) (q : P) : if (a == b) = true then P else Q := by
  rw [if_pos (by simpa using h)]; exact q
local macro_rules | `(tactic| walk_at "ite") => `(tactic| first | (refine ite_beq_ff (by assumption) ?_) | (refine ite_beq_tt (by assumption) ?_))
section
variable {w : World} {base h₀ : Heap} {outer : List Env} {A₀ : Around} {dp u : Nat} {env : Env} {L : Addr} {m mg mb : Str → Option Value}
    {loose : List Str} {mean : ExcName → Option Value} {p : Program} {s : Shared} {news : List (Addr × Obj)} {R : Result → Shared → Prop}
set_option maxHeartbeats 4000000 in
theorem deed_H (C : Cx w A₀ base h₀ outer L s m mg mb loose mean p news env) (hd : dp ≤ 350) (hu : u ≤ 3000) {A : Role → Addr} {d : Dt} {c : Nat} (hg : Good news A d c) (hc : c < 50) {n : Int} {t : Tok}
    (post : ∀ A' d' h' tk news', Fr h₀ L h' m → News h₀ L h' news' → Good news' A' d' (c + 1) → d'.gst.length = d.gst.length → Ext A d news A' d' → Kept2 A d news news' → R (.ok (.ret (.bool true))) { s with heap := h', toks := tk }) :
    codeAny (model Challenge.rw_nt0630_01.row.prog w) ⟨none, dp, some (env :: outer), some [], u⟩ (.call (.ref 187) ⟨[.int n t, .ref (A .G), .ref (A .S), .ref (A .C), .ref (A .K)], []⟩) R s := by
  obtain ⟨B, F, X, T, N, hf, hke⟩ := C
  obtain ⟨h, hw, hI, hlam, hsz⟩ := hg
  have hsm : d.ups.length < 60 := by have := hsz.ups; lia
  have hg0 := hsz.lo
  obtain ⟨nC, hC⟩ := h.lC
  obtain ⟨nS, hS⟩ := h.lS
  obtain ⟨nG, hG⟩ := h.lG
  obtain ⟨nK, hK⟩ := h.lK
  have hgl := hw.gfew
  have hGl : (refs (row (fun k => A (.gi k)) d.gst.length)).length = d.gst.length := by rw [refs_length, row_length]
  have hGl2 : (row (fun k => A (.gi k)) d.gst.length).length = d.gst.length := row_length
  tb_start
  rename_i g L1 h1 FG F1 N1 B1 X1 T1 Q0 hQ0
  (repeat' (first | (k_unfold; (try dsimp only)) | (refine unhide (by assumption) ?_; (try dsimp only)) | ((fail_if_success (with_reducible first | show wpAny _ _ (exec (Stmt.While _ _ _ _) _) _ _ _ | show wpAny _ _ (exec (Stmt.For _ _ _ _ _) _) _ _ _ | show wpAny _ _ (exec (Stmt.Assign _ (Expr.ListComp _ _ _ _) _) _) _ _ _ | show wpAny _ _ (eval (Expr.ListComp _ _ _ _) _) _ _ _ | show wpAny _ _ (call (Value.type "enumerate") _) _ _ _ | show wpAny _ _ (call (Value.type "zip") _) _ _ _ | refine stand_ref (by decide) ?_)); first | ((with_reducible first | (refine execs_one (by assumption) fun _ => ?_) | (refine execs_hid fun _ _ _ => ?_))) | ((with_reducible show wpAny _ _ (call (Value.builtin "len") [Value.ref _]) _ _ _); k_dflt (refine len_at (by k_asm) (by k_mem) (by ktr_units) ?_; k_whole); (try simp only [refs_length])) | ((with_reducible show wpAny _ _ (subscriptTail _ _ (Value.ref _) (Value.int _ _)) _ _ _); (with_unfolding_all refine item_litK (News.isList (by k_asm) (by k_mem)) (by first | decide | omega) (by first | decide | omega) (by assumption) ?_ (by with_unfolding_all rfl); k_whole)) | ((with_reducible show wpAny _ _ (setItem (Value.ref _) (Value.int _ _) _) _ _ _); k_dflt (refine setI_at (by k_asm) (by k_asm) (by first | assumption | exact mem_put_self | exact mem_put (by first | assumption | exact mem_put_self | exact mem_put (by first | assumption | exact mem_put_self | exact mem_put (by assumption) (by ktr_unf)) (by ktr_unf)) (by ktr_unf)) (by first | decide | omega) (by ktr_units) (by ktr_units) ?_; k_whole); intro _ _ _; (try k_sweep)) | ((with_reducible show wpAny _ _ (call (Value.builtin "list.append") [Value.ref _, _]) _ _ _); k_dflt (refine app_at (by k_asm) (by k_asm) (by first | assumption | exact mem_put_self | exact mem_put (by first | assumption | exact mem_put_self | exact mem_put (by first | assumption | exact mem_put_self | exact mem_put (by assumption) (by ktr_unf)) (by ktr_unf)) (by ktr_unf)) (by ktr_units) ?_; k_whole); intro _ _ _; (try k_sweep)) | ((with_reducible show wpAny _ _ (getMethod (Value.ref _) (PySem.Str.ofString "append") _) _ _ _); k_dflt (refine listMethod_K (by k_asm) (by first | assumption | exact mem_put_self | exact mem_put (by first | assumption | exact mem_put_self | exact mem_put (by first | assumption | exact mem_put_self | exact mem_put (by assumption) (by ktr_unf)) (by ktr_unf)) (by ktr_unf)) PySem.F.slot_list_append PySem.F.type_list_append ?_)) | walk1 | ((with_reducible show wpAny _ _ (call (Value.builtin "list.append") [Value.ref _, _]) _ _ _); k_dflt (refine app_at (by k_asm) (by k_asm) (by k_mem) (by ktr_units) ?_; k_whole); intro _ _ _; (try k_sweep)) | (dsimp only; walk1) | fail "no step")))
  (rename Fr g L1 _ _ => F2); (rename News g L1 _ _ => N2)
  obtain ⟨i, hi, ei⟩ := fmod_nat (n.fdiv 7) (m := (row (fun k => A (.gi k)) d.gst.length).length) (by rw [row_length]; exact hg0)
  rw [row_length] at hi
  rw [ei] at F2 ⊢
  obtain ⟨led, hsub, N3⟩ := hide1 N2
  clear N2
  have h3 : H led A d := h.mono hsub
  have lam3 : Lam led := hlam.mono hsub
  have lamK : ∀ news', Kept A d led news' → Lam news' := fun news' k => Lam.kept lam3 h3 N3 k
  have n172 : ∀ r, Ok d r → A r ≠ 172 := h3.ne172 N3 lam3
  replace hC := hsub _ hC
  replace hS := hsub _ hS
  replace hG := hsub _ hG
  replace hK := hsub _ hK
  have him : i < d.mst.length := by rw [hI.mir]; exact hi
  obtain ⟨ws, nw, hws, hwl⟩ := h3.mirror him
  obtain ⟨vs, nv, hvs, hsl⟩ := h3.gstack hi
  have hms : mstAt d i = gstAt d i := by unfold mstAt gstAt; rw [hI.mir]
  have hpos := hI.pos i hi
  have hw0 : ws.length = (gstAt d i).length := by rw [hws.length, hms]
  have hgf := hw.gfit i
  have hwp : 0 < ws.length := by lia
  have hwf : ws.length ≤ 300 := by lia
  have j1 : (refs (row (fun i => A (.mir i)) d.mst.length))[((i : Nat) : Int).toNat]? = some (.ref (A (.mir i))) := refs_get (row_get him)
  have j2 : (refs (row (fun i => A (.gi i)) d.gst.length))[((i : Nat) : Int).toNat]? = some (.ref (A (.gi i))) := refs_get (row_get hi)
  have b1 : ((i : Nat) : Int) < 2 ^ 63 := by lia
  have hf0 : 0 ≤ n.fmod 7 := Int.fmod_nonneg_of_pos _ (by lia)
  have hf7 : n.fmod 7 < 7 := Int.fmod_lt_of_pos _ (by lia)
  obtain ⟨dxg, og, hg1, hg2, ng, gc0, gc1, gt0, gt1, rfl⟩ := h3.ground hi
  have hvl : vs.length = (gstAt d i).length := hvs.length
  have hvf : vs.length ≤ 300 := by lia
  have hvw : vs.length = ws.length := by lia
  have hkl : (refs (row (fun k => A (.ui k)) d.kn)).length = d.kn := by rw [refs_length, row_length]
  have hkl2 : (row (fun k => A (.ui k)) d.kn).length = d.kn := row_length
  have hkf : d.kn ≤ 300 := by have := hI.kn; lia
  repeat' (first | (k_unfold; (try dsimp only)) | (refine unhide (by assumption) ?_; (try dsimp only)) | ((fail_if_success (with_reducible show wpAny _ _ (exec (Stmt.If _ _ _ _) _) _ _ _)); first | ((with_reducible first | (refine execs_one (by assumption) fun _ => ?_) | (refine execs_hid fun _ _ _ => ?_))) | ((with_reducible show wpAny _ _ (call (Value.builtin "len") [Value.ref _]) _ _ _); k_dflt (refine len_at (by k_asm) (by k_mem) (by ktr_units) ?_; k_whole); (try simp only [refs_length])) | ((with_reducible show wpAny _ _ (subscriptTail _ _ (Value.ref _) (Value.int _ _)) _ _ _); (with_unfolding_all refine item_litK (News.isList (by k_asm) (by k_mem)) (by first | decide | omega) (by first | decide | omega) (by assumption) ?_ (by with_unfolding_all rfl); k_whole)) | ((with_reducible show wpAny _ _ (setItem (Value.ref _) (Value.int _ _) _) _ _ _); k_dflt (refine setI_at (by k_asm) (by k_asm) (by first | assumption | exact mem_put_self | exact mem_put (by first | assumption | exact mem_put_self | exact mem_put (by first | assumption | exact mem_put_self | exact mem_put (by assumption) (by ktr_unf)) (by ktr_unf)) (by ktr_unf)) (by first | decide | omega) (by ktr_units) (by ktr_units) ?_; k_whole); intro _ _ _; (try k_sweep)) | ((with_reducible show wpAny _ _ (call (Value.builtin "list.append") [Value.ref _, _]) _ _ _); k_dflt (refine app_at (by k_asm) (by k_asm) (by first | assumption | exact mem_put_self | exact mem_put (by first | assumption | exact mem_put_self | exact mem_put (by first | assumption | exact mem_put_self | exact mem_put (by assumption) (by ktr_unf)) (by ktr_unf)) (by ktr_unf)) (by ktr_units) ?_; k_whole); intro _ _ _; (try k_sweep)) | ((with_reducible show wpAny _ _ (getMethod (Value.ref _) (PySem.Str.ofString "append") _) _ _ _); k_dflt (refine listMethod_K (by k_asm) (by first | assumption | exact mem_put_self | exact mem_put (by first | assumption | exact mem_put_self | exact mem_put (by first | assumption | exact mem_put_self | exact mem_put (by assumption) (by ktr_unf)) (by ktr_unf)) (by ktr_unf)) PySem.F.slot_list_append PySem.F.type_list_append ?_)) | walk1 | ((with_reducible show wpAny _ _ (call (Value.builtin "list.append") [Value.ref _, _]) _ _ _); k_dflt (refine app_at (by k_asm) (by k_asm) (by k_mem) (by ktr_units) ?_; k_whole); intro _ _ _; (try k_sweep)) | (dsimp only; walk1) | fail "no step"))
  (rename Fr g L1 _ _ => F4); (rename News g L1 _ _ => N4)
  obtain ⟨pl, hpl, epl⟩ := fmod_nat (n.fdiv 14) hwp
  rw [epl] at F4
  generalize n.fdiv 14 = rest at F4
  generalize n.fmod 7 = f at F4 hf0 hf7
  have hplg : pl < (gstAt d i).length := by lia
  have s1 : A .S ≠ A (.gs i) := h3.ne (r := .S) (r' := .gs i) trivial hi (by simp)
  have s2 : A (.mir i) ≠ A (.gs i) := h3.ne (r := .mir i) (r' := .gs i) him hi (by simp)
  have hE : Ext A d news A d := .refl
  have hK2 : Kept2 A d news led := fun q hq _ _ => hsub q hq
  by_cases q1 : f < 3
  · (repeat' (first | (k_unfold; (try dsimp only)) | (refine unhide (by assumption) ?_; (try dsimp only)) | ((fail_if_success (with_reducible first | show wpAny _ _ (exec (Stmt.While _ _ _ _) _) _ _ _ | show wpAny _ _ (exec (Stmt.For _ _ _ _ _) _) _ _ _ | show wpAny _ _ (exec (Stmt.Assign _ (Expr.ListComp _ _ _ _) _) _) _ _ _ | show wpAny _ _ (eval (Expr.ListComp _ _ _ _) _) _ _ _ | show wpAny _ _ (call (Value.type "enumerate") _) _ _ _ | show wpAny _ _ (call (Value.type "zip") _) _ _ _ | refine stand_ref (by decide) ?_)); first | ((with_reducible first | (refine execs_one (by assumption) fun _ => ?_) | (refine execs_hid fun _ _ _ => ?_))) | ((with_reducible show wpAny _ _ (call (Value.builtin "len") [Value.ref _]) _ _ _); k_dflt (refine len_at (by k_asm) (by k_mem) (by ktr_units) ?_; k_whole); (try simp only [refs_length])) | ((with_reducible show wpAny _ _ (subscriptTail _ _ (Value.ref _) (Value.int _ _)) _ _ _); (with_unfolding_all refine item_litK (News.isList (by k_asm) (by k_mem)) (by first | decide | omega) (by first | decide | omega) (by assumption) ?_ (by with_unfolding_all rfl); k_whole)) | ((with_reducible show wpAny _ _ (setItem (Value.ref _) (Value.int _ _) _) _ _ _); k_dflt (refine setI_at (by k_asm) (by k_asm) (by first | assumption | exact mem_put_self | exact mem_put (by first | assumption | exact mem_put_self | exact mem_put (by first | assumption | exact mem_put_self | exact mem_put (by assumption) (by ktr_unf)) (by ktr_unf)) (by ktr_unf)) (by first | decide | omega) (by ktr_units) (by ktr_units) ?_; k_whole); intro _ _ _; (try k_sweep)) | ((with_reducible show wpAny _ _ (call (Value.builtin "list.append") [Value.ref _, _]) _ _ _); k_dflt (refine app_at (by k_asm) (by k_asm) (by first | assumption | exact mem_put_self | exact mem_put (by first | assumption | exact mem_put_self | exact mem_put (by first | assumption | exact mem_put_self | exact mem_put (by assumption) (by ktr_unf)) (by ktr_unf)) (by ktr_unf)) (by ktr_units) ?_; k_whole); intro _ _ _; (try k_sweep)) | ((with_reducible show wpAny _ _ (getMethod (Value.ref _) (PySem.Str.ofString "append") _) _ _ _); k_dflt (refine listMethod_K (by k_asm) (by first | assumption | exact mem_put_self | exact mem_put (by first | assumption | exact mem_put_self | exact mem_put (by first | assumption | exact mem_put_self | exact mem_put (by assumption) (by ktr_unf)) (by ktr_unf)) (by ktr_unf)) PySem.F.slot_list_append PySem.F.type_list_append ?_)) | walk1 | ((with_reducible show wpAny _ _ (call (Value.builtin "list.append") [Value.ref _, _]) _ _ _); k_dflt (refine app_at (by k_asm) (by k_asm) (by k_mem) (by ktr_units) ?_; k_whole); intro _ _ _; (try k_sweep)) | (dsimp only; walk1) | fail "no step")))
    (rename Fr g L1 _ _ => F5); (rename News g L1 _ _ => N5)
    refine wpAny_call (asked_H ⟨B1, F5, X1, T1, N5, rfl, rfl⟩ (by ktr_room) (by ktr_room) h3 hw hi (ask_old hw hI) (ask_new hw hI) ?_ ?_)
    · intro A' h6 tk6 news' F6 N6 h7 e7 k7
      dsimp only
      (repeat' (first | (k_unfold; (try dsimp only)) | (refine unhide (by assumption) ?_; (try dsimp only)) | ((fail_if_success (with_reducible first | show wpAny _ _ (exec (Stmt.While _ _ _ _) _) _ _ _ | show wpAny _ _ (exec (Stmt.For _ _ _ _ _) _) _ _ _ | show wpAny _ _ (exec (Stmt.Assign _ (Expr.ListComp _ _ _ _) _) _) _ _ _ | show wpAny _ _ (eval (Expr.ListComp _ _ _ _) _) _ _ _ | show wpAny _ _ (call (Value.type "enumerate") _) _ _ _ | show wpAny _ _ (call (Value.type "zip") _) _ _ _ | refine stand_ref (by decide) ?_)); first | ((with_reducible first | (refine execs_one (by assumption) fun _ => ?_) | (refine execs_hid fun _ _ _ => ?_))) | ((with_reducible show wpAny _ _ (call (Value.builtin "len") [Value.ref _]) _ _ _); k_dflt (refine len_at (by k_asm) (by k_mem) (by ktr_units) ?_; k_whole); (try simp only [refs_length])) | ((with_reducible show wpAny _ _ (subscriptTail _ _ (Value.ref _) (Value.int _ _)) _ _ _); (with_unfolding_all refine item_litK (News.isList (by k_asm) (by k_mem)) (by first | decide | omega) (by first | decide | omega) (by assumption) ?_ (by with_unfolding_all rfl); k_whole)) | ((with_reducible show wpAny _ _ (setItem (Value.ref _) (Value.int _ _) _) _ _ _); k_dflt (refine setI_at (by k_asm) (by k_asm) (by first | assumption | exact mem_put_self | exact mem_put (by first | assumption | exact mem_put_self | exact mem_put (by first | assumption | exact mem_put_self | exact mem_put (by assumption) (by ktr_unf)) (by ktr_unf)) (by ktr_unf)) (by first | decide | omega) (by ktr_units) (by ktr_units) ?_; k_whole); intro _ _ _; (try k_sweep)) | ((with_reducible show wpAny _ _ (call (Value.builtin "list.append") [Value.ref _, _]) _ _ _); k_dflt (refine app_at (by k_asm) (by k_asm) (by first | assumption | exact mem_put_self | exact mem_put (by first | assumption | exact mem_put_self | exact mem_put (by first | assumption | exact mem_put_self | exact mem_put (by assumption) (by ktr_unf)) (by ktr_unf)) (by ktr_unf)) (by ktr_units) ?_; k_whole); intro _ _ _; (try k_sweep)) | ((with_reducible show wpAny _ _ (getMethod (Value.ref _) (PySem.Str.ofString "append") _) _ _ _); k_dflt (refine listMethod_K (by k_asm) (by first | assumption | exact mem_put_self | exact mem_put (by first | assumption | exact mem_put_self | exact mem_put (by first | assumption | exact mem_put_self | exact mem_put (by assumption) (by ktr_unf)) (by ktr_unf)) (by ktr_unf)) PySem.F.slot_list_append PySem.F.type_list_append ?_)) | walk1 | ((with_reducible show wpAny _ _ (call (Value.builtin "list.append") [Value.ref _, _]) _ _ _); k_dflt (refine app_at (by k_asm) (by k_asm) (by k_mem) (by ktr_units) ?_; k_whole); intro _ _ _; (try k_sweep)) | (dsimp only; walk1) | fail "no step")))
      (rename Fr h₀ _ _ _ => kF); (rename News h₀ _ _ _ => kN)
      exact post A' d _ _ _ kF kN ⟨h7, hw, hI, lamK _ k7, hsz.mono (by lia)⟩ rfl (e7.less hsub) (fun q hq hr _ => k7 q (hsub q hq) hr)
    · intro hne A' h6 tk6 news' F6 N6 h7 e7 k7
      dsimp only
      (repeat' (first | (k_unfold; (try dsimp only)) | (refine unhide (by assumption) ?_; (try dsimp only)) | ((fail_if_success (with_reducible first | show wpAny _ _ (exec (Stmt.While _ _ _ _) _) _ _ _ | show wpAny _ _ (exec (Stmt.For _ _ _ _ _) _) _ _ _ | show wpAny _ _ (exec (Stmt.Assign _ (Expr.ListComp _ _ _ _) _) _) _ _ _ | show wpAny _ _ (eval (Expr.ListComp _ _ _ _) _) _ _ _ | show wpAny _ _ (call (Value.type "enumerate") _) _ _ _ | show wpAny _ _ (call (Value.type "zip") _) _ _ _ | refine stand_ref (by decide) ?_)); first | ((with_reducible first | (refine execs_one (by assumption) fun _ => ?_) | (refine execs_hid fun _ _ _ => ?_))) | ((with_reducible show wpAny _ _ (call (Value.builtin "len") [Value.ref _]) _ _ _); k_dflt (refine len_at (by k_asm) (by k_mem) (by ktr_units) ?_; k_whole); (try simp only [refs_length])) | ((with_reducible show wpAny _ _ (subscriptTail _ _ (Value.ref _) (Value.int _ _)) _ _ _); (with_unfolding_all refine item_litK (News.isList (by k_asm) (by k_mem)) (by first | decide | omega) (by first | decide | omega) (by assumption) ?_ (by with_unfolding_all rfl); k_whole)) | ((with_reducible show wpAny _ _ (setItem (Value.ref _) (Value.int _ _) _) _ _ _); k_dflt (refine setI_at (by k_asm) (by k_asm) (by first | assumption | exact mem_put_self | exact mem_put (by first | assumption | exact mem_put_self | exact mem_put (by first | assumption | exact mem_put_self | exact mem_put (by assumption) (by ktr_unf)) (by ktr_unf)) (by ktr_unf)) (by first | decide | omega) (by ktr_units) (by ktr_units) ?_; k_whole); intro _ _ _; (try k_sweep)) | ((with_reducible show wpAny _ _ (call (Value.builtin "list.append") [Value.ref _, _]) _ _ _); k_dflt (refine app_at (by k_asm) (by k_asm) (by first | assumption | exact mem_put_self | exact mem_put (by first | assumption | exact mem_put_self | exact mem_put (by first | assumption | exact mem_put_self | exact mem_put (by assumption) (by ktr_unf)) (by ktr_unf)) (by ktr_unf)) (by ktr_units) ?_; k_whole); intro _ _ _; (try k_sweep)) | ((with_reducible show wpAny _ _ (getMethod (Value.ref _) (PySem.Str.ofString "append") _) _ _ _); k_dflt (refine listMethod_K (by k_asm) (by first | assumption | exact mem_put_self | exact mem_put (by first | assumption | exact mem_put_self | exact mem_put (by first | assumption | exact mem_put_self | exact mem_put (by assumption) (by ktr_unf)) (by ktr_unf)) (by ktr_unf)) PySem.F.slot_list_append PySem.F.type_list_append ?_)) | walk1 | ((with_reducible show wpAny _ _ (call (Value.builtin "list.append") [Value.ref _, _]) _ _ _); k_dflt (refine app_at (by k_asm) (by k_asm) (by k_mem) (by ktr_units) ?_; k_whole); intro _ _ _; (try k_sweep)) | (dsimp only; walk1) | fail "no step")))
      (rename Fr h₀ _ _ _ => kF); (rename News h₀ _ _ _ => kN)
      obtain ⟨w1, w2, w3⟩ := askNew_keep hw hI hi hplg hsz (by lia) hne
      exact post A' (askNew d i pl) _ _ _ kF kN ⟨h7, w1, w2, lamK _ k7, w3⟩ rfl (e7.less hsub) (fun q hq hr _ => k7 q (hsub q hq) hr)
  by_cases q3 : f = 3
  · by_cases hkz : d.kn = 0
    · have hk0 : ¬ (0 : Int) < ((row (fun k => A (.ui k)) d.kn).length : Nat) := by lia
      have q4 : f ≠ 4 := by lia
      have q5 : f ≠ 5 := by lia
      (repeat' (first | (k_unfold; (try dsimp only)) | (refine unhide (by assumption) ?_; (try dsimp only)) | ((fail_if_success (with_reducible first | show wpAny _ _ (exec (Stmt.While _ _ _ _) _) _ _ _ | show wpAny _ _ (exec (Stmt.For _ _ _ _ _) _) _ _ _ | show wpAny _ _ (exec (Stmt.Assign _ (Expr.ListComp _ _ _ _) _) _) _ _ _ | show wpAny _ _ (eval (Expr.ListComp _ _ _ _) _) _ _ _ | show wpAny _ _ (call (Value.type "enumerate") _) _ _ _ | show wpAny _ _ (call (Value.type "zip") _) _ _ _ | refine stand_ref (by decide) ?_)); first | ((with_reducible first | (refine execs_one (by assumption) fun _ => ?_) | (refine execs_hid fun _ _ _ => ?_))) | ((with_reducible show wpAny _ _ (call (Value.builtin "len") [Value.ref _]) _ _ _); k_dflt (refine len_at (by k_asm) (by k_mem) (by ktr_units) ?_; k_whole); (try simp only [refs_length])) | ((with_reducible show wpAny _ _ (subscriptTail _ _ (Value.ref _) (Value.int _ _)) _ _ _); (with_unfolding_all refine item_litK (News.isList (by k_asm) (by k_mem)) (by first | decide | omega) (by first | decide | omega) (by assumption) ?_ (by with_unfolding_all rfl); k_whole)) | ((with_reducible show wpAny _ _ (setItem (Value.ref _) (Value.int _ _) _) _ _ _); k_dflt (refine setI_at (by k_asm) (by k_asm) (by first | assumption | exact mem_put_self | exact mem_put (by first | assumption | exact mem_put_self | exact mem_put (by first | assumption | exact mem_put_self | exact mem_put (by assumption) (by ktr_unf)) (by ktr_unf)) (by ktr_unf)) (by first | decide | omega) (by ktr_units) (by ktr_units) ?_; k_whole); intro _ _ _; (try k_sweep)) | ((with_reducible show wpAny _ _ (call (Value.builtin "list.append") [Value.ref _, _]) _ _ _); k_dflt (refine app_at (by k_asm) (by k_asm) (by first | assumption | exact mem_put_self | exact mem_put (by first | assumption | exact mem_put_self | exact mem_put (by first | assumption | exact mem_put_self | exact mem_put (by assumption) (by ktr_unf)) (by ktr_unf)) (by ktr_unf)) (by ktr_units) ?_; k_whole); intro _ _ _; (try k_sweep)) | ((with_reducible show wpAny _ _ (getMethod (Value.ref _) (PySem.Str.ofString "append") _) _ _ _); k_dflt (refine listMethod_K (by k_asm) (by first | assumption | exact mem_put_self | exact mem_put (by first | assumption | exact mem_put_self | exact mem_put (by first | assumption | exact mem_put_self | exact mem_put (by assumption) (by ktr_unf)) (by ktr_unf)) (by ktr_unf)) PySem.F.slot_list_append PySem.F.type_list_append ?_)) | walk1 | ((with_reducible show wpAny _ _ (call (Value.builtin "list.append") [Value.ref _, _]) _ _ _); k_dflt (refine app_at (by k_asm) (by k_asm) (by k_mem) (by ktr_units) ?_; k_whole); intro _ _ _; (try k_sweep)) | (dsimp only; walk1) | fail "no step")))
      (rename Fr h₀ _ _ _ => kF); (rename News h₀ _ _ _ => kN)
      obtain ⟨w1, w2, w3⟩ := pushed_keep (x := rest.fmod 991) hw hI hi hsz (by lia)
      exact post A (pushed d i (rest.fmod 991)) _ _ _ kF kN ⟨(h3.setG hi (ints_snoc hvs (rest.fmod 991) _)).setM him (ints_snoc hws (rest.fmod 991) _), w1, w2, lamK _ (fun q hq hr => mem_put (mem_put hq (hr (.gs i) hi)) (hr (.mir i) him)), w3⟩ gst_pushed (Ext.eq ok_pushed) (fun q hq hr _ => mem_put (mem_put (hsub q hq) (hr (.gs i) hi)) (hr (.mir i) him))
    · have hk1 : (0 : Int) < ((row (fun k => A (.ui k)) d.kn).length : Nat) := by lia
      repeat' (first | (k_unfold; (try dsimp only)) | (refine unhide (by assumption) ?_; (try dsimp only)) | ((fail_if_success (with_reducible show wpAny _ _ (exec (Stmt.Expr _ _) _) _ _ _)); first | ((with_reducible first | (refine execs_one (by assumption) fun _ => ?_) | (refine execs_hid fun _ _ _ => ?_))) | ((with_reducible show wpAny _ _ (call (Value.builtin "len") [Value.ref _]) _ _ _); k_dflt (refine len_at (by k_asm) (by k_mem) (by ktr_units) ?_; k_whole); (try simp only [refs_length])) | ((with_reducible show wpAny _ _ (subscriptTail _ _ (Value.ref _) (Value.int _ _)) _ _ _); (with_unfolding_all refine item_litK (News.isList (by k_asm) (by k_mem)) (by first | decide | omega) (by first | decide | omega) (by assumption) ?_ (by with_unfolding_all rfl); k_whole)) | ((with_reducible show wpAny _ _ (setItem (Value.ref _) (Value.int _ _) _) _ _ _); k_dflt (refine setI_at (by k_asm) (by k_asm) (by first | assumption | exact mem_put_self | exact mem_put (by first | assumption | exact mem_put_self | exact mem_put (by first | assumption | exact mem_put_self | exact mem_put (by assumption) (by ktr_unf)) (by ktr_unf)) (by ktr_unf)) (by first | decide | omega) (by ktr_units) (by ktr_units) ?_; k_whole); intro _ _ _; (try k_sweep)) | ((with_reducible show wpAny _ _ (call (Value.builtin "list.append") [Value.ref _, _]) _ _ _); k_dflt (refine app_at (by k_asm) (by k_asm) (by first | assumption | exact mem_put_self | exact mem_put (by first | assumption | exact mem_put_self | exact mem_put (by first | assumption | exact mem_put_self | exact mem_put (by assumption) (by ktr_unf)) (by ktr_unf)) (by ktr_unf)) (by ktr_units) ?_; k_whole); intro _ _ _; (try k_sweep)) | ((with_reducible show wpAny _ _ (getMethod (Value.ref _) (PySem.Str.ofString "append") _) _ _ _); k_dflt (refine listMethod_K (by k_asm) (by first | assumption | exact mem_put_self | exact mem_put (by first | assumption | exact mem_put_self | exact mem_put (by first | assumption | exact mem_put_self | exact mem_put (by assumption) (by ktr_unf)) (by ktr_unf)) (by ktr_unf)) PySem.F.slot_list_append PySem.F.type_list_append ?_)) | walk1 | ((with_reducible show wpAny _ _ (call (Value.builtin "list.append") [Value.ref _, _]) _ _ _); k_dflt (refine app_at (by k_asm) (by k_asm) (by k_mem) (by ktr_units) ?_; k_whole); intro _ _ _; (try k_sweep)) | (dsimp only; walk1) | fail "no step"))
      (rename Fr g L1 _ _ => F6); (rename News g L1 _ _ => N6)
      obtain ⟨k, hk, ek⟩ := fmod_nat rest (m := (row (fun k => A (.ui k)) d.kn).length) (by lia)
      rw [ek] at F6
      rw [row_length] at hk
      have hku : k < d.ups.length := by have := hI.kn; lia
      have hkc : k < d.cel.length := by rw [celLen hw hI]; exact hku
      obtain ⟨oU, vlU, hu1, hu2, hu3, hu4⟩ := h3.up hku
      obtain ⟨na, e0, e1, e2, e3, e4, e5, s0, s1', s2', s3, s4, s5, v0, v1, v2, ti, rfl⟩ := hu4
      obtain ⟨tcA, tcB, cv, cn, hcv, hcl⟩ := h3.cell hkc
      obtain ⟨hwh, hplk⟩ := hI.cw k hkc
      have hwm : (celAt d k).wh < d.mst.length := by rw [hI.mir]; exact hwh
      have hms2 : mstAt d (celAt d k).wh = gstAt d (celAt d k).wh := by unfold mstAt gstAt; rw [hI.mir]
      have hplm : (celAt d k).pl < (mstAt d (celAt d k).wh).length := by rw [hms2]; exact hplk
      have z0 : (refs (row (fun k => A (.ui k)) d.kn))[((k : Nat) : Int).toNat]? = some (.ref (A (.ui k))) := refs_get (row_get hk)
      have z1 : (refs (row (fun k => A (.cl k)) d.cel.length))[((k : Nat) : Int).toNat]? = some (.ref (A (.cl k))) := refs_get (row_get hkc)
      have z2 : (refs (row (fun i => A (.mir i)) d.mst.length))[(((celAt d k).wh : Nat) : Int).toNat]? = some (.ref (A (.mir (celAt d k).wh))) := refs_get (row_get hwm)
      have b5 : ((k : Nat) : Int) < 2 ^ 63 := by lia
      have b6 : (((celAt d k).wh : Nat) : Int) < 2 ^ 63 := by lia
      have hgf2 := hw.gfit (celAt d k).wh
      have b7 : (((celAt d k).pl : Nat) : Int) < 2 ^ 63 := by lia
      have i0 : [Value.int (celAt d k).wh tcA, .int (celAt d k).pl tcB, .bool (celAt d k).op, cv][(0 : Int).toNat]? = some (.int (celAt d k).wh tcA) := rfl
      have i1 : [Value.int (celAt d k).wh tcA, .int (celAt d k).pl tcB, .bool (celAt d k).op, cv][(1 : Int).toNat]? = some (.int (celAt d k).pl tcB) := rfl
      have i2 : [Value.int (celAt d k).wh tcA, .int (celAt d k).pl tcB, .bool (celAt d k).op, cv][(2 : Int).toNat]? = some (.bool (celAt d k).op) := rfl
      obtain ⟨ws2, nw2, hws2, hwl2⟩ := h3.mirror hwm
      obtain ⟨vs2, nv2, hvs2, hsl2⟩ := h3.gstack hwh
      have l1' := hws2.length
      have hgf3 := hw.mfit (celAt d k).wh
      have l2' := hvs2.length
      clear hg1 hg2 hwl hsl
      cases hop : (celAt d k).op with
      | true =>
        obtain ⟨y1, y2, y3⟩ := hI.co k hkc hop
        rw [y1, y2] at hu2
        simp only [thOf] at hu2
        simp only [hop] at hcl i0 i1 i2
        obtain ⟨dxg, og, hg1, hg2, ng, gc0, gc1, gt0, gt1, rfl⟩ := h3.ground hwh
        have r1 : A .S ≠ A (.gs (celAt d k).wh) := h3.ne (r := .S) (r' := .gs (celAt d k).wh) trivial hwh (by simp)
        have r2 : A .C ≠ A (.gs (celAt d k).wh) := h3.ne (r := .C) (r' := .gs (celAt d k).wh) trivial hwh (by simp)
        have r3 : A (.mir (celAt d k).wh) ≠ A (.gs (celAt d k).wh) := h3.ne (r := .mir (celAt d k).wh) (r' := .gs (celAt d k).wh) hwm hwh (by simp)
        have r4 : A (.cl k) ≠ A (.gs (celAt d k).wh) := h3.ne (r := .cl k) (r' := .gs (celAt d k).wh) hkc hwh (by simp)
        (repeat' (first | (k_unfold; (try dsimp only)) | (refine unhide (by assumption) ?_; (try dsimp only)) | ((fail_if_success (with_reducible first | show wpAny _ _ (exec (Stmt.While _ _ _ _) _) _ _ _ | show wpAny _ _ (exec (Stmt.For _ _ _ _ _) _) _ _ _ | show wpAny _ _ (exec (Stmt.Assign _ (Expr.ListComp _ _ _ _) _) _) _ _ _ | show wpAny _ _ (eval (Expr.ListComp _ _ _ _) _) _ _ _ | show wpAny _ _ (call (Value.type "enumerate") _) _ _ _ | show wpAny _ _ (call (Value.type "zip") _) _ _ _ | refine stand_ref (by decide) ?_)); first | ((with_reducible first | (refine execs_one (by assumption) fun _ => ?_) | (refine execs_hid fun _ _ _ => ?_))) | ((with_reducible show wpAny _ _ (call (Value.builtin "len") [Value.ref _]) _ _ _); k_dflt (refine len_at (by k_asm) (by k_mem) (by ktr_units) ?_; k_whole); (try simp only [refs_length])) | ((with_reducible show wpAny _ _ (subscriptTail _ _ (Value.ref _) (Value.int _ _)) _ _ _); (with_unfolding_all refine item_litK (News.isList (by k_asm) (by k_mem)) (by first | decide | omega) (by first | decide | omega) (by assumption) ?_ (by with_unfolding_all rfl); k_whole)) | ((with_reducible show wpAny _ _ (setItem (Value.ref _) (Value.int _ _) _) _ _ _); k_dflt (refine setI_at (by k_asm) (by k_asm) (by first | assumption | exact mem_put_self | exact mem_put (by first | assumption | exact mem_put_self | exact mem_put (by first | assumption | exact mem_put_self | exact mem_put (by assumption) (by ktr_unf)) (by ktr_unf)) (by ktr_unf)) (by first | decide | omega) (by ktr_units) (by ktr_units) ?_; k_whole); intro _ _ _; (try k_sweep)) | ((with_reducible show wpAny _ _ (call (Value.builtin "list.append") [Value.ref _, _]) _ _ _); k_dflt (refine app_at (by k_asm) (by k_asm) (by first | assumption | exact mem_put_self | exact mem_put (by first | assumption | exact mem_put_self | exact mem_put (by first | assumption | exact mem_put_self | exact mem_put (by assumption) (by ktr_unf)) (by ktr_unf)) (by ktr_unf)) (by ktr_units) ?_; k_whole); intro _ _ _; (try k_sweep)) | ((with_reducible show wpAny _ _ (getMethod (Value.ref _) (PySem.Str.ofString "append") _) _ _ _); k_dflt (refine listMethod_K (by k_asm) (by first | assumption | exact mem_put_self | exact mem_put (by first | assumption | exact mem_put_self | exact mem_put (by first | assumption | exact mem_put_self | exact mem_put (by assumption) (by ktr_unf)) (by ktr_unf)) (by ktr_unf)) PySem.F.slot_list_append PySem.F.type_list_append ?_)) | walk1 | ((with_reducible show wpAny _ _ (call (Value.builtin "list.append") [Value.ref _, _]) _ _ _); k_dflt (refine app_at (by k_asm) (by k_asm) (by k_mem) (by ktr_units) ?_; k_whole); intro _ _ _; (try k_sweep)) | (dsimp only; walk1) | fail "no step")))
        (rename Fr h₀ _ _ _ => kF); (rename News h₀ _ _ _ => kN)
        obtain ⟨w1, w2, w3⟩ := wrote_keep (pl := (celAt d k).pl) (x := rest.fmod 1000) hw hI hwh hsz
        exact post A (wrote d (celAt d k).wh (celAt d k).pl (rest.fmod 1000)) _ _ _ kF kN ⟨(h3.setG hwh (ints_set hvs2 (celAt d k).pl (rest.fmod 1000) _)).setM hwm (ints_set hws2 (celAt d k).pl (rest.fmod 1000) _), w1, w2, lamK _ (fun q hq hr => mem_put (mem_put hq (hr (.gs (celAt d k).wh) hwh)) (hr (.mir (celAt d k).wh) hwm)), w3.mono (by lia)⟩ gst_wrote (Ext.eq ok_wrote) (fun q hq hr _ => mem_put (mem_put (hsub q hq) (hr (.gs (celAt d k).wh) hwh)) (hr (.mir (celAt d k).wh) hwm))
      | false =>
        obtain ⟨y1, y2, vv, y3⟩ := hI.cc k hkc hop
        rw [y1] at hu2
        simp only [thOf] at hu2
        simp only [hop] at hcl i0 i1 i2
        have r2 : A .C ≠ A (.ud k) := h3.ne (r := .C) (r' := .ud k) trivial hku (by simp)
        have r4 : A (.cl k) ≠ A (.ud k) := h3.ne (r := .cl k) (r' := .ud k) hkc hku (by simp)
        (repeat' (first | (k_unfold; (try dsimp only)) | (refine unhide (by assumption) ?_; (try dsimp only)) | ((fail_if_success (with_reducible first | show wpAny _ _ (exec (Stmt.While _ _ _ _) _) _ _ _ | show wpAny _ _ (exec (Stmt.For _ _ _ _ _) _) _ _ _ | show wpAny _ _ (exec (Stmt.Assign _ (Expr.ListComp _ _ _ _) _) _) _ _ _ | show wpAny _ _ (eval (Expr.ListComp _ _ _ _) _) _ _ _ | show wpAny _ _ (call (Value.type "enumerate") _) _ _ _ | show wpAny _ _ (call (Value.type "zip") _) _ _ _ | refine stand_ref (by decide) ?_)); first | ((with_reducible first | (refine execs_one (by assumption) fun _ => ?_) | (refine execs_hid fun _ _ _ => ?_))) | ((with_reducible show wpAny _ _ (call (Value.builtin "len") [Value.ref _]) _ _ _); k_dflt (refine len_at (by k_asm) (by k_mem) (by ktr_units) ?_; k_whole); (try simp only [refs_length])) | ((with_reducible show wpAny _ _ (subscriptTail _ _ (Value.ref _) (Value.int _ _)) _ _ _); (with_unfolding_all refine item_litK (News.isList (by k_asm) (by k_mem)) (by first | decide | omega) (by first | decide | omega) (by assumption) ?_ (by with_unfolding_all rfl); k_whole)) | ((with_reducible show wpAny _ _ (setItem (Value.ref _) (Value.int _ _) _) _ _ _); k_dflt (refine setI_at (by k_asm) (by k_asm) (by first | assumption | exact mem_put_self | exact mem_put (by first | assumption | exact mem_put_self | exact mem_put (by first | assumption | exact mem_put_self | exact mem_put (by assumption) (by ktr_unf)) (by ktr_unf)) (by ktr_unf)) (by first | decide | omega) (by ktr_units) (by ktr_units) ?_; k_whole); intro _ _ _; (try k_sweep)) | ((with_reducible show wpAny _ _ (call (Value.builtin "list.append") [Value.ref _, _]) _ _ _); k_dflt (refine app_at (by k_asm) (by k_asm) (by first | assumption | exact mem_put_self | exact mem_put (by first | assumption | exact mem_put_self | exact mem_put (by first | assumption | exact mem_put_self | exact mem_put (by assumption) (by ktr_unf)) (by ktr_unf)) (by ktr_unf)) (by ktr_units) ?_; k_whole); intro _ _ _; (try k_sweep)) | ((with_reducible show wpAny _ _ (getMethod (Value.ref _) (PySem.Str.ofString "append") _) _ _ _); k_dflt (refine listMethod_K (by k_asm) (by first | assumption | exact mem_put_self | exact mem_put (by first | assumption | exact mem_put_self | exact mem_put (by first | assumption | exact mem_put_self | exact mem_put (by assumption) (by ktr_unf)) (by ktr_unf)) (by ktr_unf)) PySem.F.slot_list_append PySem.F.type_list_append ?_)) | walk1 | ((with_reducible show wpAny _ _ (call (Value.builtin "list.append") [Value.ref _, _]) _ _ _); k_dflt (refine app_at (by k_asm) (by k_asm) (by k_mem) (by ktr_units) ?_; k_whole); intro _ _ _; (try k_sweep)) | (dsimp only; walk1) | fail "no step")))
        (rename Fr h₀ _ _ _ => kF); (rename News h₀ _ _ _ => kN)
        obtain ⟨w1, w2, w3⟩ := setShut_keep (x := rest.fmod 1000) hw hI hku hop hsz
        have e : setShut d k (rest.fmod 1000) = setCel (setU d k ⟨none, (upAt d k).ix, some (rest.fmod 1000)⟩) k ⟨(celAt d k).wh, (celAt d k).pl, false, some (rest.fmod 1000)⟩ := by unfold setShut; rw [y1, hop]
        refine post A (setShut d k (rest.fmod 1000)) _ _ _ kF kN ⟨?_, w1, w2, lamK _ (fun q hq hr => mem_put (mem_put hq (hr (.ud k) hku)) (hr (.cl k) hkc)), w3.mono (by lia)⟩ rfl (Ext.eq ok_setShut) (fun q hq hr _ => mem_put (mem_put (hsub q hq) (hr (.ud k) hku)) (hr (.cl k) hkc))
        rw [e]
        exact (h3.setU hku (u := ⟨none, (upAt d k).ix, some (rest.fmod 1000)⟩) (vl := .int (rest.fmod 1000) _) ⟨_, rfl⟩ ⟨_, _, _, _, _, _, _, _, _, _, _, _, _, _, _, _, _, rfl⟩).setCel hkc ⟨(celAt d k).wh, (celAt d k).pl, false, some (rest.fmod 1000)⟩ ⟨_, rfl⟩
  by_cases q4 : f = 4
  · (repeat' (first | (k_unfold; (try dsimp only)) | (refine unhide (by assumption) ?_; (try dsimp only)) | ((fail_if_success (with_reducible first | show wpAny _ _ (exec (Stmt.While _ _ _ _) _) _ _ _ | show wpAny _ _ (exec (Stmt.For _ _ _ _ _) _) _ _ _ | show wpAny _ _ (exec (Stmt.Assign _ (Expr.ListComp _ _ _ _) _) _) _ _ _ | show wpAny _ _ (eval (Expr.ListComp _ _ _ _) _) _ _ _ | show wpAny _ _ (call (Value.type "enumerate") _) _ _ _ | show wpAny _ _ (call (Value.type "zip") _) _ _ _ | refine stand_ref (by decide) ?_)); first | ((with_reducible first | (refine execs_one (by assumption) fun _ => ?_) | (refine execs_hid fun _ _ _ => ?_))) | ((with_reducible show wpAny _ _ (call (Value.builtin "len") [Value.ref _]) _ _ _); k_dflt (refine len_at (by k_asm) (by k_mem) (by ktr_units) ?_; k_whole); (try simp only [refs_length])) | ((with_reducible show wpAny _ _ (subscriptTail _ _ (Value.ref _) (Value.int _ _)) _ _ _); (with_unfolding_all refine item_litK (News.isList (by k_asm) (by k_mem)) (by first | decide | omega) (by first | decide | omega) (by assumption) ?_ (by with_unfolding_all rfl); k_whole)) | ((with_reducible show wpAny _ _ (setItem (Value.ref _) (Value.int _ _) _) _ _ _); k_dflt (refine setI_at (by k_asm) (by k_asm) (by first | assumption | exact mem_put_self | exact mem_put (by first | assumption | exact mem_put_self | exact mem_put (by first | assumption | exact mem_put_self | exact mem_put (by assumption) (by ktr_unf)) (by ktr_unf)) (by ktr_unf)) (by first | decide | omega) (by ktr_units) (by ktr_units) ?_; k_whole); intro _ _ _; (try k_sweep)) | ((with_reducible show wpAny _ _ (call (Value.builtin "list.append") [Value.ref _, _]) _ _ _); k_dflt (refine app_at (by k_asm) (by k_asm) (by first | assumption | exact mem_put_self | exact mem_put (by first | assumption | exact mem_put_self | exact mem_put (by first | assumption | exact mem_put_self | exact mem_put (by assumption) (by ktr_unf)) (by ktr_unf)) (by ktr_unf)) (by ktr_units) ?_; k_whole); intro _ _ _; (try k_sweep)) | ((with_reducible show wpAny _ _ (getMethod (Value.ref _) (PySem.Str.ofString "append") _) _ _ _); k_dflt (refine listMethod_K (by k_asm) (by first | assumption | exact mem_put_self | exact mem_put (by first | assumption | exact mem_put_self | exact mem_put (by first | assumption | exact mem_put_self | exact mem_put (by assumption) (by ktr_unf)) (by ktr_unf)) (by ktr_unf)) PySem.F.slot_list_append PySem.F.type_list_append ?_)) | walk1 | ((with_reducible show wpAny _ _ (call (Value.builtin "list.append") [Value.ref _, _]) _ _ _); k_dflt (refine app_at (by k_asm) (by k_asm) (by k_mem) (by ktr_units) ?_; k_whole); intro _ _ _; (try k_sweep)) | (dsimp only; walk1) | fail "no step")))
    (rename Fr h₀ _ _ _ => kF); (rename News h₀ _ _ _ => kN)
    obtain ⟨w1, w2, w3⟩ := wrote_keep (pl := pl) (x := rest.fmod 997) hw hI hi hsz
    exact post A (wrote d i pl (rest.fmod 997)) _ _ _ kF kN ⟨(h3.setG hi (ints_set hvs pl (rest.fmod 997) _)).setM him (ints_set hws pl (rest.fmod 997) _), w1, w2, lamK _ (fun q hq hr => mem_put (mem_put hq (hr (.gs i) hi)) (hr (.mir i) him)), w3.mono (by lia)⟩ gst_wrote (Ext.eq ok_wrote) (fun q hq hr _ => mem_put (mem_put (hsub q hq) (hr (.gs i) hi)) (hr (.mir i) him))
  by_cases q5 : f = 5
  · (repeat' (first | (k_unfold; (try dsimp only)) | (refine unhide (by assumption) ?_; (try dsimp only)) | ((fail_if_success (with_reducible first | show wpAny _ _ (exec (Stmt.While _ _ _ _) _) _ _ _ | show wpAny _ _ (exec (Stmt.For _ _ _ _ _) _) _ _ _ | show wpAny _ _ (exec (Stmt.Assign _ (Expr.ListComp _ _ _ _) _) _) _ _ _ | show wpAny _ _ (eval (Expr.ListComp _ _ _ _) _) _ _ _ | show wpAny _ _ (call (Value.type "enumerate") _) _ _ _ | show wpAny _ _ (call (Value.type "zip") _) _ _ _ | refine stand_ref (by decide) ?_)); first | ((with_reducible first | (refine execs_one (by assumption) fun _ => ?_) | (refine execs_hid fun _ _ _ => ?_))) | ((with_reducible show wpAny _ _ (call (Value.builtin "len") [Value.ref _]) _ _ _); k_dflt (refine len_at (by k_asm) (by k_mem) (by ktr_units) ?_; k_whole); (try simp only [refs_length])) | ((with_reducible show wpAny _ _ (subscriptTail _ _ (Value.ref _) (Value.int _ _)) _ _ _); (with_unfolding_all refine item_litK (News.isList (by k_asm) (by k_mem)) (by first | decide | omega) (by first | decide | omega) (by assumption) ?_ (by with_unfolding_all rfl); k_whole)) | ((with_reducible show wpAny _ _ (setItem (Value.ref _) (Value.int _ _) _) _ _ _); k_dflt (refine setI_at (by k_asm) (by k_asm) (by first | assumption | exact mem_put_self | exact mem_put (by first | assumption | exact mem_put_self | exact mem_put (by first | assumption | exact mem_put_self | exact mem_put (by assumption) (by ktr_unf)) (by ktr_unf)) (by ktr_unf)) (by first | decide | omega) (by ktr_units) (by ktr_units) ?_; k_whole); intro _ _ _; (try k_sweep)) | ((with_reducible show wpAny _ _ (call (Value.builtin "list.append") [Value.ref _, _]) _ _ _); k_dflt (refine app_at (by k_asm) (by k_asm) (by first | assumption | exact mem_put_self | exact mem_put (by first | assumption | exact mem_put_self | exact mem_put (by first | assumption | exact mem_put_self | exact mem_put (by assumption) (by ktr_unf)) (by ktr_unf)) (by ktr_unf)) (by ktr_units) ?_; k_whole); intro _ _ _; (try k_sweep)) | ((with_reducible show wpAny _ _ (getMethod (Value.ref _) (PySem.Str.ofString "append") _) _ _ _); k_dflt (refine listMethod_K (by k_asm) (by first | assumption | exact mem_put_self | exact mem_put (by first | assumption | exact mem_put_self | exact mem_put (by first | assumption | exact mem_put_self | exact mem_put (by assumption) (by ktr_unf)) (by ktr_unf)) (by ktr_unf)) PySem.F.slot_list_append PySem.F.type_list_append ?_)) | walk1 | ((with_reducible show wpAny _ _ (call (Value.builtin "list.append") [Value.ref _, _]) _ _ _); k_dflt (refine app_at (by k_asm) (by k_asm) (by k_mem) (by ktr_units) ?_; k_whole); intro _ _ _; (try k_sweep)) | (dsimp only; walk1) | fail "no step")))
    (rename Fr g L1 _ _ => F5); (rename News g L1 _ _ => N5)
    refine wpAny_call (closed_H ⟨B1, F5, X1, T1, N5, rfl, rfl⟩ (by ktr_room) (by ktr_room) h3 hw hI hsm hi lam3 ?_)
    intro h6 tk6 news' F6 N6 h7 k7 l7
    dsimp only
    (repeat' (first | (k_unfold; (try dsimp only)) | (refine unhide (by assumption) ?_; (try dsimp only)) | ((fail_if_success (with_reducible first | show wpAny _ _ (exec (Stmt.While _ _ _ _) _) _ _ _ | show wpAny _ _ (exec (Stmt.For _ _ _ _ _) _) _ _ _ | show wpAny _ _ (exec (Stmt.Assign _ (Expr.ListComp _ _ _ _) _) _) _ _ _ | show wpAny _ _ (eval (Expr.ListComp _ _ _ _) _) _ _ _ | show wpAny _ _ (call (Value.type "enumerate") _) _ _ _ | show wpAny _ _ (call (Value.type "zip") _) _ _ _ | refine stand_ref (by decide) ?_)); first | ((with_reducible first | (refine execs_one (by assumption) fun _ => ?_) | (refine execs_hid fun _ _ _ => ?_))) | ((with_reducible show wpAny _ _ (call (Value.builtin "len") [Value.ref _]) _ _ _); k_dflt (refine len_at (by k_asm) (by k_mem) (by ktr_units) ?_; k_whole); (try simp only [refs_length])) | ((with_reducible show wpAny _ _ (subscriptTail _ _ (Value.ref _) (Value.int _ _)) _ _ _); (with_unfolding_all refine item_litK (News.isList (by k_asm) (by k_mem)) (by first | decide | omega) (by first | decide | omega) (by assumption) ?_ (by with_unfolding_all rfl); k_whole)) | ((with_reducible show wpAny _ _ (setItem (Value.ref _) (Value.int _ _) _) _ _ _); k_dflt (refine setI_at (by k_asm) (by k_asm) (by first | assumption | exact mem_put_self | exact mem_put (by first | assumption | exact mem_put_self | exact mem_put (by first | assumption | exact mem_put_self | exact mem_put (by assumption) (by ktr_unf)) (by ktr_unf)) (by ktr_unf)) (by first | decide | omega) (by ktr_units) (by ktr_units) ?_; k_whole); intro _ _ _; (try k_sweep)) | ((with_reducible show wpAny _ _ (call (Value.builtin "list.append") [Value.ref _, _]) _ _ _); k_dflt (refine app_at (by k_asm) (by k_asm) (by first | assumption | exact mem_put_self | exact mem_put (by first | assumption | exact mem_put_self | exact mem_put (by first | assumption | exact mem_put_self | exact mem_put (by assumption) (by ktr_unf)) (by ktr_unf)) (by ktr_unf)) (by ktr_units) ?_; k_whole); intro _ _ _; (try k_sweep)) | ((with_reducible show wpAny _ _ (getMethod (Value.ref _) (PySem.Str.ofString "append") _) _ _ _); k_dflt (refine listMethod_K (by k_asm) (by first | assumption | exact mem_put_self | exact mem_put (by first | assumption | exact mem_put_self | exact mem_put (by first | assumption | exact mem_put_self | exact mem_put (by assumption) (by ktr_unf)) (by ktr_unf)) (by ktr_unf)) PySem.F.slot_list_append PySem.F.type_list_append ?_)) | walk1 | ((with_reducible show wpAny _ _ (call (Value.builtin "list.append") [Value.ref _, _]) _ _ _); k_dflt (refine app_at (by k_asm) (by k_asm) (by k_mem) (by ktr_units) ?_; k_whole); intro _ _ _; (try k_sweep)) | (dsimp only; walk1) | fail "no step")))
    (rename Fr h₀ _ _ _ => kF); (rename News h₀ _ _ _ => kN)
    obtain ⟨w1, w2, w3⟩ := shutAll_keep (lv := pl) hw hI hi hsz
    exact post A (shutAll d i pl) _ _ _ kF kN ⟨h7, w1, w2, l7, w3.mono (by lia)⟩ (by rw [gst_shutAll]) (Ext.eq ok_shutAll) (fun q hq hr h172 => k7 q (hsub q hq) hr h172)
  by_cases q6 : f = 6
  · skip
    (repeat' (first | (k_unfold; (try dsimp only)) | (refine unhide (by assumption) ?_; (try dsimp only)) | ((fail_if_success (with_reducible first | show wpAny _ _ (exec (Stmt.While _ _ _ _) _) _ _ _ | show wpAny _ _ (exec (Stmt.For _ _ _ _ _) _) _ _ _ | show wpAny _ _ (exec (Stmt.Assign _ (Expr.ListComp _ _ _ _) _) _) _ _ _ | show wpAny _ _ (eval (Expr.ListComp _ _ _ _) _) _ _ _ | show wpAny _ _ (call (Value.type "enumerate") _) _ _ _ | show wpAny _ _ (call (Value.type "zip") _) _ _ _ | refine stand_ref (by decide) ?_)); first | ((with_reducible first | (refine execs_one (by assumption) fun _ => ?_) | (refine execs_hid fun _ _ _ => ?_))) | ((with_reducible show wpAny _ _ (call (Value.builtin "len") [Value.ref _]) _ _ _); k_dflt (refine len_at (by k_asm) (by k_mem) (by ktr_units) ?_; k_whole); (try simp only [refs_length])) | ((with_reducible show wpAny _ _ (subscriptTail _ _ (Value.ref _) (Value.int _ _)) _ _ _); (with_unfolding_all refine item_litK (News.isList (by k_asm) (by k_mem)) (by first | decide | omega) (by first | decide | omega) (by assumption) ?_ (by with_unfolding_all rfl); k_whole)) | ((with_reducible show wpAny _ _ (setItem (Value.ref _) (Value.int _ _) _) _ _ _); k_dflt (refine setI_at (by k_asm) (by k_asm) (by first | assumption | exact mem_put_self | exact mem_put (by first | assumption | exact mem_put_self | exact mem_put (by first | assumption | exact mem_put_self | exact mem_put (by assumption) (by ktr_unf)) (by ktr_unf)) (by ktr_unf)) (by first | decide | omega) (by ktr_units) (by ktr_units) ?_; k_whole); intro _ _ _; (try k_sweep)) | ((with_reducible show wpAny _ _ (call (Value.builtin "list.append") [Value.ref _, _]) _ _ _); k_dflt (refine app_at (by k_asm) (by k_asm) (by first | assumption | exact mem_put_self | exact mem_put (by first | assumption | exact mem_put_self | exact mem_put (by first | assumption | exact mem_put_self | exact mem_put (by assumption) (by ktr_unf)) (by ktr_unf)) (by ktr_unf)) (by ktr_units) ?_; k_whole); intro _ _ _; (try k_sweep)) | ((with_reducible show wpAny _ _ (getMethod (Value.ref _) (PySem.Str.ofString "append") _) _ _ _); k_dflt (refine listMethod_K (by k_asm) (by first | assumption | exact mem_put_self | exact mem_put (by first | assumption | exact mem_put_self | exact mem_put (by first | assumption | exact mem_put_self | exact mem_put (by assumption) (by ktr_unf)) (by ktr_unf)) (by ktr_unf)) PySem.F.slot_list_append PySem.F.type_list_append ?_)) | walk1 | ((with_reducible show wpAny _ _ (call (Value.builtin "list.append") [Value.ref _, _]) _ _ _); k_dflt (refine app_at (by k_asm) (by k_asm) (by k_mem) (by ktr_units) ?_; k_whole); intro _ _ _; (try k_sweep)) | (dsimp only; walk1) | fail "no step")))
    (rename Fr h₀ _ _ _ => kF); (rename News h₀ _ _ _ => kN)
    obtain ⟨w1, w2, w3⟩ := pushed_keep (x := rest.fmod 991) hw hI hi hsz (by lia)
    exact post A (pushed d i (rest.fmod 991)) _ _ _ kF kN ⟨(h3.setG hi (ints_snoc hvs (rest.fmod 991) _)).setM him (ints_snoc hws (rest.fmod 991) _), w1, w2, lamK _ (fun q hq hr => mem_put (mem_put hq (hr (.gs i) hi)) (hr (.mir i) him)), w3⟩ gst_pushed (Ext.eq ok_pushed) (fun q hq hr _ => mem_put (mem_put (hsub q hq) (hr (.gs i) hi)) (hr (.mir i) him))
  · exfalso; lia
end

end
section
section
variable {prog : Program} {w : World} {A : Around} {h₀ : Heap} {L : Addr} {m : Str → Option Value} {env : Env} {s : Shared}
/-- a comprehension whose element makes objects: an invariant over the turns -/
theorem comp_inv {elt : PySem.Expr} {x : Str} {scope : Scope} {cl : List (Str × Addr)} {S : List (Addr × Obj) → Prop} {P : Nat → Value → Prop} {Fin : List Value → List (Addr × Obj) → Prop} {n : Nat} (J : Nat → List Value → List (Addr × Obj) → Prop)
    (turn : ∀ i ys news v I oI C oC D m₂ h tk (E' : Value → Shared → Prop), i < n → J i ys news → P i v → LCg.NsObj oC m₂ → m₂ x = some v → Fr h₀ L h m → News h₀ L h ((I, oI) :: (C, oC) :: (D, LCg.lst ys) :: news) → LCg.Off3 I C D news → ((@Ne Nat I C) ∧ (@Ne Nat I D) ∧ (@Ne Nat C D)) →
      wpAny (model prog w) A (eval elt (compEnvC scope cl C env)) (LCg.CompEnd h₀ L m { s with heap := h, toks := tk } I oI C oC D (LCg.lst ys) S (fun y news' => J (i + 1) (ys ++ [y]) news')) E' { s with heap := h, toks := tk })
    (fin : ∀ ys news, J n ys news → Fin ys news) : ∀ k i ys news, i + k = n → J i ys news → LCg.CompRest prog w A h₀ L m env elt x scope cl s S P Fin k i ys news := by
  intro k
  induction k with
  | zero =>
    intro i ys news e hJ
    have : i = n := by lia
    subst this
    exact LCg.CompRest.zero (fin _ _ hJ)
  | succ k ih =>
    intro i ys news e hJ
    refine LCg.CompRest.succ fun v I oI C oC D m₂ h tk E' hP hN hx F N off ne => ?_
    refine wpAny_mono (turn i ys news v I oI C oC D m₂ h tk E' (by lia) hJ hP hN hx F N off ne) (fun y s₂ hq => ?_) fun _ _ e => e
    obtain ⟨h', tk', news', e2, F', N', off', hS, hr⟩ := hq
    exact ⟨h', tk', news', e2, F', N', off', hS, ih (i + 1) _ _ (by lia) hr⟩
end

/-- a ground made: the object, its dict, its stack, its row -/
structure Gnd where
  i : Addr
  d : Addr
  s : Addr
  o : Addr
  deriving Inhabited
def flat : List Gnd → List Addr
  | [] => []
  | g :: r => g.d :: g.i :: g.s :: g.o :: flat r
theorem flat_append : ∀ (a b : List Gnd), flat (a ++ b) = flat a ++ flat b
  | [], _ => rfl
  | g :: r, b => by simp [flat, flat_append r b]
theorem flat_get : ∀ (gs : List Gnd) (i : Nat) (g : Gnd), gs[i]? = some g → (flat gs)[4 * i]? = some g.d ∧ (flat gs)[4 * i + 1]? = some g.i ∧ (flat gs)[4 * i + 2]? = some g.s ∧ (flat gs)[4 * i + 3]? = some g.o
  | [], i, g, h => by simp at h
  | a :: r, 0, g, h => by
    have : a = g := by simpa using h
    subst this
    exact ⟨rfl, rfl, rfl, rfl⟩
  | a :: r, i + 1, g, h => by
    obtain ⟨h1, h2, h3, h4⟩ := flat_get r i g (by simpa using h)
    have e : ∀ c, 4 * (i + 1) + c = (4 * i + c) + 1 + 1 + 1 + 1 := fun c => by lia
    refine ⟨?_, ?_, ?_, ?_⟩
    · have := e 0
      simp only [Nat.add_zero] at this
      rw [this]; simp only [flat, List.getElem?_cons_succ]; exact h1
    · rw [e 1]; simp only [flat, List.getElem?_cons_succ]; exact h2
    · rw [e 2]; simp only [flat, List.getElem?_cons_succ]; exact h3
    · rw [e 3]; simp only [flat, List.getElem?_cons_succ]; exact h4
def allAdr (SA GA CA KA : Addr) (ds : List Addr) (gs : List Gnd) : List Addr := SA :: GA :: CA :: KA :: (ds ++ flat gs)
def adr0 (SA GA CA KA : Addr) (ds : List Addr) (gs : List Gnd) : Role → Addr
  | .S => SA | .G => GA | .C => CA | .K => KA
  | .mir i => ds.getD i 0
  | .gi i => (gs.map (·.i)).getD i 0 | .gd i => (gs.map (·.d)).getD i 0 | .gs i => (gs.map (·.s)).getD i 0 | .go i => (gs.map (·.o)).getD i 0
  | _ => 0
def posOf (n : Nat) : Role → Nat
  | .S => 0 | .G => 1 | .C => 2 | .K => 3
  | .mir i => 4 + i
  | .gd i => 4 + n + 4 * i | .gi i => 4 + n + 4 * i + 1 | .gs i => 4 + n + 4 * i + 2 | .go i => 4 + n + 4 * i + 3
  | _ => 0
def dt0 (ls : List (List Int)) : Dt := { gst := ls, opn := ls.map fun _ => [], ups := [], kn := 0, mst := ls, cel := [] }
theorem adr0_pos {SA GA CA KA : Addr} {ds : List Addr} {gs : List Gnd} {ls : List (List Int)} (h1 : ds.length = ls.length) (h2 : gs.length = ls.length) : ∀ r, Ok (dt0 ls) r → (allAdr SA GA CA KA ds gs)[posOf ls.length r]? = some (adr0 SA GA CA KA ds gs r) := by
  intro r hr
  have c4 : ∀ k, (allAdr SA GA CA KA ds gs)[4 + k]? = (ds ++ flat gs)[k]? := fun k => by
    have : 4 + k = k + 1 + 1 + 1 + 1 := by lia
    rw [this]; simp only [allAdr, List.getElem?_cons_succ]
  have cf : ∀ k, (allAdr SA GA CA KA ds gs)[4 + ls.length + k]? = (flat gs)[k]? := fun k => by
    rw [Nat.add_assoc, c4, List.getElem?_append_right (by lia)]
    congr 1; lia
  have gget : ∀ i, i < ls.length → ∃ g, gs[i]? = some g := fun i hi => ⟨gs[i]'(by lia), by simp⟩
  cases r with
  | S => rfl
  | G => rfl
  | C => rfl
  | K => rfl
  | mir i =>
    have hi : i < ls.length := hr
    show (allAdr SA GA CA KA ds gs)[4 + i]? = _
    rw [c4, List.getElem?_append_left (by lia)]
    simp [adr0, List.getD, show i < ds.length by lia]
  | gi i =>
    obtain ⟨g, hg⟩ := gget i hr
    show (allAdr SA GA CA KA ds gs)[4 + ls.length + (4 * i + 1)]? = _
    rw [cf, (flat_get gs i g hg).2.1]; simp [adr0, List.getD, hg]
  | gd i =>
    obtain ⟨g, hg⟩ := gget i hr
    show (allAdr SA GA CA KA ds gs)[4 + ls.length + 4 * i]? = _
    rw [cf, (flat_get gs i g hg).1]; simp [adr0, List.getD, hg]
  | gs i =>
    obtain ⟨g, hg⟩ := gget i hr
    show (allAdr SA GA CA KA ds gs)[4 + ls.length + (4 * i + 2)]? = _
    rw [cf, (flat_get gs i g hg).2.2.1]; simp [adr0, List.getD, hg]
  | go i =>
    obtain ⟨g, hg⟩ := gget i hr
    show (allAdr SA GA CA KA ds gs)[4 + ls.length + (4 * i + 3)]? = _
    rw [cf, (flat_get gs i g hg).2.2.2]; simp [adr0, List.getD, hg]
  | cl k => exact absurd hr (Nat.not_lt_zero _)
  | ui k => exact absurd hr (Nat.not_lt_zero _)
  | ud k => exact absurd hr (Nat.not_lt_zero _)
theorem posOf_inj {ls : List (List Int)} : ∀ r r', Ok (dt0 ls) r → Ok (dt0 ls) r' → posOf ls.length r = posOf ls.length r' → r = r' := by
  intro r r' h h' e
  have c0 : ∀ k, ¬ k < (dt0 ls).cel.length := fun k => Nat.not_lt_zero _
  have u0 : ∀ k, ¬ k < (dt0 ls).ups.length := fun k => Nat.not_lt_zero _
  have lm : (dt0 ls).mst.length = ls.length := rfl
  have lg : (dt0 ls).gst.length = ls.length := rfl
  cases r <;> cases r' <;> simp only [Ok, lm, lg] at h h' <;> simp only [posOf] at e <;> first
    | rfl
    | (exfalso; exact c0 _ h) | (exfalso; exact c0 _ h') | (exfalso; exact u0 _ h) | (exfalso; exact u0 _ h')
    | (exfalso; lia)
    | (congr 1; lia)
theorem row_getD {f : Nat → Addr} {l : List Addr} {n : Nat} (h : l.length = n) (hf : ∀ i, i < n → f i = l.getD i 0) : row f n = l := by
  refine List.ext_getElem? fun i => ?_
  by_cases hi : i < n
  · rw [row_get hi, hf i hi]; simp [List.getD, show i < l.length by lia]
  · have e1 : (row f n).length ≤ i := by rw [row_length]; lia
    have e2 : l.length ≤ i := by lia
    rw [List.getElem?_eq_none e1, List.getElem?_eq_none e2]
theorem opnAt_dt0 {ls : List (List Int)} {i : Nat} : opnAt (dt0 ls) i = [] := by
  unfold opnAt dt0
  simp only [List.getD]
  rw [List.getElem?_map]
  cases ls[i]? <;> rfl
def GndOk (news : List (Addr × Obj)) (g : Gnd) (l : List Int) : Prop :=
  (g.i, instObj 100 g.d) ∈ news ∧ (∃ o, (g.d, o) ∈ news ∧ GroundDict o g.s g.o) ∧ (∃ vs n, IntsAre vs l ∧ (g.s, W.listOf vs.toArray n) ∈ news) ∧ ∃ n, (g.o, W.listOf #[] n) ∈ news
theorem GndOk.mono {a b : List (Addr × Obj)} {g : Gnd} {l : List Int} (h : GndOk a g l) (k : ∀ p ∈ a, p ∈ b) : GndOk b g l := by
  obtain ⟨h1, ⟨o, h2, h3⟩, ⟨vs, n, h4, h5⟩, ⟨n', h6⟩⟩ := h
  exact ⟨k _ h1, ⟨o, k _ h2, h3⟩, ⟨vs, n, h4, k _ h5⟩, ⟨n', k _ h6⟩⟩
theorem H_init {news : List (Addr × Obj)} {SA GA CA KA : Addr} {ds : List Addr} {gs : List Gnd} {ls : List (List Int)} (h1 : ds.length = ls.length) (h2 : gs.length = ls.length) (hnd : (allAdr SA GA CA KA ds gs).Nodup)
    (hS : ∃ n, (SA, W.listOf (refs ds).toArray n) ∈ news) (hG : ∃ n, (GA, W.listOf (refs (gs.map (·.i))).toArray n) ∈ news) (hC : ∃ n, (CA, W.listOf #[] n) ∈ news) (hK : ∃ n, (KA, W.listOf #[] n) ∈ news)
    (hm : ∀ i, i < ls.length → ∃ vs n, IntsAre vs (ls.getD i []) ∧ (ds.getD i 0, W.listOf vs.toArray n) ∈ news) (hg : ∀ i g, gs[i]? = some g → GndOk news g (ls.getD i [])) :
    H news (adr0 SA GA CA KA ds gs) (dt0 ls) where
  inj := fun r r' hr hr' e => by
    have e1 := adr0_pos (SA := SA) (GA := GA) (CA := CA) (KA := KA) h1 h2 r hr
    have e2 := adr0_pos (SA := SA) (GA := GA) (CA := CA) (KA := KA) h1 h2 r' hr'
    rw [e] at e1
    have hlt := (List.getElem?_eq_some_iff.mp e1).1
    exact posOf_inj r r' hr hr' ((List.getElem?_inj hlt hnd).mp (e1.trans e2.symm))
  has := fun r hr => by
    have gget : ∀ i, i < ls.length → ∃ g, gs[i]? = some g := fun i hi => ⟨gs[i]'(by lia), by simp⟩
    cases r with
    | S =>
      obtain ⟨n, h⟩ := hS
      refine ⟨_, h, n, ?_⟩
      have e : row (fun i => adr0 SA GA CA KA ds gs (.mir i)) (dt0 ls).mst.length = ds := row_getD h1 fun i _ => rfl
      rw [e]
    | G =>
      obtain ⟨n, h⟩ := hG
      refine ⟨_, h, n, ?_⟩
      have e : row (fun i => adr0 SA GA CA KA ds gs (.gi i)) (dt0 ls).gst.length = gs.map (·.i) := row_getD (by rw [List.length_map]; exact h2) fun i _ => rfl
      rw [e]
    | C => obtain ⟨n, h⟩ := hC; exact ⟨_, h, n, rfl⟩
    | K => obtain ⟨n, h⟩ := hK; exact ⟨_, h, n, rfl⟩
    | mir i =>
      obtain ⟨vs, n, h, h'⟩ := hm i hr
      exact ⟨_, h', vs, n, h, rfl⟩
    | gi i =>
      obtain ⟨g, hgi⟩ := gget i hr
      obtain ⟨q1, _⟩ := hg i g hgi
      have e1 : adr0 SA GA CA KA ds gs (.gi i) = g.i := by simp [adr0, List.getD, hgi]
      have e2 : adr0 SA GA CA KA ds gs (.gd i) = g.d := by simp [adr0, List.getD, hgi]
      refine ⟨instObj 100 g.d, by rw [e1]; exact q1, ?_⟩
      show instObj 100 g.d = instObj 100 _
      rw [e2]
    | gd i =>
      obtain ⟨g, hgi⟩ := gget i hr
      obtain ⟨_, ⟨o, q2, q3⟩, _⟩ := hg i g hgi
      have e1 : adr0 SA GA CA KA ds gs (.gd i) = g.d := by simp [adr0, List.getD, hgi]
      have e2 : adr0 SA GA CA KA ds gs (.gs i) = g.s := by simp [adr0, List.getD, hgi]
      have e3 : adr0 SA GA CA KA ds gs (.go i) = g.o := by simp [adr0, List.getD, hgi]
      refine ⟨o, by rw [e1]; exact q2, ?_⟩
      show GroundDict o _ _
      rw [e2, e3]; exact q3
    | gs i =>
      obtain ⟨g, hgi⟩ := gget i hr
      obtain ⟨_, _, ⟨vs, n, q4, q5⟩, _⟩ := hg i g hgi
      have e1 : adr0 SA GA CA KA ds gs (.gs i) = g.s := by simp [adr0, List.getD, hgi]
      exact ⟨_, by rw [e1]; exact q5, vs, n, q4, rfl⟩
    | go i =>
      obtain ⟨g, hgi⟩ := gget i hr
      obtain ⟨_, _, _, n, q6⟩ := hg i g hgi
      have e1 : adr0 SA GA CA KA ds gs (.go i) = g.o := by simp [adr0, List.getD, hgi]
      refine ⟨_, by rw [e1]; exact q6, n, ?_⟩
      rw [opnAt_dt0]; rfl
    | cl k => exact absurd hr (Nat.not_lt_zero _)
    | ui k => exact absurd hr (Nat.not_lt_zero _)
    | ud k => exact absurd hr (Nat.not_lt_zero _)
theorem dt0_keep {ls : List (List Int)} (h1 : 0 < ls.length) (h2 : ls.length ≤ 2) (hl : ∀ i, i < ls.length → 0 < (ls.getD i []).length ∧ (ls.getD i []).length ≤ 10) : Wf (dt0 ls) ∧ Inv (dt0 ls) ∧ Sz (dt0 ls) 0 := by
  have c0 : ∀ k, ¬ k < (dt0 ls).cel.length := fun k => Nat.not_lt_zero _
  have u0 : ∀ k, ¬ k < (dt0 ls).ups.length := fun k => Nat.not_lt_zero _
  have o0 : ∀ i k, ¬ k ∈ opnAt (dt0 ls) i := fun i k h => by rw [opnAt_dt0] at h; cases h
  have g0 : ∀ i, (gstAt (dt0 ls) i).length ≤ 10 := fun i => by
    by_cases hi : i < ls.length
    · exact (hl i hi).2
    · have : gstAt (dt0 ls) i = [] := by
        show ls.getD i [] = []
        simp [List.getD, List.getElem?_eq_none (Nat.not_lt.mp hi)]
      rw [this]; simp
  have m0 : ∀ i, mstAt (dt0 ls) i = gstAt (dt0 ls) i := fun i => rfl
  refine ⟨⟨by simp [dt0], rfl, Nat.le_refl _, rfl, Nat.zero_le _, ?_, ?_, ?_, ?_, ?_, ?_, ?_, ?_⟩, ⟨rfl, rfl, ?_, ?_, ?_, ?_, ?_, ?_⟩, ⟨Nat.le_refl _, g0, h1, h2⟩⟩
  · show ls.length ≤ 10; lia
  · intro i; rw [opnAt_dt0]; exact Nat.zero_le _
  · intro i; have := g0 i; lia
  · intro i; rw [m0]; have := g0 i; lia
  · intro i k hk; exact absurd hk (o0 i k)
  · intro i k hk; exact absurd hk (o0 i k)
  · intro i; rw [opnAt_dt0]; exact List.nodup_nil
  · intro k hk; exact absurd hk (u0 k)
  · intro k hk; exact absurd hk (c0 k)
  · intro k hk; exact absurd hk (c0 k)
  · intro k hk; exact absurd hk (c0 k)
  · intro i k hk; exact absurd hk (o0 i k)
  · intro i; unfold ixsAt; rw [opnAt_dt0]; exact List.Pairwise.nil
  · intro i hi; exact (hl i hi).1
/-- the grounds made so far -/
structure GndJ (led3 : List (Addr × Obj)) (ls : List (List Int)) (i : Nat) (ys : List Value) (nx : List (Addr × Obj)) (gs : List Gnd) : Prop where
  len : gs.length = i
  ys : ys = refs (gs.map (·.i))
  sub : ∀ q ∈ led3, q ∈ nx
  ok : ∀ (j : Nat) (g : Gnd), gs[j]? = some g → GndOk nx g (ls.getD j [])
  ord : (flat gs).Pairwise (· < ·)
  fr : ∀ a ∈ flat gs, ∀ q ∈ led3, q.1 < a
  mem : ∀ a ∈ flat gs, ∃ o, (a, o) ∈ nx
theorem GndJ.snoc {led3 nx : List (Addr × Obj)} {ls : List (List Int)} {i : Nat} {ys : List Value} {gs : List Gnd} (h : GndJ led3 ls i ys nx gs) {g : Gnd} {o : Obj} {vs : List Value} {c : Nat} (hg : GroundDict o g.s g.o) (hi : IntsAre vs (ls.getD i [])) (fr : ∀ q ∈ nx, q.1 < g.d) (h1 : g.d < g.i) (h2 : g.i < g.s) (h3 : g.s < g.o) :
    GndJ led3 ls (i + 1) (ys ++ [.ref g.i]) ((g.o, W.listOf #[] 0) :: (g.s, W.listOf vs.toArray c) :: (g.i, instObj 100 g.d) :: (g.d, o) :: nx) (gs ++ [g]) where
  len := by simp [h.len]
  ys := by rw [h.ys]; simp [refs]
  sub := fun q hq => .tail _ (.tail _ (.tail _ (.tail _ (h.sub q hq))))
  ok := fun j g' hj => by
    rcases Nat.lt_trichotomy j gs.length with hl | hl | hl
    · rw [List.getElem?_append_left hl] at hj
      exact (h.ok j g' hj).mono fun q hq => .tail _ (.tail _ (.tail _ (.tail _ hq)))
    · subst hl
      simp at hj
      subst hj
      rw [h.len]
      exact ⟨.tail _ (.tail _ (.head _)), ⟨o, .tail _ (.tail _ (.tail _ (.head _))), hg⟩, ⟨vs, c, hi, .tail _ (.head _)⟩, 0, .head _⟩
    · have := (List.getElem?_eq_some_iff.mp hj).1
      simp at this; lia
  ord := by
    rw [flat_append]
    have a1 := Nat.lt_trans h1 h2
    have a2 := Nat.lt_trans a1 h3
    have a3 := Nat.lt_trans h2 h3
    refine List.pairwise_append.mpr ⟨h.ord, ?_, fun a ha b hb => ?_⟩
    · simp only [flat, List.pairwise_cons, List.mem_cons, List.not_mem_nil, or_false]
      refine ⟨?_, ?_, ?_, ?_, List.Pairwise.nil⟩
      · rintro x (rfl | rfl | rfl) <;> assumption
      · rintro x (rfl | rfl) <;> assumption
      · rintro x rfl; assumption
      · intro x hx; cases hx
    · obtain ⟨oa, hoa⟩ := h.mem a ha
      have h0 : a < g.d := fr _ hoa
      simp only [flat, List.mem_cons, List.not_mem_nil, or_false] at hb
      rcases hb with rfl | rfl | rfl | rfl
      · exact h0
      · exact Nat.lt_trans h0 h1
      · exact Nat.lt_trans h0 a1
      · exact Nat.lt_trans h0 a2
  fr := fun a ha q hq => by
    rw [flat_append] at ha
    rcases List.mem_append.mp ha with ha | ha
    · exact h.fr a ha q hq
    · have h0 : q.1 < g.d := fr _ (h.sub q hq)
      have a1 := Nat.lt_trans h1 h2
      simp only [flat, List.mem_cons, List.not_mem_nil, or_false] at ha
      rcases ha with rfl | rfl | rfl | rfl
      · exact h0
      · exact Nat.lt_trans h0 h1
      · exact Nat.lt_trans h0 a1
      · exact Nat.lt_trans h0 (Nat.lt_trans a1 h3)
  mem := fun a ha => by
    rw [flat_append] at ha
    rcases List.mem_append.mp ha with ha | ha
    · obtain ⟨oa, hoa⟩ := h.mem a ha
      exact ⟨oa, .tail _ (.tail _ (.tail _ (.tail _ hoa)))⟩
    · simp only [flat, List.mem_cons, List.not_mem_nil, or_false] at ha
      rcases ha with rfl | rfl | rfl | rfl
      · exact ⟨_, .tail _ (.tail _ (.tail _ (.head _)))⟩
      · exact ⟨_, .tail _ (.tail _ (.head _))⟩
      · exact ⟨_, .tail _ (.head _)⟩
      · exact ⟨_, .head _⟩
theorem gnd_nodup {led3 nx : List (Addr × Obj)} {ls : List (List Int)} {i : Nat} {ys : List Value} {gs : List Gnd} {SA GA CA KA : Addr} {ds : List Addr} (h : GndJ led3 ls i ys nx gs) (hds : (SA :: ds).Nodup) (hm : ∀ a ∈ SA :: ds, ∃ o, (a, o) ∈ led3)
    (hG : ∀ q ∈ nx, q.1 ≠ GA) (hC : ∀ q ∈ nx, q.1 < CA) (hGC : GA < CA) (hCK : CA < KA) : (allAdr SA GA CA KA ds gs).Nodup := by
  obtain ⟨hSd, hdn⟩ := List.nodup_cons.mp hds
  have all : ∀ a, a ∈ SA :: (ds ++ flat gs) → ∃ o, (a, o) ∈ nx := fun a ha => by
    rcases List.mem_cons.mp ha with rfl | ha
    · obtain ⟨o, ho⟩ := hm a (List.mem_cons_self ..); exact ⟨o, h.sub _ ho⟩
    · rcases List.mem_append.mp ha with ha | ha
      · obtain ⟨o, ho⟩ := hm a (List.mem_cons_of_mem _ ha); exact ⟨o, h.sub _ ho⟩
      · exact h.mem a ha
  have nG : ∀ a, a ∈ SA :: (ds ++ flat gs) → a ≠ GA := fun a ha => by obtain ⟨o, ho⟩ := all a ha; exact hG _ ho
  have nC : ∀ a, a ∈ SA :: (ds ++ flat gs) → a < CA := fun a ha => by obtain ⟨o, ho⟩ := all a ha; exact hC _ ho
  have n1 : (ds ++ flat gs).Nodup := List.nodup_append.mpr ⟨hdn, h.ord.imp fun h => Nat.ne_of_lt h, fun a ha b hb => by
    obtain ⟨o, ho⟩ := hm a (List.mem_cons_of_mem _ ha)
    exact Nat.ne_of_lt (h.fr b hb _ ho)⟩
  have n2 : SA ∉ ds ++ flat gs := fun hx => by
    rcases List.mem_append.mp hx with hx | hx
    · exact hSd hx
    · obtain ⟨o, ho⟩ := hm SA (List.mem_cons_self ..)
      exact Nat.lt_irrefl _ (h.fr SA hx _ ho)
  have sS := nC SA (List.mem_cons_self ..)
  refine List.nodup_cons.mpr ⟨fun hx => ?_, List.nodup_cons.mpr ⟨fun hx => ?_, List.nodup_cons.mpr ⟨fun hx => ?_, List.nodup_cons.mpr ⟨fun hx => ?_, n1⟩⟩⟩⟩
  · rcases List.mem_cons.mp hx with e | hx
    · exact nG SA (List.mem_cons_self ..) e
    · rcases List.mem_cons.mp hx with e | hx
      · exact Nat.ne_of_lt sS e
      · rcases List.mem_cons.mp hx with e | hx
        · exact Nat.ne_of_lt (Nat.lt_trans sS hCK) e
        · exact n2 hx
  · rcases List.mem_cons.mp hx with e | hx
    · exact Nat.ne_of_lt hGC e
    · rcases List.mem_cons.mp hx with e | hx
      · exact Nat.ne_of_lt (Nat.lt_trans hGC hCK) e
      · exact nG GA (List.mem_cons_of_mem _ hx) rfl
  · rcases List.mem_cons.mp hx with e | hx
    · exact Nat.ne_of_lt hCK e
    · exact Nat.lt_irrefl _ (nC CA (List.mem_cons_of_mem _ hx))
  · exact Nat.lt_irrefl _ (Nat.lt_trans (nC KA (List.mem_cons_of_mem _ hx)) hCK)
theorem ground_sub {a1 a2 a3 a4 b1 b2 b3 : Addr × Obj} {nx : List (Addr × Obj)} : ∀ p ∈ b1 :: b2 :: b3 :: a1 :: a2 :: a3 :: a4 :: nx, p ∈ a1 :: a2 :: a3 :: a4 :: b1 :: b2 :: b3 :: nx := fun p hp => by
  simp only [List.mem_cons] at hp ⊢
  rcases hp with h | h | h | h | h | h | h | h
  · exact .inr (.inr (.inr (.inr (.inl h))))
  · exact .inr (.inr (.inr (.inr (.inr (.inl h)))))
  · exact .inr (.inr (.inr (.inr (.inr (.inr (.inl h))))))
  · exact .inl h
  · exact .inr (.inl h)
  · exact .inr (.inr (.inl h))
  · exact .inr (.inr (.inr (.inl h)))
  · exact .inr (.inr (.inr (.inr (.inr (.inr (.inr h))))))
theorem ground_end {I C D y dy sl ol : Addr} {oI oC oD o1 o2 o3 o4 : Obj} {nx : List (Addr × Obj)} (fr : ∀ q ∈ (I, oI) :: (C, oC) :: (D, oD) :: nx, q.1 < dy) (f1 : dy < y) (f2 : y < sl) (f3 : sl < ol) (off : LCg.Off3 I C D nx) :
    LCg.Off3 I C D ((ol, o1) :: (sl, o2) :: (y, o3) :: (dy, o4) :: nx) := by
  have i1 : I < dy := fr _ (.head _)
  have i2 : C < dy := fr _ (.tail _ (.head _))
  have i3 : D < dy := fr _ (.tail _ (.tail _ (.head _)))
  have e : ∀ a : Addr, dy ≤ a → ((@Ne Nat a I) ∧ (@Ne Nat a C) ∧ (@Ne Nat a D)) := fun a ha => ⟨Nat.ne_of_gt (Nat.lt_of_lt_of_le i1 ha), Nat.ne_of_gt (Nat.lt_of_lt_of_le i2 ha), Nat.ne_of_gt (Nat.lt_of_lt_of_le i3 ha)⟩
  have l1 := Nat.le_of_lt f1
  have l2 := Nat.le_trans l1 (Nat.le_of_lt f2)
  have l3 := Nat.le_trans l2 (Nat.le_of_lt f3)
  exact ⟨e _ l3, e _ l2, e _ l1, e _ (Nat.le_refl _), off⟩

end
section
theorem Good.mono {a b : List (Addr × Obj)} {A : Role → Addr} {d : Dt} {c : Nat} (g : Good a A d c) (k : ∀ p ∈ a, p ∈ b) : Good b A d c := ⟨g.h.mono k, g.w, g.i, g.l.mono k, g.sz⟩
theorem Lam.at172 {news : List (Addr × Obj)} (l : Lam news) : ∃ o, ((172 : Addr), o) ∈ news := by
  rcases l with l | ⟨c', oc, vs, t, h1, _⟩
  · exact ⟨_, l⟩
  · exact ⟨_, h1⟩
theorem Good.off {news : List (Addr × Obj)} {A : Role → Addr} {d : Dt} {c : Nat} {h₀ h : Heap} {L I : Addr} {oI : Obj} (G : Good news A d c) (N : News h₀ L h news) (hI : (I, oI) ∈ news) (hoI : ∀ vs q t, oI.data = .fields vs → vs[1]? ≠ some (.str q t)) (hr : ∀ r, Ok d r → A r ≠ I) (h172 : (172 : Addr) ≠ I) :
    Good (news.filter fun p => p.1 != I) A d c := by
  have keep : ∀ a o, (a, o) ∈ news → a ≠ I → (a, o) ∈ news.filter fun p => p.1 != I := fun a o hm hn => List.mem_filter.mpr ⟨hm, by simpa using hn⟩
  refine ⟨⟨G.h.inj, fun r hr' => ?_⟩, G.w, G.i, ?_, G.sz⟩
  · obtain ⟨o, a, b⟩ := G.h.has r hr'
    exact ⟨o, keep _ _ a (hr r hr'), b⟩
  · rcases G.l with l | ⟨c', oc, vs, t, h1, h2, h3, h4⟩
    · exact .inl (keep _ _ l h172)
    · exact .inr ⟨c', oc, vs, t, keep _ _ h1 h172, keep _ _ h2 (ne_of_obj N h2 hI fun e => hoI vs _ t (e ▸ h3) h4), h3, h4⟩
/-- what holds between the law's turns -/
def LawJ (A0 : Role → Addr) (D cS DN : Addr) (oD oS oN : Obj) (i : Nat) (nx : List (Addr × Obj)) : Prop :=
  ∃ A d, Good nx A d i ∧ A .S = A0 .S ∧ A .G = A0 .G ∧ A .C = A0 .C ∧ A .K = A0 .K ∧ (∀ r, Ok d r → D ≠ A r ∧ cS ≠ A r ∧ DN ≠ A r) ∧ (D, oD) ∈ nx ∧ (cS, oS) ∈ nx ∧ (DN, oN) ∈ nx
section
variable {A0 A A2 : Role → Addr} {D cS DN I : Addr} {oD oS oN oI : Obj} {i c : Nat} {nx own news' : List (Addr × Obj)} {d d2 : Dt} {h₀ h h' : Heap} {L : Addr}
theorem turn_step (G : Good nx A d i) (aS : A .S = A0 .S) (aG : A .G = A0 .G) (aC : A .C = A0 .C) (aK : A .K = A0 .K) (off : ∀ r, Ok d r → D ≠ A r ∧ cS ≠ A r ∧ DN ≠ A r) (mD : (D, oD) ∈ nx) (mS : (cS, oS) ∈ nx) (mN : (DN, oN) ∈ nx)
    (fD : ∀ ps, oD.data ≠ .fields ps) (fS : ∀ ps, oS.data ≠ .fields ps) (fN : ∀ ps, oN.data ≠ .fields ps) (N : News h₀ L h (nx ++ own)) (hnx : ∀ p ∈ nx, p.1 ≠ I) (hown : ∀ p ∈ own, p.1 = I ∨ p.1 = DN)
    (hI : (I, oI) ∈ own) (hoI : ∀ vs q t, oI.data = .fields vs → vs[1]? ≠ some (.str q t)) (N' : News h₀ L h' news') (G2 : Good news' A2 d2 c) (ext : Ext A d (nx ++ own) A2 d2) (k2 : Kept2 A d (nx ++ own) news') :
    LawJ A0 D cS DN oD oS oN c (news'.filter fun p => p.1 != I) ∧ (∀ q ∈ own, q ∈ news') := by
  have Nnx : News h₀ L h nx := fun q hq => N q (List.mem_append_left _ hq)
  obtain ⟨o172, m172⟩ := G.l.at172
  have n172 : (172 : Addr) ≠ I := hnx _ m172
  have rI : ∀ r, Ok d r → A r ≠ I := fun r hr => by obtain ⟨o, a, _⟩ := G.h.has r hr; exact hnx _ a
  have dD := G.l.ne Nnx mD fD
  have dS := G.l.ne Nnx mS fS
  have dN := G.l.ne Nnx mN fN
  have ko : ∀ q ∈ own, q ∈ news' := fun q hq => k2 q (List.mem_append_right _ hq) (fun r hr => by
    rcases hown q hq with e | e
    · rw [e]; exact (rI r hr).symm
    · rw [e]; exact (off r hr).2.2) (by
    rcases hown q hq with e | e
    · rw [e]; exact n172.symm
    · rw [e]; exact dN)
  have rI2 : ∀ r, Ok d2 r → A2 r ≠ I := fun r hr => by
    by_cases q : Ok d r
    · rw [ext.same r q]; exact rI r q
    · exact (ext.new r hr q _ (List.mem_append_right _ hI)).symm
  have keep : ∀ a o, (a, o) ∈ nx → a ≠ 172 → (∀ r, Ok d r → a ≠ A r) → (a, o) ∈ news'.filter fun p => p.1 != I := fun a o hm h1 h2 => List.mem_filter.mpr ⟨k2 _ (List.mem_append_left _ hm) h2 h1, by simpa using hnx _ hm⟩
  have new : ∀ a o, (a, o) ∈ nx → (∀ r, Ok d r → a ≠ A r) → ∀ r, Ok d2 r → a ≠ A2 r := fun a o hm h2 r hr => by
    by_cases q : Ok d r
    · rw [ext.same r q]; exact h2 r q
    · exact ext.new r hr q _ (List.mem_append_left _ hm)
  refine ⟨⟨A2, d2, G2.off N' (ko _ hI) hoI rI2 n172, (ext.same .S trivial).trans aS, (ext.same .G trivial).trans aG, (ext.same .C trivial).trans aC, (ext.same .K trivial).trans aK, fun r hr => ⟨new D oD mD (fun r hr => (off r hr).1) r hr, new cS oS mS (fun r hr => (off r hr).2.1) r hr, new DN oN mN (fun r hr => (off r hr).2.2) r hr⟩,
    keep D oD mD dD fun r hr => (off r hr).1, keep cS oS mS dS fun r hr => (off r hr).2.1, keep DN oN mN dN fun r hr => (off r hr).2.2⟩, ko⟩
end
theorem filter_sub {I : Addr} {l : List (Addr × Obj)} : ∀ p ∈ l.filter (fun p => p.1 != I), p ∈ l := fun _ h => (List.mem_filter.mp h).1
theorem filter_ne {I : Addr} {l : List (Addr × Obj)} : ∀ p ∈ l.filter (fun p => p.1 != I), p.1 ≠ I := fun _ h => by simpa using (List.mem_filter.mp h).2
section
variable {A : Role → Addr} {D cS I : Addr} {oD oS oI : Obj} {c : Nat} {nx own big : List (Addr × Obj)} {d : Dt} {h₀ h : Heap} {L : Addr}
theorem turn2 (N : News h₀ L h big) (G : Good big A d c) (kk : ∀ q ∈ nx ++ own, (∀ r, Ok d r → q.1 ≠ A r) → q.1 ≠ 172 → q ∈ big) (hnx : ∀ p ∈ nx, p.1 ≠ I) (hown : ∀ p ∈ own, p.1 = I) (hI : (I, oI) ∈ own) (hoI : ∀ vs q t, oI.data = .fields vs → vs[1]? ≠ some (.str q t))
    (rI : ∀ r, Ok d r → A r ≠ I) (n172 : (172 : Addr) ≠ I) (kD : (D, oD) ∈ nx) (kS : (cS, oS) ∈ nx) (dD : D ≠ 172) (dS : cS ≠ 172) (fD : ∀ r, Ok d r → D ≠ A r) (fS : ∀ r, Ok d r → cS ≠ A r) :
    Good (big.filter fun p => p.1 != I) A d c ∧ (∀ q ∈ own, q ∈ big) ∧ (D, oD) ∈ (big.filter fun p => p.1 != I) ∧ (cS, oS) ∈ big.filter fun p => p.1 != I := by
  have ko : ∀ q ∈ own, q ∈ big := fun q hq => kk q (List.mem_append_right _ hq) (fun r hr => by rw [hown q hq]; exact (rI r hr).symm) (by rw [hown q hq]; exact n172.symm)
  refine ⟨G.off N (ko _ hI) hoI rI n172, ko, List.mem_filter.mpr ⟨kk _ (List.mem_append_left _ kD) fD dD, by simpa using hnx _ kD⟩, List.mem_filter.mpr ⟨kk _ (List.mem_append_left _ kS) fS dS, by simpa using hnx _ kS⟩⟩
end

end
section
theorem ite_beq_ff2 {a b : Int} {P Q : Prop} (h : a ≠ b) (q : Q) : if (a == b) = true then P else Q := by
  rw [if_neg (by simpa using h)]; exact q
theorem ite_beq_tt2 {a b : Int} {P Q : Prop} (h : a = b) (q : P) : if (a == b) = true then P else Q := by
  rw [if_pos (by simpa using h)]; exact q
local macro_rules | `(tactic| walk_at "ite") => `(tactic| first | (refine ite_beq_ff2 (by assumption) ?_) | (refine ite_beq_tt2 (by assumption) ?_))
theorem law_b {h₀ h : Heap} {L : Addr} {a b : Addr × Obj} {led : List (Addr × Obj)} (N : News h₀ L h (a :: b :: led)) : ∃ led', (∀ q ∈ led, q ∈ led') ∧ a ∈ led' ∧ b ∈ led' ∧ News h₀ L h led' := ⟨_, in_cons2, .head _, .tail _ (.head _), N⟩
theorem law_m {h₀ h : Heap} {L : Addr} {m : Str → Option Value} {x : Str} {v : Value} (F : Fr h₀ L h m) (e : m x = some v) : ∃ m', m' x = some v ∧ Fr h₀ L h m' := ⟨m, e, F⟩
/-- the stacks made -/
structure Stk (led1 led : List (Addr × Obj)) (SA : Addr) (ds : List Addr) (ls : List (List Int)) : Prop where
  sub : ∀ q ∈ led1, q ∈ led
  top : ∃ n, (SA, W.listOf (refs ds).toArray n) ∈ led
  len : ds.length = ls.length
  lo : 0 < ls.length
  hi : ls.length ≤ 2
  it : ∀ i, i < ls.length → ∃ vs n, IntsAre vs (ls.getD i []) ∧ (ds.getD i 0, W.listOf vs.toArray n) ∈ led
  fit : ∀ i, i < ls.length → 0 < (ls.getD i []).length ∧ (ls.getD i []).length ≤ 10
  nd : (SA :: ds).Nodup
  off : ∀ a ∈ SA :: ds, ∀ q ∈ led1, q.1 ≠ a
theorem stk1 {led1 led : List (Addr × Obj)} {SA D4 : Addr} {l0 : List Int} {ys : List Value} {n e : Nat} (sub : ∀ q ∈ led1, q ∈ led) (h1 : (SA, W.listOf [Value.ref D4].toArray n) ∈ led) (h2 : (D4, W.listOf ys.toArray e) ∈ led) (hi : IntsAre ys l0) (h0 : 0 < l0.length) (h10 : l0.length ≤ 10) (hne : D4 ≠ SA) (f0 : ∀ q ∈ led1, q.1 < D4) (fS : ∀ q ∈ led1, q.1 < SA) :
    Stk led1 led SA [D4] [l0] where
  sub := sub
  top := ⟨n, h1⟩
  len := rfl
  lo := Nat.succ_pos _
  hi := by simp
  it := fun i hi' => by
    have : i = 0 := by simp at hi'; exact hi'
    subst this
    exact ⟨ys, e, hi, h2⟩
  fit := fun i hi' => by
    have : i = 0 := by simp at hi'; exact hi'
    subst this
    exact ⟨h0, h10⟩
  nd := by simp [Ne.symm hne]
  off := fun a ha q hq => by
    simp only [List.mem_cons, List.not_mem_nil, or_false] at ha
    rcases ha with rfl | rfl
    · exact Nat.ne_of_lt (fS q hq)
    · exact Nat.ne_of_lt (f0 q hq)
theorem stk2 {led1 led : List (Addr × Obj)} {SA D4 D5 : Addr} {l0 l1 : List Int} {ys ys1 : List Value} {n e e1 : Nat} (sub : ∀ q ∈ led1, q ∈ led) (h1 : (SA, W.listOf [Value.ref D4, Value.ref D5].toArray n) ∈ led) (h2 : (D4, W.listOf ys.toArray e) ∈ led) (h3 : (D5, W.listOf ys1.toArray e1) ∈ led)
    (hi : IntsAre ys l0) (hi1 : IntsAre ys1 l1) (h0 : 0 < l0.length) (h10 : l0.length ≤ 10) (h0' : 0 < l1.length) (h10' : l1.length ≤ 10) (hne : D4 < SA) (hne1 : SA < D5) (f0 : ∀ q ∈ led1, q.1 < D4) (fS : ∀ q ∈ led1, q.1 < SA) (f1 : ∀ q ∈ led1, q.1 < D5) : Stk led1 led SA [D4, D5] [l0, l1] where
  sub := sub
  top := ⟨n, h1⟩
  len := rfl
  lo := Nat.succ_pos _
  hi := by simp
  it := fun i hi' => by
    match i with
    | 0 => exact ⟨ys, e, hi, h2⟩
    | 1 => exact ⟨ys1, e1, hi1, h3⟩
    | i + 2 => simp at hi'; lia
  fit := fun i hi' => by
    match i with
    | 0 => exact ⟨h0, h10⟩
    | 1 => exact ⟨h0', h10'⟩
    | i + 2 => simp at hi'; lia
  nd := by
    have a1 : SA ≠ D4 := Nat.ne_of_gt hne
    have a2 : SA ≠ D5 := Nat.ne_of_lt hne1
    have a3 : D4 ≠ D5 := Nat.ne_of_lt (Nat.lt_trans hne hne1)
    simp [a1, a2, a3]
  off := fun a ha q hq => by
    simp only [List.mem_cons, List.not_mem_nil, or_false] at ha
    rcases ha with rfl | rfl | rfl
    · exact Nat.ne_of_lt (fS q hq)
    · exact Nat.ne_of_lt (f0 q hq)
    · exact Nat.ne_of_lt (f1 q hq)
theorem law_c {h₀ h : Heap} {L T KA CA GA SA : Addr} {oT : Obj} {nx led1 led3 : List (Addr × Obj)} {ys : List Value} {gs : List Gnd} {ds : List Addr} {ls : List (List Int)} (N : News h₀ L h ((T, oT) :: (KA, W.listOf #[] 0) :: (CA, W.listOf #[] 0) :: (GA, LCg.lst ys) :: nx))
    (hJ : GndJ led3 ls ls.length ys nx gs) (S : Stk led1 led3 SA ds ls) (off : LCg.Off1 GA nx) (l1 : GA < CA ∧ AllLt CA nx) (l2 : CA < KA ∧ GA < KA ∧ AllLt KA nx) (lam : Lam led1) :
    ∃ led5 A, News h₀ L h led5 ∧ Good led5 A (dt0 ls) 0 ∧ A .S = SA ∧ A .G = GA ∧ A .C = CA ∧ A .K = KA ∧ (∀ q ∈ led1, q ∈ led5) ∧ ∀ q ∈ led1, ∀ r, Ok (dt0 ls) r → q.1 ≠ A r := by
  have off1 : ∀ (l : List (Addr × Obj)), LCg.Off1 GA l → ∀ q ∈ l, q.1 ≠ GA := fun l => by
    induction l with
    | nil => intro _ q hq; cases hq
    | cons p r ih =>
      intro h q hq
      rcases List.mem_cons.mp hq with rfl | hq
      · exact h.1
      · exact ih h.2 q hq
  have hG := off1 nx off
  have up : ∀ q ∈ nx, q ∈ (T, oT) :: (KA, W.listOf #[] 0) :: (CA, W.listOf #[] 0) :: (GA, LCg.lst ys) :: nx := fun q hq => .tail _ (.tail _ (.tail _ (.tail _ hq)))
  have hms : ∀ a ∈ SA :: ds, ∃ o, (a, o) ∈ led3 := fun a ha => by
    rcases List.mem_cons.mp ha with rfl | ha
    · obtain ⟨n, h⟩ := S.top; exact ⟨_, h⟩
    · obtain ⟨i, hi⟩ := List.mem_iff_getElem?.mp ha
      have hlt := (List.getElem?_eq_some_iff.mp hi).1
      obtain ⟨vs, n, _, h⟩ := S.it i (by rw [← S.len]; exact hlt)
      have e : ds.getD i 0 = a := by simp [List.getD, hi]
      rw [e] at h
      exact ⟨_, h⟩
  have hnd := gnd_nodup hJ S.nd hms hG (allLt_all l1.2) l1.1 l2.1
  have hH : H ((T, oT) :: (KA, W.listOf #[] 0) :: (CA, W.listOf #[] 0) :: (GA, LCg.lst ys) :: nx) (adr0 SA GA CA KA ds gs) (dt0 ls) := by
    refine H_init S.len hJ.len hnd ?_ ?_ ⟨0, .tail _ (.tail _ (.head _))⟩ ⟨0, .tail _ (.head _)⟩ ?_ ?_
    · obtain ⟨n, h⟩ := S.top; exact ⟨n, up _ (hJ.sub _ h)⟩
    · refine ⟨ys.length, ?_⟩
      rw [← hJ.ys]
      exact .tail _ (.tail _ (.tail _ (.head _)))
    · intro i hi
      obtain ⟨vs, n, h, h'⟩ := S.it i hi
      exact ⟨vs, n, h, up _ (hJ.sub _ h')⟩
    · intro i g hg
      exact (hJ.ok i g hg).mono up
  obtain ⟨w1, w2, w3⟩ := dt0_keep S.lo S.hi S.fit
  refine ⟨_, _, N, ⟨hH, w1, w2, lam.mono fun q hq => up _ (hJ.sub _ (S.sub q hq)), w3⟩, rfl, rfl, rfl, rfl, fun q hq => up _ (hJ.sub _ (S.sub q hq)), fun q hq r hr e => ?_⟩
  have hp := adr0_pos (SA := SA) (GA := GA) (CA := CA) (KA := KA) S.len hJ.len r hr
  rw [← e] at hp
  have hm := List.mem_of_getElem? hp
  have qn := hJ.sub _ (S.sub q hq)
  unfold allAdr at hm
  rcases List.mem_cons.mp hm with e | hm
  · exact S.off SA (List.mem_cons_self ..) q hq e
  rcases List.mem_cons.mp hm with e | hm
  · exact hG q qn e
  rcases List.mem_cons.mp hm with e | hm
  · exact Nat.ne_of_lt (allLt_all l1.2 q qn) e
  rcases List.mem_cons.mp hm with e | hm
  · exact Nat.ne_of_lt (allLt_all l2.2.2 q qn) e
  rcases List.mem_append.mp hm with hm | hm
  · exact S.off _ (List.mem_cons_of_mem _ hm) q hq rfl
  · exact Nat.lt_irrefl _ (hJ.fr _ hm q (S.sub q hq))
theorem law_d {h₀ h : Heap} {L a : Addr} {o : Obj} {b c : Addr × Obj} {led : List (Addr × Obj)} (N : News h₀ L h ((a, o) :: b :: c :: led)) (l : b.1 < a ∧ c.1 < a ∧ AllLt a led) : ∃ led', (∀ q ∈ led, q ∈ led') ∧ (a, o) ∈ led' ∧ News h₀ L h led' ∧ ∀ q ∈ led, q.1 < a :=
  ⟨_, fun _ h => .tail _ (.tail _ (.tail _ h)), .head _, N, allLt_all l.2.2⟩
theorem law_e {led : List (Addr × Obj)} {A : Role → Addr} {d : Dt} {a : Addr} (h : H led A d) (l : ∀ q ∈ led, q.1 < a) : ∀ r, Ok d r → a ≠ A r := fun r hr => by
  obtain ⟨o, m, _⟩ := h.has r hr
  exact Nat.ne_of_gt (l _ m)
def IfPost (h₀ : Heap) (L : Addr) (m : Str → Option Value) (led1 : List (Addr × Obj)) (SA : Addr) (s : Shared) (f : Flow) (s' : Shared) : Prop :=
  f = .next ∧ ∃ h tk led ds ls, s' = { s with heap := h, toks := tk } ∧ Fr h₀ L h m ∧ News h₀ L h led ∧ Stk led1 led SA ds ls
theorem law_if {M : Model} {A : Around} {Q : Flow → Shared → Prop} {E : Value → Shared → Prop} {s : Shared} {t : Sem Flow} {h₀ h : Heap} {L SA : Addr} {m : Str → Option Value} {led1 led2 : List (Addr × Obj)} {o : Obj} (_F : Fr h₀ L h m) (_hS : (SA, o) ∈ led2) (_k : ∀ q ∈ led1, q ∈ led2)
    (h1 : wpAny M A t (IfPost h₀ L m led1 SA s) E s) (h2 : ∀ h tk led ds ls, Fr h₀ L h m → News h₀ L h led → Stk led1 led SA ds ls → Q .next { s with heap := h, toks := tk }) : wpAny M A t Q E s :=
  wpAny_mono h1 (fun f s' ⟨e, h, tk, led, ds, ls, e2, F, N, S⟩ => by subst e e2; exact h2 h tk led ds ls F N S) fun _ _ e => e
theorem filt_len {n : Nat} : ((List.range n).filter fun _ => true).length = n := by rw [List.filter_eq_self.mpr (fun _ _ => rfl), List.length_range]
theorem law_a {h₀ h : Heap} {L c D : Addr} {oc0 oc1 o : Obj} {led : List (Addr × Obj)} (N : News h₀ L h (put c oc1 led)) (hD : (D, o) ∈ led) (hne : D ≠ c) (hl : (172, tabObj #[]) ∈ led) (hn : (172 : Addr) ≠ c) (_hc : (c, oc0) ∈ led) :
    ∃ led1, News h₀ L h led1 ∧ (D, o) ∈ led1 ∧ Lam led1 ∧ (c, oc1) ∈ led1 := ⟨_, N, mem_put hD hne, .inl (mem_put hl hn), mem_put_self⟩
set_option maxHeartbeats 8000000 in
theorem law_holds : Challenge.rw_nt0630_01.Holds := hd (by
  k_go0
  (all_goals try k_fold)
  (rename Fr _ _ _ _ => F0); (rename News _ _ _ _ => N0); (rename Frag.In (hd.heap_39 _) _ => X0); (rename Top _ _ _ _ _ _ => T0); (rename Below _ _ _ _ => B0)
  (rename Obj.data _ = _ => dc)
  (rename IntsAre _ _ => hI0); (rename Obj => oc0)
  replace dc : oc0.data = .cell none := dc
  (repeat' (first | (k_unfold; (try dsimp only)) | (refine unhide (by assumption) ?_; (try dsimp only)) | ((fail_if_success (with_reducible first | show wpAny _ _ (exec (Stmt.While _ _ _ _) _) _ _ _ | show wpAny _ _ (exec (Stmt.For _ _ _ _ _) _) _ _ _ | show wpAny _ _ (exec (Stmt.Assign _ (Expr.ListComp _ _ _ _) _) _) _ _ _ | show wpAny _ _ (eval (Expr.ListComp _ _ _ _) _) _ _ _ | show wpAny _ _ (call (Value.type "enumerate") _) _ _ _ | show wpAny _ _ (call (Value.type "zip") _) _ _ _ | refine stand_ref (by decide) ?_ | show wpAny _ _ (call (Value.type "range") _) _ _ _ | show wpAny _ _ (call (Value.ref _) _) _ _ _)); first | ((with_reducible first | (refine execs_one (by assumption) fun _ => ?_) | (refine execs_hid fun _ _ _ => ?_))) | ((with_reducible show wpAny _ _ (call (Value.builtin "len") [Value.ref _]) _ _ _); k_dflt (refine len_at (by k_asm) (by k_mem) (by ktr_units) ?_; k_whole); (try simp only [refs_length])) | ((with_reducible show wpAny _ _ (subscriptTail _ _ (Value.ref _) (Value.int _ _)) _ _ _); (with_unfolding_all refine item_litK (News.isList (by k_asm) (by k_mem)) (by first | decide | omega) (by first | decide | omega) (by assumption) ?_ (by with_unfolding_all rfl); k_whole)) | ((with_reducible show wpAny _ _ (call (Value.builtin "list.append") [Value.ref _, _]) _ _ _); k_dflt (refine app_at (by k_asm) (by k_asm) (by first | assumption | exact mem_put_self | exact mem_put (by first | assumption | exact mem_put_self | exact mem_put (by first | assumption | exact mem_put_self | exact mem_put (by assumption) (by ktr_unf)) (by ktr_unf)) (by ktr_unf)) (by ktr_units) ?_; k_whole); intro _ _ _; (try k_sweep)) | ((with_reducible show wpAny _ _ (setItem (Value.ref _) (Value.int _ _) _) _ _ _); k_dflt (refine setI_at (by k_asm) (by k_asm) (by first | assumption | exact mem_put_self | exact mem_put (by first | assumption | exact mem_put_self | exact mem_put (by first | assumption | exact mem_put_self | exact mem_put (by assumption) (by ktr_unf)) (by ktr_unf)) (by ktr_unf)) (by first | decide | omega) (by ktr_units) (by ktr_units) ?_; k_whole); intro _ _ _; (try k_sweep)) | ((with_reducible show wpAny _ _ (getMethod (Value.ref _) (PySem.Str.ofString "append") _) _ _ _); k_dflt (refine listMethod_K (by k_asm) (by first | assumption | exact mem_put_self | exact mem_put (by first | assumption | exact mem_put_self | exact mem_put (by first | assumption | exact mem_put_self | exact mem_put (by assumption) (by ktr_unf)) (by ktr_unf)) (by ktr_unf)) PySem.F.slot_list_append PySem.F.type_list_append ?_)) | ((with_reducible show TurnEnd _ _ _ _ _ _ _ _ (Flow.ret _) _); dsimp only [TurnEnd]) | walk1 | ((with_reducible show wpAny _ _ (call (Value.builtin "list.append") [Value.ref _, _]) _ _ _); k_dflt (refine app_at (by k_asm) (by k_asm) (by k_mem) (by ktr_units) ?_; k_whole); intro _ _ _; (try k_sweep)) | (dsimp only; walk1) | fail "no step")))
  (rename Fr _ _ _ _ => F1); (rename News _ _ _ _ => N1)
  refine wpAny_call (numbers_ctr ⟨B0, F1, X0, T0, N1, rfl, rfl⟩ (by decide) (by decide) (.head _) hI0 (by lia) ?_)
  intro D ws ms e h2 tk2 led F2 N2 hsub hD hDl hi hlo hhi
  have cS := hsub _ (.tail _ (.head _))
  have lam0 : Lam led := .inl (hsub _ (.tail _ (.tail _ (.head _))))
  clear N1 F1
  have hwl := hi.length
  obtain ⟨t0, hx0⟩ := ints_get? hi (j := 0) (by lia)
  obtain ⟨t1, hx1⟩ := ints_get? hi (j := 1) (by lia)
  generalize ms.getD 0 0 = x0 at hx0
  generalize ms.getD 1 0 = x1 at hx1
  have it0 : ws[(0 : Int).toNat]? = some (.int x0 t0) := hx0
  have it1 : ws[(1 : Int).toNat]? = some (.int x1 t1) := hx1
  have dnS : D ≠ _ := ne_of_obj N2 hD cS (fun e => by rw [← e] at dc; cases dc)
  have h172 : (172, tabObj #[]) ∈ led := hsub _ (.tail _ (.tail _ (.head _)))
  have n172 : (172 : Addr) ≠ _ := ne_of_obj N2 h172 cS (fun e => by rw [← e] at dc; cases dc)
  dsimp only
  (repeat' (first | (k_unfold; (try dsimp only)) | (refine unhide (by assumption) ?_; (try dsimp only)) | ((fail_if_success (with_reducible first | show wpAny _ _ (exec (Stmt.While _ _ _ _) _) _ _ _ | show wpAny _ _ (exec (Stmt.For _ _ _ _ _) _) _ _ _ | show wpAny _ _ (exec (Stmt.Assign _ (Expr.ListComp _ _ _ _) _) _) _ _ _ | show wpAny _ _ (eval (Expr.ListComp _ _ _ _) _) _ _ _ | show wpAny _ _ (call (Value.type "enumerate") _) _ _ _ | show wpAny _ _ (call (Value.type "zip") _) _ _ _ | refine stand_ref (by decide) ?_ | show wpAny _ _ (call (Value.type "range") _) _ _ _ | show wpAny _ _ (call (Value.ref _) _) _ _ _)); first | ((with_reducible first | (refine execs_one (by assumption) fun _ => ?_) | (refine execs_hid fun _ _ _ => ?_))) | ((with_reducible show wpAny _ _ (call (Value.builtin "len") [Value.ref _]) _ _ _); k_dflt (refine len_at (by k_asm) (by k_mem) (by ktr_units) ?_; k_whole); (try simp only [refs_length])) | ((with_reducible show wpAny _ _ (subscriptTail _ _ (Value.ref _) (Value.int _ _)) _ _ _); (with_unfolding_all refine item_litK (News.isList (by k_asm) (by k_mem)) (by first | decide | omega) (by first | decide | omega) (by assumption) ?_ (by with_unfolding_all rfl); k_whole)) | ((with_reducible show wpAny _ _ (call (Value.builtin "list.append") [Value.ref _, _]) _ _ _); k_dflt (refine app_at (by k_asm) (by k_asm) (by first | assumption | exact mem_put_self | exact mem_put (by first | assumption | exact mem_put_self | exact mem_put (by first | assumption | exact mem_put_self | exact mem_put (by assumption) (by ktr_unf)) (by ktr_unf)) (by ktr_unf)) (by ktr_units) ?_; k_whole); intro _ _ _; (try k_sweep)) | ((with_reducible show wpAny _ _ (setItem (Value.ref _) (Value.int _ _) _) _ _ _); k_dflt (refine setI_at (by k_asm) (by k_asm) (by first | assumption | exact mem_put_self | exact mem_put (by first | assumption | exact mem_put_self | exact mem_put (by first | assumption | exact mem_put_self | exact mem_put (by assumption) (by ktr_unf)) (by ktr_unf)) (by ktr_unf)) (by first | decide | omega) (by ktr_units) (by ktr_units) ?_; k_whole); intro _ _ _; (try k_sweep)) | ((with_reducible show wpAny _ _ (getMethod (Value.ref _) (PySem.Str.ofString "append") _) _ _ _); k_dflt (refine listMethod_K (by k_asm) (by first | assumption | exact mem_put_self | exact mem_put (by first | assumption | exact mem_put_self | exact mem_put (by first | assumption | exact mem_put_self | exact mem_put (by assumption) (by ktr_unf)) (by ktr_unf)) (by ktr_unf)) PySem.F.slot_list_append PySem.F.type_list_append ?_)) | ((with_reducible show TurnEnd _ _ _ _ _ _ _ _ (Flow.ret _) _); dsimp only [TurnEnd]) | walk1 | ((with_reducible show wpAny _ _ (call (Value.builtin "list.append") [Value.ref _, _]) _ _ _); k_dflt (refine app_at (by k_asm) (by k_asm) (by k_mem) (by ktr_units) ?_; k_whole); intro _ _ _; (try k_sweep)) | (dsimp only; walk1) | fail "no step")))
  (rename Fr _ _ _ _ => F3); (rename News _ _ _ _ => N3); (rename Obj.data _ = Data.cell (some _) => dc1); (rename Obj => oc1)
  obtain ⟨led1, N4, hD1, lam1, cS1⟩ := law_a N3 hD dnS h172 n172 cS
  clear N3
  (with_unfolding_all refine' ListComp_at [Str.ofString "at"] F3 ?qc ?qd ?qk ?qn ?qx ?_ ?qf)
  (case qc => exact rfl)
  (case qd => decide)
  (case qk => exact rfl)
  (case qn => decide)
  (case qx => decide)
  (case qf => (intro _; exact rfl))
  have hws16 : ws.length ≤ 300 := by lia
  have hws0 : 0 < ws.length := by lia
  have hws1 : 1 < ws.length := by lia
  (repeat' (first | (k_unfold; (try dsimp only)) | (refine unhide (by assumption) ?_; (try dsimp only)) | ((fail_if_success (with_reducible first | show wpAny _ _ (exec (Stmt.While _ _ _ _) _) _ _ _ | show wpAny _ _ (exec (Stmt.For _ _ _ _ _) _) _ _ _ | show wpAny _ _ (exec (Stmt.Assign _ (Expr.ListComp _ _ _ _) _) _) _ _ _ | show wpAny _ _ (eval (Expr.ListComp _ _ _ _) _) _ _ _ | show wpAny _ _ (call (Value.type "enumerate") _) _ _ _ | show wpAny _ _ (call (Value.type "zip") _) _ _ _ | refine stand_ref (by decide) ?_ | show wpAny _ _ (call (Value.type "range") _) _ _ _ | show wpAny _ _ (call (Value.ref _) _) _ _ _)); first | ((with_reducible first | (refine execs_one (by assumption) fun _ => ?_) | (refine execs_hid fun _ _ _ => ?_))) | ((with_reducible show wpAny _ _ (call (Value.builtin "len") [Value.ref _]) _ _ _); k_dflt (refine len_at (by k_asm) (by k_mem) (by ktr_units) ?_; k_whole); (try simp only [refs_length])) | ((with_reducible show wpAny _ _ (subscriptTail _ _ (Value.ref _) (Value.int _ _)) _ _ _); (with_unfolding_all refine item_litK (News.isList (by k_asm) (by k_mem)) (by first | decide | omega) (by first | decide | omega) (by assumption) ?_ (by with_unfolding_all rfl); k_whole)) | ((with_reducible show wpAny _ _ (call (Value.builtin "list.append") [Value.ref _, _]) _ _ _); k_dflt (refine app_at (by k_asm) (by k_asm) (by first | assumption | exact mem_put_self | exact mem_put (by first | assumption | exact mem_put_self | exact mem_put (by first | assumption | exact mem_put_self | exact mem_put (by assumption) (by ktr_unf)) (by ktr_unf)) (by ktr_unf)) (by ktr_units) ?_; k_whole); intro _ _ _; (try k_sweep)) | ((with_reducible show wpAny _ _ (setItem (Value.ref _) (Value.int _ _) _) _ _ _); k_dflt (refine setI_at (by k_asm) (by k_asm) (by first | assumption | exact mem_put_self | exact mem_put (by first | assumption | exact mem_put_self | exact mem_put (by first | assumption | exact mem_put_self | exact mem_put (by assumption) (by ktr_unf)) (by ktr_unf)) (by ktr_unf)) (by first | decide | omega) (by ktr_units) (by ktr_units) ?_; k_whole); intro _ _ _; (try k_sweep)) | ((with_reducible show wpAny _ _ (getMethod (Value.ref _) (PySem.Str.ofString "append") _) _ _ _); k_dflt (refine listMethod_K (by k_asm) (by first | assumption | exact mem_put_self | exact mem_put (by first | assumption | exact mem_put_self | exact mem_put (by first | assumption | exact mem_put_self | exact mem_put (by assumption) (by ktr_unf)) (by ktr_unf)) (by ktr_unf)) PySem.F.slot_list_append PySem.F.type_list_append ?_)) | ((with_reducible show TurnEnd _ _ _ _ _ _ _ _ (Flow.ret _) _); dsimp only [TurnEnd]) | walk1 | ((with_reducible show wpAny _ _ (call (Value.builtin "list.append") [Value.ref _, _]) _ _ _); k_dflt (refine app_at (by k_asm) (by k_asm) (by k_mem) (by ktr_units) ?_; k_whole); intro _ _ _; (try k_sweep)) | (dsimp only; walk1) | fail "no step")))
  (rename Fr _ _ _ _ => F5); (rename News _ _ _ _ => N5)
  obtain ⟨q0, hq0, eq0⟩ := fmod_nat x0 (m := 6) (by decide)
  have e0 : 3 + x0.fmod 6 = ((3 + q0 : Nat) : Int) := by
    have : x0.fmod 6 = (q0 : Int) := eq0
    lia
  rw [e0]
  refine src_range (fun _ => true) (fun _ v => ∃ x t, v = Value.int x t) rfl F5 N5 (by lia) ?_ ?_
  · rintro s₂ ⟨hh, htk, rfl⟩
    constructor
    · intro k C oC m₂ hk tk E' hkl hB hNs F14 N14
      exact wpAny_tests_nil ⟨rfl, _, rfl⟩
    · intro k C oC m₂ hk tk E' hkl hp hB hNs F14 N14
      obtain ⟨ti, hb1⟩ := hB
      have hk100 : (k : Int) < 100 := by lia
      have hk0 : (0 : Int) ≤ k := by lia
      (repeat' (first | (k_unfold; (try dsimp only)) | (refine unhide (by assumption) ?_; (try dsimp only)) | ((fail_if_success (with_reducible first | show wpAny _ _ (exec (Stmt.While _ _ _ _) _) _ _ _ | show wpAny _ _ (exec (Stmt.For _ _ _ _ _) _) _ _ _ | show wpAny _ _ (exec (Stmt.Assign _ (Expr.ListComp _ _ _ _) _) _) _ _ _ | show wpAny _ _ (eval (Expr.ListComp _ _ _ _) _) _ _ _ | show wpAny _ _ (call (Value.type "enumerate") _) _ _ _ | show wpAny _ _ (call (Value.type "zip") _) _ _ _ | refine stand_ref (by decide) ?_ | show wpAny _ _ (call (Value.type "range") _) _ _ _ | show wpAny _ _ (call (Value.ref _) _) _ _ _)); first | ((with_reducible first | (refine execs_one (by assumption) fun _ => ?_) | (refine execs_hid fun _ _ _ => ?_))) | ((with_reducible show wpAny _ _ (call (Value.builtin "len") [Value.ref _]) _ _ _); k_dflt (refine len_at (by k_asm) (by k_mem) (by ktr_units) ?_; k_whole); (try simp only [refs_length])) | ((with_reducible show wpAny _ _ (subscriptTail _ _ (Value.ref _) (Value.int _ _)) _ _ _); (with_unfolding_all refine item_litK (News.isList (by k_asm) (by k_mem)) (by first | decide | omega) (by first | decide | omega) (by assumption) ?_ (by with_unfolding_all rfl); k_whole)) | ((with_reducible show wpAny _ _ (call (Value.builtin "list.append") [Value.ref _, _]) _ _ _); k_dflt (refine app_at (by k_asm) (by k_asm) (by first | assumption | exact mem_put_self | exact mem_put (by first | assumption | exact mem_put_self | exact mem_put (by first | assumption | exact mem_put_self | exact mem_put (by assumption) (by ktr_unf)) (by ktr_unf)) (by ktr_unf)) (by ktr_units) ?_; k_whole); intro _ _ _; (try k_sweep)) | ((with_reducible show wpAny _ _ (setItem (Value.ref _) (Value.int _ _) _) _ _ _); k_dflt (refine setI_at (by k_asm) (by k_asm) (by first | assumption | exact mem_put_self | exact mem_put (by first | assumption | exact mem_put_self | exact mem_put (by first | assumption | exact mem_put_self | exact mem_put (by assumption) (by ktr_unf)) (by ktr_unf)) (by ktr_unf)) (by first | decide | omega) (by ktr_units) (by ktr_units) ?_; k_whole); intro _ _ _; (try k_sweep)) | ((with_reducible show wpAny _ _ (getMethod (Value.ref _) (PySem.Str.ofString "append") _) _ _ _); k_dflt (refine listMethod_K (by k_asm) (by first | assumption | exact mem_put_self | exact mem_put (by first | assumption | exact mem_put_self | exact mem_put (by first | assumption | exact mem_put_self | exact mem_put (by assumption) (by ktr_unf)) (by ktr_unf)) (by ktr_unf)) PySem.F.slot_list_append PySem.F.type_list_append ?_)) | ((with_reducible show TurnEnd _ _ _ _ _ _ _ _ (Flow.ret _) _); dsimp only [TurnEnd]) | walk1 | ((with_reducible show wpAny _ _ (call (Value.builtin "list.append") [Value.ref _, _]) _ _ _); k_dflt (refine app_at (by k_asm) (by k_asm) (by k_mem) (by ktr_units) ?_; k_whole); intro _ _ _; (try k_sweep)) | (dsimp only; walk1) | fail "no step")))
  · rintro s₂ ⟨hh, htk, rfl⟩ D4 h14 tk14 ys ep2 F14 N14 hD4 hP
    obtain ⟨l0, hl0, hl0l⟩ := paired_any hP
    dsimp only
    repeat' (first | (k_unfold; (try dsimp only)) | (refine unhide (by assumption) ?_; (try dsimp only)) | ((fail_if_success (with_reducible show wpAny _ _ (exec (Stmt.If _ _ _ _) _) _ _ _)); first | ((with_reducible first | (refine execs_one (by assumption) fun _ => ?_) | (refine execs_hid fun _ _ _ => ?_))) | ((with_reducible show wpAny _ _ (call (Value.builtin "len") [Value.ref _]) _ _ _); k_dflt (refine len_at (by k_asm) (by k_mem) (by ktr_units) ?_; k_whole); (try simp only [refs_length])) | ((with_reducible show wpAny _ _ (subscriptTail _ _ (Value.ref _) (Value.int _ _)) _ _ _); (with_unfolding_all refine item_litK (News.isList (by k_asm) (by k_mem)) (by first | decide | omega) (by first | decide | omega) (by assumption) ?_ (by with_unfolding_all rfl); k_whole)) | ((with_reducible show wpAny _ _ (call (Value.builtin "list.append") [Value.ref _, _]) _ _ _); k_dflt (refine app_at (by k_asm) (by k_asm) (by first | assumption | exact mem_put_self | exact mem_put (by first | assumption | exact mem_put_self | exact mem_put (by first | assumption | exact mem_put_self | exact mem_put (by assumption) (by ktr_unf)) (by ktr_unf)) (by ktr_unf)) (by ktr_units) ?_; k_whole); intro _ _ _; (try k_sweep)) | ((with_reducible show wpAny _ _ (setItem (Value.ref _) (Value.int _ _) _) _ _ _); k_dflt (refine setI_at (by k_asm) (by k_asm) (by first | assumption | exact mem_put_self | exact mem_put (by first | assumption | exact mem_put_self | exact mem_put (by first | assumption | exact mem_put_self | exact mem_put (by assumption) (by ktr_unf)) (by ktr_unf)) (by ktr_unf)) (by first | decide | omega) (by ktr_units) (by ktr_units) ?_; k_whole); intro _ _ _; (try k_sweep)) | ((with_reducible show wpAny _ _ (getMethod (Value.ref _) (PySem.Str.ofString "append") _) _ _ _); k_dflt (refine listMethod_K (by k_asm) (by first | assumption | exact mem_put_self | exact mem_put (by first | assumption | exact mem_put_self | exact mem_put (by first | assumption | exact mem_put_self | exact mem_put (by assumption) (by ktr_unf)) (by ktr_unf)) (by ktr_unf)) PySem.F.slot_list_append PySem.F.type_list_append ?_)) | ((with_reducible show TurnEnd _ _ _ _ _ _ _ _ (Flow.ret _) _); dsimp only [TurnEnd]) | walk1 | ((with_reducible show wpAny _ _ (call (Value.builtin "list.append") [Value.ref _, _]) _ _ _); k_dflt (refine app_at (by k_asm) (by k_asm) (by k_mem) (by ktr_units) ?_; k_whole); intro _ _ _; (try k_sweep)) | (dsimp only; walk1) | fail "no step"))
    (rename Fr _ _ _ _ => F15); (rename News _ _ _ _ => N15)
    rw [filt_len] at hl0l
    have hyl := hl0.length
    (rename D4 < _ ∧ AllLt _ led1 => hSA)
    obtain ⟨led2, hsub2, hS2, hD42, N16⟩ := law_b N15
    obtain ⟨m15, hm15, F16⟩ := law_m (x := Str.ofString "stacks") F15 rfl
    replace F16 := fr_at F16 hm15
    clear N15 F15
    have hD10 := hD1
    have cS10 := cS1
    replace hD1 := hsub2 _ hD1
    replace cS1 := hsub2 _ cS1
    refine law_if F16 hS2 hsub2 ?_ ?_
    · by_cases hb : x1.fmod 2 = 1
      · (repeat' (first | (k_unfold; (try dsimp only)) | (refine unhide (by assumption) ?_; (try dsimp only)) | ((fail_if_success (with_reducible first | show wpAny _ _ (exec (Stmt.While _ _ _ _) _) _ _ _ | show wpAny _ _ (exec (Stmt.For _ _ _ _ _) _) _ _ _ | show wpAny _ _ (exec (Stmt.Assign _ (Expr.ListComp _ _ _ _) _) _) _ _ _ | show wpAny _ _ (eval (Expr.ListComp _ _ _ _) _) _ _ _ | show wpAny _ _ (call (Value.type "enumerate") _) _ _ _ | show wpAny _ _ (call (Value.type "zip") _) _ _ _ | refine stand_ref (by decide) ?_ | show wpAny _ _ (call (Value.type "range") _) _ _ _ | show wpAny _ _ (call (Value.ref _) _) _ _ _)); first | ((with_reducible first | (refine execs_one (by assumption) fun _ => ?_) | (refine execs_hid fun _ _ _ => ?_))) | ((with_reducible show wpAny _ _ (call (Value.builtin "len") [Value.ref _]) _ _ _); k_dflt (refine len_at (by k_asm) (by k_mem) (by ktr_units) ?_; k_whole); (try simp only [refs_length])) | ((with_reducible show wpAny _ _ (subscriptTail _ _ (Value.ref _) (Value.int _ _)) _ _ _); (with_unfolding_all refine item_litK (News.isList (by k_asm) (by k_mem)) (by first | decide | omega) (by first | decide | omega) (by assumption) ?_ (by with_unfolding_all rfl); k_whole)) | ((with_reducible show wpAny _ _ (call (Value.builtin "list.append") [Value.ref _, _]) _ _ _); k_dflt (refine app_at (by k_asm) (by k_asm) (by first | assumption | exact mem_put_self | exact mem_put (by first | assumption | exact mem_put_self | exact mem_put (by first | assumption | exact mem_put_self | exact mem_put (by assumption) (by ktr_unf)) (by ktr_unf)) (by ktr_unf)) (by ktr_units) ?_; k_whole); intro _ _ _; (try k_sweep)) | ((with_reducible show wpAny _ _ (setItem (Value.ref _) (Value.int _ _) _) _ _ _); k_dflt (refine setI_at (by k_asm) (by k_asm) (by first | assumption | exact mem_put_self | exact mem_put (by first | assumption | exact mem_put_self | exact mem_put (by first | assumption | exact mem_put_self | exact mem_put (by assumption) (by ktr_unf)) (by ktr_unf)) (by ktr_unf)) (by first | decide | omega) (by ktr_units) (by ktr_units) ?_; k_whole); intro _ _ _; (try k_sweep)) | ((with_reducible show wpAny _ _ (getMethod (Value.ref _) (PySem.Str.ofString "append") _) _ _ _); k_dflt (refine listMethod_K (by k_asm) (by first | assumption | exact mem_put_self | exact mem_put (by first | assumption | exact mem_put_self | exact mem_put (by first | assumption | exact mem_put_self | exact mem_put (by assumption) (by ktr_unf)) (by ktr_unf)) (by ktr_unf)) PySem.F.slot_list_append PySem.F.type_list_append ?_)) | ((with_reducible show TurnEnd _ _ _ _ _ _ _ _ (Flow.ret _) _); dsimp only [TurnEnd]) | walk1 | ((with_reducible show wpAny _ _ (call (Value.builtin "list.append") [Value.ref _, _]) _ _ _); k_dflt (refine app_at (by k_asm) (by k_asm) (by k_mem) (by ktr_units) ?_; k_whole); intro _ _ _; (try k_sweep)) | (dsimp only; walk1) | fail "no step")))
        (rename Fr _ _ _ _ => F17); (rename News _ _ _ _ => N17)
        (with_unfolding_all refine' ListComp_at [Str.ofString "at"] F17 ?qc ?qd ?qk ?qn ?qx ?_ ?qf)
        (case qc => exact rfl)
        (case qd => decide)
        (case qk => exact rfl)
        (case qn => decide)
        (case qx => decide)
        (case qf => (intro _; exact rfl))
        (repeat' (first | (k_unfold; (try dsimp only)) | (refine unhide (by assumption) ?_; (try dsimp only)) | ((fail_if_success (with_reducible first | show wpAny _ _ (exec (Stmt.While _ _ _ _) _) _ _ _ | show wpAny _ _ (exec (Stmt.For _ _ _ _ _) _) _ _ _ | show wpAny _ _ (exec (Stmt.Assign _ (Expr.ListComp _ _ _ _) _) _) _ _ _ | show wpAny _ _ (eval (Expr.ListComp _ _ _ _) _) _ _ _ | show wpAny _ _ (call (Value.type "enumerate") _) _ _ _ | show wpAny _ _ (call (Value.type "zip") _) _ _ _ | refine stand_ref (by decide) ?_ | show wpAny _ _ (call (Value.type "range") _) _ _ _ | show wpAny _ _ (call (Value.ref _) _) _ _ _)); first | ((with_reducible first | (refine execs_one (by assumption) fun _ => ?_) | (refine execs_hid fun _ _ _ => ?_))) | ((with_reducible show wpAny _ _ (call (Value.builtin "len") [Value.ref _]) _ _ _); k_dflt (refine len_at (by k_asm) (by k_mem) (by ktr_units) ?_; k_whole); (try simp only [refs_length])) | ((with_reducible show wpAny _ _ (subscriptTail _ _ (Value.ref _) (Value.int _ _)) _ _ _); (with_unfolding_all refine item_litK (News.isList (by k_asm) (by k_mem)) (by first | decide | omega) (by first | decide | omega) (by assumption) ?_ (by with_unfolding_all rfl); k_whole)) | ((with_reducible show wpAny _ _ (call (Value.builtin "list.append") [Value.ref _, _]) _ _ _); k_dflt (refine app_at (by k_asm) (by k_asm) (by first | assumption | exact mem_put_self | exact mem_put (by first | assumption | exact mem_put_self | exact mem_put (by first | assumption | exact mem_put_self | exact mem_put (by assumption) (by ktr_unf)) (by ktr_unf)) (by ktr_unf)) (by ktr_units) ?_; k_whole); intro _ _ _; (try k_sweep)) | ((with_reducible show wpAny _ _ (setItem (Value.ref _) (Value.int _ _) _) _ _ _); k_dflt (refine setI_at (by k_asm) (by k_asm) (by first | assumption | exact mem_put_self | exact mem_put (by first | assumption | exact mem_put_self | exact mem_put (by first | assumption | exact mem_put_self | exact mem_put (by assumption) (by ktr_unf)) (by ktr_unf)) (by ktr_unf)) (by first | decide | omega) (by ktr_units) (by ktr_units) ?_; k_whole); intro _ _ _; (try k_sweep)) | ((with_reducible show wpAny _ _ (getMethod (Value.ref _) (PySem.Str.ofString "append") _) _ _ _); k_dflt (refine listMethod_K (by k_asm) (by first | assumption | exact mem_put_self | exact mem_put (by first | assumption | exact mem_put_self | exact mem_put (by first | assumption | exact mem_put_self | exact mem_put (by assumption) (by ktr_unf)) (by ktr_unf)) (by ktr_unf)) PySem.F.slot_list_append PySem.F.type_list_append ?_)) | ((with_reducible show TurnEnd _ _ _ _ _ _ _ _ (Flow.ret _) _); dsimp only [TurnEnd]) | walk1 | ((with_reducible show wpAny _ _ (call (Value.builtin "list.append") [Value.ref _, _]) _ _ _); k_dflt (refine app_at (by k_asm) (by k_asm) (by k_mem) (by ktr_units) ?_; k_whole); intro _ _ _; (try k_sweep)) | (dsimp only; walk1) | fail "no step")))
        (rename Fr _ _ _ _ => F18); (rename News _ _ _ _ => N18)
        obtain ⟨q1, hq1, eq1⟩ := fmod_nat x1 (m := 4) (by decide)
        have e1 : 3 + x1.fmod 4 = ((3 + q1 : Nat) : Int) := by
          have : x1.fmod 4 = (q1 : Int) := eq1
          lia
        rw [e1]
        refine src_range (fun _ => true) (fun _ v => ∃ x t, v = Value.int x t) rfl F18 N18 (by lia) ?_ ?_
        · rintro s₂ ⟨hh, htk, rfl⟩
          constructor
          · intro k C oC m₂ hk tk E' hkl hB hNs F14 N14
            exact wpAny_tests_nil ⟨rfl, _, rfl⟩
          · intro k C oC m₂ hk tk E' hkl hp hB hNs F14 N14
            obtain ⟨ti, hb1⟩ := hB
            have hk100 : (k : Int) < 100 := by lia
            have hk0 : (0 : Int) ≤ k := by lia
            (repeat' (first | (k_unfold; (try dsimp only)) | (refine unhide (by assumption) ?_; (try dsimp only)) | ((fail_if_success (with_reducible first | show wpAny _ _ (exec (Stmt.While _ _ _ _) _) _ _ _ | show wpAny _ _ (exec (Stmt.For _ _ _ _ _) _) _ _ _ | show wpAny _ _ (exec (Stmt.Assign _ (Expr.ListComp _ _ _ _) _) _) _ _ _ | show wpAny _ _ (eval (Expr.ListComp _ _ _ _) _) _ _ _ | show wpAny _ _ (call (Value.type "enumerate") _) _ _ _ | show wpAny _ _ (call (Value.type "zip") _) _ _ _ | refine stand_ref (by decide) ?_ | show wpAny _ _ (call (Value.type "range") _) _ _ _ | show wpAny _ _ (call (Value.ref _) _) _ _ _)); first | ((with_reducible first | (refine execs_one (by assumption) fun _ => ?_) | (refine execs_hid fun _ _ _ => ?_))) | ((with_reducible show wpAny _ _ (call (Value.builtin "len") [Value.ref _]) _ _ _); k_dflt (refine len_at (by k_asm) (by k_mem) (by ktr_units) ?_; k_whole); (try simp only [refs_length])) | ((with_reducible show wpAny _ _ (subscriptTail _ _ (Value.ref _) (Value.int _ _)) _ _ _); (with_unfolding_all refine item_litK (News.isList (by k_asm) (by k_mem)) (by first | decide | omega) (by first | decide | omega) (by assumption) ?_ (by with_unfolding_all rfl); k_whole)) | ((with_reducible show wpAny _ _ (call (Value.builtin "list.append") [Value.ref _, _]) _ _ _); k_dflt (refine app_at (by k_asm) (by k_asm) (by first | assumption | exact mem_put_self | exact mem_put (by first | assumption | exact mem_put_self | exact mem_put (by first | assumption | exact mem_put_self | exact mem_put (by assumption) (by ktr_unf)) (by ktr_unf)) (by ktr_unf)) (by ktr_units) ?_; k_whole); intro _ _ _; (try k_sweep)) | ((with_reducible show wpAny _ _ (setItem (Value.ref _) (Value.int _ _) _) _ _ _); k_dflt (refine setI_at (by k_asm) (by k_asm) (by first | assumption | exact mem_put_self | exact mem_put (by first | assumption | exact mem_put_self | exact mem_put (by first | assumption | exact mem_put_self | exact mem_put (by assumption) (by ktr_unf)) (by ktr_unf)) (by ktr_unf)) (by first | decide | omega) (by ktr_units) (by ktr_units) ?_; k_whole); intro _ _ _; (try k_sweep)) | ((with_reducible show wpAny _ _ (getMethod (Value.ref _) (PySem.Str.ofString "append") _) _ _ _); k_dflt (refine listMethod_K (by k_asm) (by first | assumption | exact mem_put_self | exact mem_put (by first | assumption | exact mem_put_self | exact mem_put (by first | assumption | exact mem_put_self | exact mem_put (by assumption) (by ktr_unf)) (by ktr_unf)) (by ktr_unf)) PySem.F.slot_list_append PySem.F.type_list_append ?_)) | ((with_reducible show TurnEnd _ _ _ _ _ _ _ _ (Flow.ret _) _); dsimp only [TurnEnd]) | walk1 | ((with_reducible show wpAny _ _ (call (Value.builtin "list.append") [Value.ref _, _]) _ _ _); k_dflt (refine app_at (by k_asm) (by k_asm) (by k_mem) (by ktr_units) ?_; k_whole); intro _ _ _; (try k_sweep)) | (dsimp only; walk1) | fail "no step")))
        · rintro s₂ ⟨hh, htk, rfl⟩ D5 h19 tk19 ys1 ep5 F19 N19 hD5 hP1
          obtain ⟨lb, hlb, hlbl⟩ := paired_any hP1
          rw [filt_len] at hlbl
          have hyl1 := hlb.length
          have hSm : (_, W.listOf [Value.ref D4].toArray 0) ∈ (D5, W.listOf ys1.toArray ep5) :: led2 := List.Mem.tail _ hS2
          have hD5S := hD5 _ hS2
          have h45 := hD5 _ hD42
          have hnS : D4 ≠ _ := Nat.ne_of_lt hSA.1
          dsimp only
          (repeat' (first | (k_unfold; (try dsimp only)) | (refine unhide (by assumption) ?_; (try dsimp only)) | ((fail_if_success (with_reducible first | show wpAny _ _ (exec (Stmt.While _ _ _ _) _) _ _ _ | show wpAny _ _ (exec (Stmt.For _ _ _ _ _) _) _ _ _ | show wpAny _ _ (exec (Stmt.Assign _ (Expr.ListComp _ _ _ _) _) _) _ _ _ | show wpAny _ _ (eval (Expr.ListComp _ _ _ _) _) _ _ _ | show wpAny _ _ (call (Value.type "enumerate") _) _ _ _ | show wpAny _ _ (call (Value.type "zip") _) _ _ _ | refine stand_ref (by decide) ?_ | show wpAny _ _ (call (Value.type "range") _) _ _ _ | show wpAny _ _ (call (Value.ref _) _) _ _ _)); first | ((with_reducible first | (refine execs_one (by assumption) fun _ => ?_) | (refine execs_hid fun _ _ _ => ?_))) | ((with_reducible show wpAny _ _ (call (Value.builtin "len") [Value.ref _]) _ _ _); k_dflt (refine len_at (by k_asm) (by k_mem) (by ktr_units) ?_; k_whole); (try simp only [refs_length])) | ((with_reducible show wpAny _ _ (subscriptTail _ _ (Value.ref _) (Value.int _ _)) _ _ _); (with_unfolding_all refine item_litK (News.isList (by k_asm) (by k_mem)) (by first | decide | omega) (by first | decide | omega) (by assumption) ?_ (by with_unfolding_all rfl); k_whole)) | ((with_reducible show wpAny _ _ (call (Value.builtin "list.append") [Value.ref _, _]) _ _ _); k_dflt (refine app_at (by k_asm) (by k_asm) (by first | assumption | exact mem_put_self | exact mem_put (by first | assumption | exact mem_put_self | exact mem_put (by first | assumption | exact mem_put_self | exact mem_put (by assumption) (by ktr_unf)) (by ktr_unf)) (by ktr_unf)) (by ktr_units) ?_; k_whole); intro _ _ _; (try k_sweep)) | ((with_reducible show wpAny _ _ (setItem (Value.ref _) (Value.int _ _) _) _ _ _); k_dflt (refine setI_at (by k_asm) (by k_asm) (by first | assumption | exact mem_put_self | exact mem_put (by first | assumption | exact mem_put_self | exact mem_put (by first | assumption | exact mem_put_self | exact mem_put (by assumption) (by ktr_unf)) (by ktr_unf)) (by ktr_unf)) (by first | decide | omega) (by ktr_units) (by ktr_units) ?_; k_whole); intro _ _ _; (try k_sweep)) | ((with_reducible show wpAny _ _ (getMethod (Value.ref _) (PySem.Str.ofString "append") _) _ _ _); k_dflt (refine listMethod_K (by k_asm) (by first | assumption | exact mem_put_self | exact mem_put (by first | assumption | exact mem_put_self | exact mem_put (by first | assumption | exact mem_put_self | exact mem_put (by assumption) (by ktr_unf)) (by ktr_unf)) (by ktr_unf)) PySem.F.slot_list_append PySem.F.type_list_append ?_)) | ((with_reducible show TurnEnd _ _ _ _ _ _ _ _ (Flow.ret _) _); dsimp only [TurnEnd]) | walk1 | ((with_reducible show wpAny _ _ (call (Value.builtin "list.append") [Value.ref _, _]) _ _ _); k_dflt (refine app_at (by k_asm) (by k_asm) (by k_mem) (by ktr_units) ?_; k_whole); intro _ _ _; (try k_sweep)) | (dsimp only; walk1) | fail "no step")))
          (rename Fr _ _ _ _ => F21); (rename News _ _ _ _ => N21)
          exact ⟨rfl, _, _, _, [D4, D5], [l0, lb], rfl, F21, N21, stk2 (fun q hq => mem_put (.tail _ (hsub2 q hq)) (Nat.ne_of_lt (allLt_all hSA.2 q hq))) mem_put_self (mem_put (.tail _ hD42) hnS) (mem_put (.head _) (Nat.ne_of_gt hD5S)) hl0 hlb (by lia) (by lia) (by lia) (by lia) hSA.1 hD5S hD4 (allLt_all hSA.2) (fun q hq => hD5 q (hsub2 q hq))⟩
      · (repeat' (first | (k_unfold; (try dsimp only)) | (refine unhide (by assumption) ?_; (try dsimp only)) | ((fail_if_success (with_reducible first | show wpAny _ _ (exec (Stmt.While _ _ _ _) _) _ _ _ | show wpAny _ _ (exec (Stmt.For _ _ _ _ _) _) _ _ _ | show wpAny _ _ (exec (Stmt.Assign _ (Expr.ListComp _ _ _ _) _) _) _ _ _ | show wpAny _ _ (eval (Expr.ListComp _ _ _ _) _) _ _ _ | show wpAny _ _ (call (Value.type "enumerate") _) _ _ _ | show wpAny _ _ (call (Value.type "zip") _) _ _ _ | refine stand_ref (by decide) ?_ | show wpAny _ _ (call (Value.type "range") _) _ _ _ | show wpAny _ _ (call (Value.ref _) _) _ _ _)); first | ((with_reducible first | (refine execs_one (by assumption) fun _ => ?_) | (refine execs_hid fun _ _ _ => ?_))) | ((with_reducible show wpAny _ _ (call (Value.builtin "len") [Value.ref _]) _ _ _); k_dflt (refine len_at (by k_asm) (by k_mem) (by ktr_units) ?_; k_whole); (try simp only [refs_length])) | ((with_reducible show wpAny _ _ (subscriptTail _ _ (Value.ref _) (Value.int _ _)) _ _ _); (with_unfolding_all refine item_litK (News.isList (by k_asm) (by k_mem)) (by first | decide | omega) (by first | decide | omega) (by assumption) ?_ (by with_unfolding_all rfl); k_whole)) | ((with_reducible show wpAny _ _ (call (Value.builtin "list.append") [Value.ref _, _]) _ _ _); k_dflt (refine app_at (by k_asm) (by k_asm) (by first | assumption | exact mem_put_self | exact mem_put (by first | assumption | exact mem_put_self | exact mem_put (by first | assumption | exact mem_put_self | exact mem_put (by assumption) (by ktr_unf)) (by ktr_unf)) (by ktr_unf)) (by ktr_units) ?_; k_whole); intro _ _ _; (try k_sweep)) | ((with_reducible show wpAny _ _ (setItem (Value.ref _) (Value.int _ _) _) _ _ _); k_dflt (refine setI_at (by k_asm) (by k_asm) (by first | assumption | exact mem_put_self | exact mem_put (by first | assumption | exact mem_put_self | exact mem_put (by first | assumption | exact mem_put_self | exact mem_put (by assumption) (by ktr_unf)) (by ktr_unf)) (by ktr_unf)) (by first | decide | omega) (by ktr_units) (by ktr_units) ?_; k_whole); intro _ _ _; (try k_sweep)) | ((with_reducible show wpAny _ _ (getMethod (Value.ref _) (PySem.Str.ofString "append") _) _ _ _); k_dflt (refine listMethod_K (by k_asm) (by first | assumption | exact mem_put_self | exact mem_put (by first | assumption | exact mem_put_self | exact mem_put (by first | assumption | exact mem_put_self | exact mem_put (by assumption) (by ktr_unf)) (by ktr_unf)) (by ktr_unf)) PySem.F.slot_list_append PySem.F.type_list_append ?_)) | ((with_reducible show TurnEnd _ _ _ _ _ _ _ _ (Flow.ret _) _); dsimp only [TurnEnd]) | walk1 | ((with_reducible show wpAny _ _ (call (Value.builtin "list.append") [Value.ref _, _]) _ _ _); k_dflt (refine app_at (by k_asm) (by k_asm) (by k_mem) (by ktr_units) ?_; k_whole); intro _ _ _; (try k_sweep)) | (dsimp only; walk1) | fail "no step")))
        (rename Fr _ _ _ _ => F17); (rename News _ _ _ _ => N17)
        exact ⟨rfl, _, _, led2, [D4], [l0], rfl, F17, N17, stk1 hsub2 hS2 hD42 hl0 (by lia) (by lia) (Nat.ne_of_lt hSA.1) hD4 (allLt_all hSA.2)⟩
    intro h20 tk20 led3 ds ls F20 N20 S3
    dsimp only
    replace hD1 := S3.sub _ hD10
    replace cS1 := S3.sub _ cS10
    have lam3 : Lam led3 := lam1.mono S3.sub
    clear F16 N16 hS2 hD42 hsub2
    (repeat' (first | (k_unfold; (try dsimp only)) | (refine unhide (by assumption) ?_; (try dsimp only)) | ((fail_if_success (with_reducible first | show wpAny _ _ (exec (Stmt.While _ _ _ _) _) _ _ _ | show wpAny _ _ (exec (Stmt.For _ _ _ _ _) _) _ _ _ | show wpAny _ _ (exec (Stmt.Assign _ (Expr.ListComp _ _ _ _) _) _) _ _ _ | show wpAny _ _ (eval (Expr.ListComp _ _ _ _) _) _ _ _ | show wpAny _ _ (call (Value.type "enumerate") _) _ _ _ | show wpAny _ _ (call (Value.type "zip") _) _ _ _ | refine stand_ref (by decide) ?_ | show wpAny _ _ (call (Value.type "range") _) _ _ _ | show wpAny _ _ (call (Value.ref _) _) _ _ _)); first | ((with_reducible first | (refine execs_one (by assumption) fun _ => ?_) | (refine execs_hid fun _ _ _ => ?_))) | ((with_reducible show wpAny _ _ (call (Value.builtin "len") [Value.ref _]) _ _ _); k_dflt (refine len_at (by k_asm) (by k_mem) (by ktr_units) ?_; k_whole); (try simp only [refs_length])) | ((with_reducible show wpAny _ _ (subscriptTail _ _ (Value.ref _) (Value.int _ _)) _ _ _); (with_unfolding_all refine item_litK (News.isList (by k_asm) (by k_mem)) (by first | decide | omega) (by first | decide | omega) (by assumption) ?_ (by with_unfolding_all rfl); k_whole)) | ((with_reducible show wpAny _ _ (call (Value.builtin "list.append") [Value.ref _, _]) _ _ _); k_dflt (refine app_at (by k_asm) (by k_asm) (by first | assumption | exact mem_put_self | exact mem_put (by first | assumption | exact mem_put_self | exact mem_put (by first | assumption | exact mem_put_self | exact mem_put (by assumption) (by ktr_unf)) (by ktr_unf)) (by ktr_unf)) (by ktr_units) ?_; k_whole); intro _ _ _; (try k_sweep)) | ((with_reducible show wpAny _ _ (setItem (Value.ref _) (Value.int _ _) _) _ _ _); k_dflt (refine setI_at (by k_asm) (by k_asm) (by first | assumption | exact mem_put_self | exact mem_put (by first | assumption | exact mem_put_self | exact mem_put (by first | assumption | exact mem_put_self | exact mem_put (by assumption) (by ktr_unf)) (by ktr_unf)) (by ktr_unf)) (by first | decide | omega) (by ktr_units) (by ktr_units) ?_; k_whole); intro _ _ _; (try k_sweep)) | ((with_reducible show wpAny _ _ (getMethod (Value.ref _) (PySem.Str.ofString "append") _) _ _ _); k_dflt (refine listMethod_K (by k_asm) (by first | assumption | exact mem_put_self | exact mem_put (by first | assumption | exact mem_put_self | exact mem_put (by first | assumption | exact mem_put_self | exact mem_put (by assumption) (by ktr_unf)) (by ktr_unf)) (by ktr_unf)) PySem.F.slot_list_append PySem.F.type_list_append ?_)) | ((with_reducible show TurnEnd _ _ _ _ _ _ _ _ (Flow.ret _) _); dsimp only [TurnEnd]) | walk1 | ((with_reducible show wpAny _ _ (call (Value.builtin "list.append") [Value.ref _, _]) _ _ _); k_dflt (refine app_at (by k_asm) (by k_asm) (by k_mem) (by ktr_units) ?_; k_whole); intro _ _ _; (try k_sweep)) | (dsimp only; walk1) | fail "no step")))
    (rename Fr _ _ _ _ => F22); (rename News _ _ _ _ => N22)
    refine LCg.ListComp_U F22 (by rfl) (by decide) (by rfl) (by decide) (by rfl) ?_
    repeat' (first | (k_unfold; (try dsimp only)) | (refine unhide (by assumption) ?_; (try dsimp only)) | ((fail_if_success (with_reducible show LCg.CompSrc _ _ _ _ _ _ _ _ _ _ _ _ _ _)); first | walk1 | (dsimp only; walk1)))
    (rename Fr _ _ _ _ => F23); (rename News _ _ _ _ => N23)
    obtain ⟨nS, hSt⟩ := S3.top
    have hdl := S3.len
    have hll := S3.lo
    have hlh := S3.hi
    refine LCg.CompSrc.ledger rfl F23 N23 hSt (by simp [refs, sizeLine_eq]; lia) ?_
    intro g'
    refine comp_inv (n := ls.length) (fun i ys nx => ∃ gs, GndJ led3 ls i ys nx gs) ?_ ?_ _ 0 [] led3 (by simp [refs]; lia) ⟨[], rfl, rfl, fun _ h => h, (by intro j g h; simp at h), List.Pairwise.nil, (by intro a h; cases h), (by intro a h; cases h)⟩
    · rintro i ys5 nx v I oI C oC D6 m₂ h tk E' hil ⟨gs, hJ⟩ hv hNs hxm F24 N24 off ne
      have hvb : v = .ref (ds.getD i 0) := by
        have : (refs ds)[i]? = some v := by simpa using hv
        have h2 : (refs ds)[i]? = some (.ref (ds.getD i 0)) := by simp [refs, List.getD, show i < ds.length by lia]
        rw [h2] at this; exact (Option.some.inj this).symm
      subst hvb
      (repeat' (first | (k_unfold; (try dsimp only)) | (refine unhide (by assumption) ?_; (try dsimp only)) | ((fail_if_success (with_reducible first | show wpAny _ _ (exec (Stmt.While _ _ _ _) _) _ _ _ | show wpAny _ _ (exec (Stmt.For _ _ _ _ _) _) _ _ _ | show wpAny _ _ (exec (Stmt.Assign _ (Expr.ListComp _ _ _ _) _) _) _ _ _ | show wpAny _ _ (eval (Expr.ListComp _ _ _ _) _) _ _ _ | show wpAny _ _ (call (Value.type "enumerate") _) _ _ _ | show wpAny _ _ (call (Value.type "zip") _) _ _ _ | refine stand_ref (by decide) ?_ | show wpAny _ _ (call (Value.type "range") _) _ _ _ | show wpAny _ _ (call (Value.ref _) _) _ _ _)); first | ((with_reducible first | (refine execs_one (by assumption) fun _ => ?_) | (refine execs_hid fun _ _ _ => ?_))) | ((with_reducible show wpAny _ _ (call (Value.builtin "len") [Value.ref _]) _ _ _); k_dflt (refine len_at (by k_asm) (by k_mem) (by ktr_units) ?_; k_whole); (try simp only [refs_length])) | ((with_reducible show wpAny _ _ (subscriptTail _ _ (Value.ref _) (Value.int _ _)) _ _ _); (with_unfolding_all refine item_litK (News.isList (by k_asm) (by k_mem)) (by first | decide | omega) (by first | decide | omega) (by assumption) ?_ (by with_unfolding_all rfl); k_whole)) | ((with_reducible show wpAny _ _ (call (Value.builtin "list.append") [Value.ref _, _]) _ _ _); k_dflt (refine app_at (by k_asm) (by k_asm) (by first | assumption | exact mem_put_self | exact mem_put (by first | assumption | exact mem_put_self | exact mem_put (by first | assumption | exact mem_put_self | exact mem_put (by assumption) (by ktr_unf)) (by ktr_unf)) (by ktr_unf)) (by ktr_units) ?_; k_whole); intro _ _ _; (try k_sweep)) | ((with_reducible show wpAny _ _ (setItem (Value.ref _) (Value.int _ _) _) _ _ _); k_dflt (refine setI_at (by k_asm) (by k_asm) (by first | assumption | exact mem_put_self | exact mem_put (by first | assumption | exact mem_put_self | exact mem_put (by first | assumption | exact mem_put_self | exact mem_put (by assumption) (by ktr_unf)) (by ktr_unf)) (by ktr_unf)) (by first | decide | omega) (by ktr_units) (by ktr_units) ?_; k_whole); intro _ _ _; (try k_sweep)) | ((with_reducible show wpAny _ _ (getMethod (Value.ref _) (PySem.Str.ofString "append") _) _ _ _); k_dflt (refine listMethod_K (by k_asm) (by first | assumption | exact mem_put_self | exact mem_put (by first | assumption | exact mem_put_self | exact mem_put (by first | assumption | exact mem_put_self | exact mem_put (by assumption) (by ktr_unf)) (by ktr_unf)) (by ktr_unf)) PySem.F.slot_list_append PySem.F.type_list_append ?_)) | ((with_reducible show TurnEnd _ _ _ _ _ _ _ _ (Flow.ret _) _); dsimp only [TurnEnd]) | walk1 | ((with_reducible show wpAny _ _ (call (Value.builtin "list.append") [Value.ref _, _]) _ _ _); k_dflt (refine app_at (by k_asm) (by k_asm) (by k_mem) (by ktr_units) ?_; k_whole); intro _ _ _; (try k_sweep)) | (dsimp only; walk1) | fail "no step")))
      (rename Fr _ _ _ _ => F25); (rename News _ _ _ _ => N25)
      obtain ⟨vs5, n5, hi5, hm5⟩ := S3.it i hil
      have hf5 := S3.fit i hil
      have hl5 := hi5.length
      refine ground_ctr ⟨B0, F25, X0, T0, N25, rfl, rfl⟩ (by decide) (by decide) (.tail _ (.tail _ (.tail _ (hJ.sub _ hm5)))) (by lia) ?_
      intro y dy sl ol o c h26 tk26 F26 N26 hgd fr f1 f2 f3
      exact LCg.CompEnd.intro F26 N26 ((ol, W.listOf #[] 0) :: (sl, W.listOf vs5.toArray c) :: (y, instObj 100 dy) :: (dy, o) :: nx) ground_sub (ground_end fr f1 f2 f3 off) (.inr ⟨_, .tail _ (.tail _ (.tail _ (.tail _ (hJ.sub _ hSt)))), rfl, _, rfl⟩)
        ⟨gs ++ [⟨y, dy, sl, ol⟩], hJ.snoc (g := ⟨y, dy, sl, ol⟩) hgd hi5 (fun q hq => fr q (.tail _ (.tail _ (.tail _ hq)))) f1 f2 f3⟩
    · rintro ys5 nx ⟨gs, hJ⟩
      intro GA h27 tk27 F27 N27 off27
      dsimp only
      (repeat' (first | (k_unfold; (try dsimp only)) | (refine unhide (by assumption) ?_; (try dsimp only)) | ((fail_if_success (with_reducible first | show wpAny _ _ (exec (Stmt.While _ _ _ _) _) _ _ _ | show wpAny _ _ (exec (Stmt.For _ _ _ _ _) _) _ _ _ | show wpAny _ _ (exec (Stmt.Assign _ (Expr.ListComp _ _ _ _) _) _) _ _ _ | show wpAny _ _ (eval (Expr.ListComp _ _ _ _) _) _ _ _ | show wpAny _ _ (call (Value.type "enumerate") _) _ _ _ | show wpAny _ _ (call (Value.type "zip") _) _ _ _ | refine stand_ref (by decide) ?_ | show wpAny _ _ (call (Value.type "range") _) _ _ _ | show wpAny _ _ (call (Value.ref _) _) _ _ _)); first | ((with_reducible first | (refine execs_one (by assumption) fun _ => ?_) | (refine execs_hid fun _ _ _ => ?_))) | ((with_reducible show wpAny _ _ (call (Value.builtin "len") [Value.ref _]) _ _ _); k_dflt (refine len_at (by k_asm) (by k_mem) (by ktr_units) ?_; k_whole); (try simp only [refs_length])) | ((with_reducible show wpAny _ _ (subscriptTail _ _ (Value.ref _) (Value.int _ _)) _ _ _); (with_unfolding_all refine item_litK (News.isList (by k_asm) (by k_mem)) (by first | decide | omega) (by first | decide | omega) (by assumption) ?_ (by with_unfolding_all rfl); k_whole)) | ((with_reducible show wpAny _ _ (call (Value.builtin "list.append") [Value.ref _, _]) _ _ _); k_dflt (refine app_at (by k_asm) (by k_asm) (by first | assumption | exact mem_put_self | exact mem_put (by first | assumption | exact mem_put_self | exact mem_put (by first | assumption | exact mem_put_self | exact mem_put (by assumption) (by ktr_unf)) (by ktr_unf)) (by ktr_unf)) (by ktr_units) ?_; k_whole); intro _ _ _; (try k_sweep)) | ((with_reducible show wpAny _ _ (setItem (Value.ref _) (Value.int _ _) _) _ _ _); k_dflt (refine setI_at (by k_asm) (by k_asm) (by first | assumption | exact mem_put_self | exact mem_put (by first | assumption | exact mem_put_self | exact mem_put (by first | assumption | exact mem_put_self | exact mem_put (by assumption) (by ktr_unf)) (by ktr_unf)) (by ktr_unf)) (by first | decide | omega) (by ktr_units) (by ktr_units) ?_; k_whole); intro _ _ _; (try k_sweep)) | ((with_reducible show wpAny _ _ (getMethod (Value.ref _) (PySem.Str.ofString "append") _) _ _ _); k_dflt (refine listMethod_K (by k_asm) (by first | assumption | exact mem_put_self | exact mem_put (by first | assumption | exact mem_put_self | exact mem_put (by first | assumption | exact mem_put_self | exact mem_put (by assumption) (by ktr_unf)) (by ktr_unf)) (by ktr_unf)) PySem.F.slot_list_append PySem.F.type_list_append ?_)) | ((with_reducible show TurnEnd _ _ _ _ _ _ _ _ (Flow.ret _) _); dsimp only [TurnEnd]) | walk1 | ((with_reducible show wpAny _ _ (call (Value.builtin "list.append") [Value.ref _, _]) _ _ _); k_dflt (refine app_at (by k_asm) (by k_asm) (by k_mem) (by ktr_units) ?_; k_whole); intro _ _ _; (try k_sweep)) | (dsimp only; walk1) | fail "no step")))
      (rename Fr _ _ _ _ => F28); (rename News _ _ _ _ => N28)
      (rename GA < _ ∧ AllLt _ nx => lC); (rename _ < _ ∧ GA < _ ∧ AllLt _ nx => lK)
      obtain ⟨led5, A, N29, G0, aS, aG, aC, aK, sub5, off5⟩ := law_c N28 hJ S3 off27 lC lK lam1
      clear N28 lC lK off27 hJ hSt
      replace hD1 := sub5 _ hD10
      replace cS1 := sub5 _ cS10
      have oD : ∀ r, Ok (dt0 ls) r → D ≠ A r := fun r hr => off5 _ hD10 r hr
      have oS : ∀ r, Ok (dt0 ls) r → _ ≠ A r := fun r hr => off5 _ cS10 r hr
      clear sub5 off5
      subst aS aG aC aK
      (with_unfolding_all refine' For_invVF F28 ?k1 ?k2 ?_; (case k1 => exact rfl); (case k2 => exact rfl))
      repeat' (first | (k_unfold; (try dsimp only)) | (refine unhide (by assumption) ?_; (try dsimp only)) | ((fail_if_success (with_reducible show wpAny _ _ (pyIter _) _ _ _)); first | ((with_reducible first | (refine execs_one (by assumption) fun _ => ?_) | (refine execs_hid fun _ _ _ => ?_))) | ((with_reducible show wpAny _ _ (call (Value.builtin "len") [Value.ref _]) _ _ _); k_dflt (refine len_at (by k_asm) (by k_mem) (by ktr_units) ?_; k_whole); (try simp only [refs_length])) | ((with_reducible show wpAny _ _ (subscriptTail _ _ (Value.ref _) (Value.int _ _)) _ _ _); (with_unfolding_all refine item_litK (News.isList (by k_asm) (by k_mem)) (by first | decide | omega) (by first | decide | omega) (by assumption) ?_ (by with_unfolding_all rfl); k_whole)) | ((with_reducible show wpAny _ _ (call (Value.builtin "list.append") [Value.ref _, _]) _ _ _); k_dflt (refine app_at (by k_asm) (by k_asm) (by first | assumption | exact mem_put_self | exact mem_put (by first | assumption | exact mem_put_self | exact mem_put (by first | assumption | exact mem_put_self | exact mem_put (by assumption) (by ktr_unf)) (by ktr_unf)) (by ktr_unf)) (by ktr_units) ?_; k_whole); intro _ _ _; (try k_sweep)) | ((with_reducible show wpAny _ _ (setItem (Value.ref _) (Value.int _ _) _) _ _ _); k_dflt (refine setI_at (by k_asm) (by k_asm) (by first | assumption | exact mem_put_self | exact mem_put (by first | assumption | exact mem_put_self | exact mem_put (by first | assumption | exact mem_put_self | exact mem_put (by assumption) (by ktr_unf)) (by ktr_unf)) (by ktr_unf)) (by first | decide | omega) (by ktr_units) (by ktr_units) ?_; k_whole); intro _ _ _; (try k_sweep)) | ((with_reducible show wpAny _ _ (getMethod (Value.ref _) (PySem.Str.ofString "append") _) _ _ _); k_dflt (refine listMethod_K (by k_asm) (by first | assumption | exact mem_put_self | exact mem_put (by first | assumption | exact mem_put_self | exact mem_put (by first | assumption | exact mem_put_self | exact mem_put (by assumption) (by ktr_unf)) (by ktr_unf)) (by ktr_unf)) PySem.F.slot_list_append PySem.F.type_list_append ?_)) | ((with_reducible show TurnEnd _ _ _ _ _ _ _ _ (Flow.ret _) _); dsimp only [TurnEnd]) | walk1 | ((with_reducible show wpAny _ _ (call (Value.builtin "list.append") [Value.ref _, _]) _ _ _); k_dflt (refine app_at (by k_asm) (by k_asm) (by k_mem) (by ktr_units) ?_; k_whole); intro _ _ _; (try k_sweep)) | (dsimp only; walk1) | fail "no step"))
      (rename Fr _ _ _ _ => F30); (rename News _ _ _ _ => N30); (rename IntsAre _ (List.drop 2 ms ++ List.take 2 ms) => hi30); (rename _ < _ ∧ _ < _ ∧ AllLt _ led5 => l30)
      have hl30 := hi30.length
      rw [List.length_append, List.length_drop, List.length_take] at hl30
      obtain ⟨led6, sub6, hDN, N31, f6⟩ := law_d N30 l30
      have G6 : Good led6 A (dt0 ls) 0 := G0.mono sub6
      have oN := law_e G0.h f6
      replace hD1 := sub6 _ hD1
      replace cS1 := sub6 _ cS1
      clear N30 l30 f6 sub6
      dsimp only
      refine iter_at2 (fun i m nx => LawJ A D _ _ _ oc1 _ i nx ∧ m (Str.ofString "grounds") = some (.ref (A .G)) ∧ m (Str.ofString "cells") = some (.ref (A .C)) ∧ m (Str.ofString "known") = some (.ref (A .K)) ∧ m (Str.ofString "stacks") = some (.ref (A .S))) rfl N31 hDN F30
        ⟨⟨A, dt0 ls, G6, rfl, rfl, rfl, rfl, fun r hr => ⟨oD r hr, oS r hr, oN r hr⟩, hD1, cS1, hDN⟩, rfl, rfl, rfl, rfl⟩ ?_ ?_
      · rintro I i v m₁ nx h31 tk31 own hv - hown hnx ⟨oI, hI, hoI⟩ hR1 F31 N32
        obtain ⟨⟨A1, d1, G1, aS, aG, aC, aK, off1, mD1, mS1, mN1⟩, z1, z2, z3, z4⟩ := hR1
        obtain ⟨x, tx, rfl, _⟩ := hi30.at i v hv
        have hi17 := (List.getElem?_eq_some_iff.mp hv).1
        have hi50 : i < 50 := by lia
        rw [← aG] at z1
        rw [← aC] at z2
        rw [← aK] at z3
        rw [← aS] at z4
        replace F31 := fr_at (x := Str.ofString "grounds") (fr_at (x := Str.ofString "cells") (fr_at (x := Str.ofString "known") (fr_at (x := Str.ofString "stacks") F31 (by with_unfolding_all exact z4)) (by with_unfolding_all exact z3)) (by with_unfolding_all exact z2)) (by with_unfolding_all exact z1)
        have up4 : ∀ q ∈ nx, q ∈ nx ++ own := fun q hq => List.mem_append_left _ hq
        (repeat' (first | (k_unfold; (try dsimp only)) | (refine unhide (by assumption) ?_; (try dsimp only)) | ((fail_if_success (with_reducible first | show wpAny _ _ (exec (Stmt.While _ _ _ _) _) _ _ _ | show wpAny _ _ (exec (Stmt.For _ _ _ _ _) _) _ _ _ | show wpAny _ _ (exec (Stmt.Assign _ (Expr.ListComp _ _ _ _) _) _) _ _ _ | show wpAny _ _ (eval (Expr.ListComp _ _ _ _) _) _ _ _ | show wpAny _ _ (call (Value.type "enumerate") _) _ _ _ | show wpAny _ _ (call (Value.type "zip") _) _ _ _ | refine stand_ref (by decide) ?_ | show wpAny _ _ (call (Value.type "range") _) _ _ _ | show wpAny _ _ (call (Value.ref _) _) _ _ _)); first | ((with_reducible first | (refine execs_one (by assumption) fun _ => ?_) | (refine execs_hid fun _ _ _ => ?_))) | ((with_reducible show wpAny _ _ (call (Value.builtin "len") [Value.ref _]) _ _ _); k_dflt (refine len_at (by k_asm) (by k_mem) (by ktr_units) ?_; k_whole); (try simp only [refs_length])) | ((with_reducible show wpAny _ _ (subscriptTail _ _ (Value.ref _) (Value.int _ _)) _ _ _); (with_unfolding_all refine item_litK (News.isList (by k_asm) (by k_mem)) (by first | decide | omega) (by first | decide | omega) (by assumption) ?_ (by with_unfolding_all rfl); k_whole)) | ((with_reducible show wpAny _ _ (call (Value.builtin "list.append") [Value.ref _, _]) _ _ _); k_dflt (refine app_at (by k_asm) (by k_asm) (by first | assumption | exact mem_put_self | exact mem_put (by first | assumption | exact mem_put_self | exact mem_put (by first | assumption | exact mem_put_self | exact mem_put (by assumption) (by ktr_unf)) (by ktr_unf)) (by ktr_unf)) (by ktr_units) ?_; k_whole); intro _ _ _; (try k_sweep)) | ((with_reducible show wpAny _ _ (setItem (Value.ref _) (Value.int _ _) _) _ _ _); k_dflt (refine setI_at (by k_asm) (by k_asm) (by first | assumption | exact mem_put_self | exact mem_put (by first | assumption | exact mem_put_self | exact mem_put (by first | assumption | exact mem_put_self | exact mem_put (by assumption) (by ktr_unf)) (by ktr_unf)) (by ktr_unf)) (by first | decide | omega) (by ktr_units) (by ktr_units) ?_; k_whole); intro _ _ _; (try k_sweep)) | ((with_reducible show wpAny _ _ (getMethod (Value.ref _) (PySem.Str.ofString "append") _) _ _ _); k_dflt (refine listMethod_K (by k_asm) (by first | assumption | exact mem_put_self | exact mem_put (by first | assumption | exact mem_put_self | exact mem_put (by first | assumption | exact mem_put_self | exact mem_put (by assumption) (by ktr_unf)) (by ktr_unf)) (by ktr_unf)) PySem.F.slot_list_append PySem.F.type_list_append ?_)) | ((with_reducible show TurnEnd _ _ _ _ _ _ _ _ (Flow.ret _) _); dsimp only [TurnEnd]) | walk1 | ((with_reducible show wpAny _ _ (call (Value.builtin "list.append") [Value.ref _, _]) _ _ _); k_dflt (refine app_at (by k_asm) (by k_asm) (by k_mem) (by ktr_units) ?_; k_whole); intro _ _ _; (try k_sweep)) | (dsimp only; walk1) | fail "no step")))
        (rename Fr _ _ _ _ => F32); (rename News _ _ _ _ => N33)
        refine wpAny_call (deed_H ⟨B0, F32, X0, T0, N33, rfl, rfl⟩ (by decide) (by decide) (G1.mono up4) hi50 ?_)
        intro A2 d2 h33 tk33 news' F33 N34 G2 hgl ext k2
        obtain ⟨hJ2, ko⟩ := turn_step G1 aS aG aC aK off1 mD1 mS1 mN1 (fun ps e => by cases e) (fun ps e => by rw [dc1] at e; cases e) (fun ps e => by cases e) N33 hnx hown hI hoI N34 G2 ext k2
        dsimp only
        (repeat' (first | (k_unfold; (try dsimp only)) | (refine unhide (by assumption) ?_; (try dsimp only)) | ((fail_if_success (with_reducible first | show wpAny _ _ (exec (Stmt.While _ _ _ _) _) _ _ _ | show wpAny _ _ (exec (Stmt.For _ _ _ _ _) _) _ _ _ | show wpAny _ _ (exec (Stmt.Assign _ (Expr.ListComp _ _ _ _) _) _) _ _ _ | show wpAny _ _ (eval (Expr.ListComp _ _ _ _) _) _ _ _ | show wpAny _ _ (call (Value.type "enumerate") _) _ _ _ | show wpAny _ _ (call (Value.type "zip") _) _ _ _ | refine stand_ref (by decide) ?_ | show wpAny _ _ (call (Value.type "range") _) _ _ _ | show wpAny _ _ (call (Value.ref _) _) _ _ _)); first | ((with_reducible first | (refine execs_one (by assumption) fun _ => ?_) | (refine execs_hid fun _ _ _ => ?_))) | ((with_reducible show wpAny _ _ (call (Value.builtin "len") [Value.ref _]) _ _ _); k_dflt (refine len_at (by k_asm) (by k_mem) (by ktr_units) ?_; k_whole); (try simp only [refs_length])) | ((with_reducible show wpAny _ _ (subscriptTail _ _ (Value.ref _) (Value.int _ _)) _ _ _); (with_unfolding_all refine item_litK (News.isList (by k_asm) (by k_mem)) (by first | decide | omega) (by first | decide | omega) (by assumption) ?_ (by with_unfolding_all rfl); k_whole)) | ((with_reducible show wpAny _ _ (call (Value.builtin "list.append") [Value.ref _, _]) _ _ _); k_dflt (refine app_at (by k_asm) (by k_asm) (by first | assumption | exact mem_put_self | exact mem_put (by first | assumption | exact mem_put_self | exact mem_put (by first | assumption | exact mem_put_self | exact mem_put (by assumption) (by ktr_unf)) (by ktr_unf)) (by ktr_unf)) (by ktr_units) ?_; k_whole); intro _ _ _; (try k_sweep)) | ((with_reducible show wpAny _ _ (setItem (Value.ref _) (Value.int _ _) _) _ _ _); k_dflt (refine setI_at (by k_asm) (by k_asm) (by first | assumption | exact mem_put_self | exact mem_put (by first | assumption | exact mem_put_self | exact mem_put (by first | assumption | exact mem_put_self | exact mem_put (by assumption) (by ktr_unf)) (by ktr_unf)) (by ktr_unf)) (by first | decide | omega) (by ktr_units) (by ktr_units) ?_; k_whole); intro _ _ _; (try k_sweep)) | ((with_reducible show wpAny _ _ (getMethod (Value.ref _) (PySem.Str.ofString "append") _) _ _ _); k_dflt (refine listMethod_K (by k_asm) (by first | assumption | exact mem_put_self | exact mem_put (by first | assumption | exact mem_put_self | exact mem_put (by first | assumption | exact mem_put_self | exact mem_put (by assumption) (by ktr_unf)) (by ktr_unf)) (by ktr_unf)) PySem.F.slot_list_append PySem.F.type_list_append ?_)) | ((with_reducible show TurnEnd _ _ _ _ _ _ _ _ (Flow.ret _) _); dsimp only [TurnEnd]) | walk1 | ((with_reducible show wpAny _ _ (call (Value.builtin "list.append") [Value.ref _, _]) _ _ _); k_dflt (refine app_at (by k_asm) (by k_asm) (by k_mem) (by ktr_units) ?_; k_whole); intro _ _ _; (try k_sweep)) | (dsimp only; walk1) | fail "no step")))
        (rename Fr _ _ _ _ => F35); (rename News _ _ _ _ => N36)
        rw [← ext.same .G trivial, ← ext.same .S trivial, ← ext.same .C trivial, ← ext.same .K trivial]
        refine wpAny_call (right_H ⟨B0, F35, X0, T0, N36, rfl, rfl⟩ (by decide) (by decide) G2.h G2.w G2.i (by have := G2.sz.ups; lia) ?_)
        intro h36 tk36 F36 N37
        dsimp only
        (repeat' (first | (k_unfold; (try dsimp only)) | (refine unhide (by assumption) ?_; (try dsimp only)) | ((fail_if_success (with_reducible first | show wpAny _ _ (exec (Stmt.While _ _ _ _) _) _ _ _ | show wpAny _ _ (exec (Stmt.For _ _ _ _ _) _) _ _ _ | show wpAny _ _ (exec (Stmt.Assign _ (Expr.ListComp _ _ _ _) _) _) _ _ _ | show wpAny _ _ (eval (Expr.ListComp _ _ _ _) _) _ _ _ | show wpAny _ _ (call (Value.type "enumerate") _) _ _ _ | show wpAny _ _ (call (Value.type "zip") _) _ _ _ | refine stand_ref (by decide) ?_ | show wpAny _ _ (call (Value.type "range") _) _ _ _ | show wpAny _ _ (call (Value.ref _) _) _ _ _)); first | ((with_reducible first | (refine execs_one (by assumption) fun _ => ?_) | (refine execs_hid fun _ _ _ => ?_))) | ((with_reducible show wpAny _ _ (call (Value.builtin "len") [Value.ref _]) _ _ _); k_dflt (refine len_at (by k_asm) (by k_mem) (by ktr_units) ?_; k_whole); (try simp only [refs_length])) | ((with_reducible show wpAny _ _ (subscriptTail _ _ (Value.ref _) (Value.int _ _)) _ _ _); (with_unfolding_all refine item_litK (News.isList (by k_asm) (by k_mem)) (by first | decide | omega) (by first | decide | omega) (by assumption) ?_ (by with_unfolding_all rfl); k_whole)) | ((with_reducible show wpAny _ _ (call (Value.builtin "list.append") [Value.ref _, _]) _ _ _); k_dflt (refine app_at (by k_asm) (by k_asm) (by first | assumption | exact mem_put_self | exact mem_put (by first | assumption | exact mem_put_self | exact mem_put (by first | assumption | exact mem_put_self | exact mem_put (by assumption) (by ktr_unf)) (by ktr_unf)) (by ktr_unf)) (by ktr_units) ?_; k_whole); intro _ _ _; (try k_sweep)) | ((with_reducible show wpAny _ _ (setItem (Value.ref _) (Value.int _ _) _) _ _ _); k_dflt (refine setI_at (by k_asm) (by k_asm) (by first | assumption | exact mem_put_self | exact mem_put (by first | assumption | exact mem_put_self | exact mem_put (by first | assumption | exact mem_put_self | exact mem_put (by assumption) (by ktr_unf)) (by ktr_unf)) (by ktr_unf)) (by first | decide | omega) (by ktr_units) (by ktr_units) ?_; k_whole); intro _ _ _; (try k_sweep)) | ((with_reducible show wpAny _ _ (getMethod (Value.ref _) (PySem.Str.ofString "append") _) _ _ _); k_dflt (refine listMethod_K (by k_asm) (by first | assumption | exact mem_put_self | exact mem_put (by first | assumption | exact mem_put_self | exact mem_put (by first | assumption | exact mem_put_self | exact mem_put (by assumption) (by ktr_unf)) (by ktr_unf)) (by ktr_unf)) PySem.F.slot_list_append PySem.F.type_list_append ?_)) | ((with_reducible show TurnEnd _ _ _ _ _ _ _ _ (Flow.ret _) _); dsimp only [TurnEnd]) | walk1 | ((with_reducible show wpAny _ _ (call (Value.builtin "list.append") [Value.ref _, _]) _ _ _); k_dflt (refine app_at (by k_asm) (by k_asm) (by k_mem) (by ktr_units) ?_; k_whole); intro _ _ _; (try k_sweep)) | (dsimp only; walk1) | fail "no step")))
        exact ⟨_, _, _, news', List.filter (fun p => p.1 != I) news', rfl, F36, N37, filter_sub, ko, filter_ne, hJ2, congrArg (fun a => some (Value.ref a)) aG, congrArg (fun a => some (Value.ref a)) aC, congrArg (fun a => some (Value.ref a)) aK, congrArg (fun a => some (Value.ref a)) aS⟩
      · rintro m₁ nx h40 tk40 hR1 F40 N40
        obtain ⟨⟨A1, d1, G1, aS, aG, aC, aK, off1, mD1, mS1, mN1⟩, z1, z2, z3, z4⟩ := hR1
        rw [← aG] at z1
        rw [← aC] at z2
        rw [← aK] at z3
        rw [← aS] at z4
        replace F40 := fr_at (x := Str.ofString "grounds") (fr_at (x := Str.ofString "cells") (fr_at (x := Str.ofString "known") (fr_at (x := Str.ofString "stacks") F40 z4) z3) z2) z1
        have hul : (List.drop 2 ms ++ List.take 2 ms).length ≤ 16 := by rw [List.length_append, List.length_drop, List.length_take]; lia
        have G17 : Good nx A1 d1 17 := ⟨G1.h, G1.w, G1.i, G1.l, G1.sz.mono (by lia)⟩
        have hlo := G17.sz.lo
        have hhi := G17.sz.hi
        clear G1 aS aG aC aK F30 N31 hDN hi30 G6 oN oD oS
        dsimp only
        (repeat' (first | (k_unfold; (try dsimp only)) | (refine unhide (by assumption) ?_; (try dsimp only)) | ((fail_if_success (with_reducible first | show wpAny _ _ (exec (Stmt.While _ _ _ _) _) _ _ _ | show wpAny _ _ (exec (Stmt.For _ _ _ _ _) _) _ _ _ | show wpAny _ _ (exec (Stmt.Assign _ (Expr.ListComp _ _ _ _) _) _) _ _ _ | show wpAny _ _ (eval (Expr.ListComp _ _ _ _) _) _ _ _ | show wpAny _ _ (call (Value.type "enumerate") _) _ _ _ | show wpAny _ _ (call (Value.type "zip") _) _ _ _ | refine stand_ref (by decide) ?_ | show wpAny _ _ (call (Value.type "range") _) _ _ _ | show wpAny _ _ (call (Value.ref _) _) _ _ _)); first | ((with_reducible first | (refine execs_one (by assumption) fun _ => ?_) | (refine execs_hid fun _ _ _ => ?_))) | ((with_reducible show wpAny _ _ (call (Value.builtin "len") [Value.ref _]) _ _ _); k_dflt (refine len_at (by k_asm) (by k_mem) (by ktr_units) ?_; k_whole); (try simp only [refs_length])) | ((with_reducible show wpAny _ _ (subscriptTail _ _ (Value.ref _) (Value.int _ _)) _ _ _); (with_unfolding_all refine item_litK (News.isList (by k_asm) (by k_mem)) (by first | decide | omega) (by first | decide | omega) (by assumption) ?_ (by with_unfolding_all rfl); k_whole)) | ((with_reducible show wpAny _ _ (call (Value.builtin "list.append") [Value.ref _, _]) _ _ _); k_dflt (refine app_at (by k_asm) (by k_asm) (by first | assumption | exact mem_put_self | exact mem_put (by first | assumption | exact mem_put_self | exact mem_put (by first | assumption | exact mem_put_self | exact mem_put (by assumption) (by ktr_unf)) (by ktr_unf)) (by ktr_unf)) (by ktr_units) ?_; k_whole); intro _ _ _; (try k_sweep)) | ((with_reducible show wpAny _ _ (setItem (Value.ref _) (Value.int _ _) _) _ _ _); k_dflt (refine setI_at (by k_asm) (by k_asm) (by first | assumption | exact mem_put_self | exact mem_put (by first | assumption | exact mem_put_self | exact mem_put (by first | assumption | exact mem_put_self | exact mem_put (by assumption) (by ktr_unf)) (by ktr_unf)) (by ktr_unf)) (by first | decide | omega) (by ktr_units) (by ktr_units) ?_; k_whole); intro _ _ _; (try k_sweep)) | ((with_reducible show wpAny _ _ (getMethod (Value.ref _) (PySem.Str.ofString "append") _) _ _ _); k_dflt (refine listMethod_K (by k_asm) (by first | assumption | exact mem_put_self | exact mem_put (by first | assumption | exact mem_put_self | exact mem_put (by first | assumption | exact mem_put_self | exact mem_put (by assumption) (by ktr_unf)) (by ktr_unf)) (by ktr_unf)) PySem.F.slot_list_append PySem.F.type_list_append ?_)) | ((with_reducible show TurnEnd _ _ _ _ _ _ _ _ (Flow.ret _) _); dsimp only [TurnEnd]) | walk1 | ((with_reducible show wpAny _ _ (call (Value.builtin "list.append") [Value.ref _, _]) _ _ _); k_dflt (refine app_at (by k_asm) (by k_asm) (by k_mem) (by ktr_units) ?_; k_whole); intro _ _ _; (try k_sweep)) | (dsimp only; walk1) | fail "no step")))
        (rename Fr _ _ _ _ => F41); (rename News _ _ _ _ => N41)
        obtain ⟨nG, hG⟩ := G17.h.lG
        have hGl : (refs (row (fun i => A1 (.gi i)) d1.gst.length)).length ≤ 300 := by rw [refs_length, row_length]; lia
        (with_unfolding_all refine' For_invVF F41 ?k1 ?k2 ?_; (case k1 => exact rfl); (case k2 => exact rfl))
        (repeat' (first | (k_unfold; (try dsimp only)) | (refine unhide (by assumption) ?_; (try dsimp only)) | ((fail_if_success (with_reducible first | show wpAny _ _ (exec (Stmt.While _ _ _ _) _) _ _ _ | show wpAny _ _ (exec (Stmt.For _ _ _ _ _) _) _ _ _ | show wpAny _ _ (exec (Stmt.Assign _ (Expr.ListComp _ _ _ _) _) _) _ _ _ | show wpAny _ _ (eval (Expr.ListComp _ _ _ _) _) _ _ _ | show wpAny _ _ (call (Value.type "enumerate") _) _ _ _ | show wpAny _ _ (call (Value.type "zip") _) _ _ _ | refine stand_ref (by decide) ?_ | show wpAny _ _ (call (Value.type "range") _) _ _ _ | show wpAny _ _ (call (Value.ref _) _) _ _ _)); first | ((with_reducible first | (refine execs_one (by assumption) fun _ => ?_) | (refine execs_hid fun _ _ _ => ?_))) | ((with_reducible show wpAny _ _ (call (Value.builtin "len") [Value.ref _]) _ _ _); k_dflt (refine len_at (by k_asm) (by k_mem) (by ktr_units) ?_; k_whole); (try simp only [refs_length])) | ((with_reducible show wpAny _ _ (subscriptTail _ _ (Value.ref _) (Value.int _ _)) _ _ _); (with_unfolding_all refine item_litK (News.isList (by k_asm) (by k_mem)) (by first | decide | omega) (by first | decide | omega) (by assumption) ?_ (by with_unfolding_all rfl); k_whole)) | ((with_reducible show wpAny _ _ (call (Value.builtin "list.append") [Value.ref _, _]) _ _ _); k_dflt (refine app_at (by k_asm) (by k_asm) (by first | assumption | exact mem_put_self | exact mem_put (by first | assumption | exact mem_put_self | exact mem_put (by first | assumption | exact mem_put_self | exact mem_put (by assumption) (by ktr_unf)) (by ktr_unf)) (by ktr_unf)) (by ktr_units) ?_; k_whole); intro _ _ _; (try k_sweep)) | ((with_reducible show wpAny _ _ (setItem (Value.ref _) (Value.int _ _) _) _ _ _); k_dflt (refine setI_at (by k_asm) (by k_asm) (by first | assumption | exact mem_put_self | exact mem_put (by first | assumption | exact mem_put_self | exact mem_put (by first | assumption | exact mem_put_self | exact mem_put (by assumption) (by ktr_unf)) (by ktr_unf)) (by ktr_unf)) (by first | decide | omega) (by ktr_units) (by ktr_units) ?_; k_whole); intro _ _ _; (try k_sweep)) | ((with_reducible show wpAny _ _ (getMethod (Value.ref _) (PySem.Str.ofString "append") _) _ _ _); k_dflt (refine listMethod_K (by k_asm) (by first | assumption | exact mem_put_self | exact mem_put (by first | assumption | exact mem_put_self | exact mem_put (by first | assumption | exact mem_put_self | exact mem_put (by assumption) (by ktr_unf)) (by ktr_unf)) (by ktr_unf)) PySem.F.slot_list_append PySem.F.type_list_append ?_)) | ((with_reducible show TurnEnd _ _ _ _ _ _ _ _ (Flow.ret _) _); dsimp only [TurnEnd]) | walk1 | ((with_reducible show wpAny _ _ (call (Value.builtin "list.append") [Value.ref _, _]) _ _ _); k_dflt (refine app_at (by k_asm) (by k_asm) (by k_mem) (by ktr_units) ?_; k_whole); intro _ _ _; (try k_sweep)) | (dsimp only; walk1) | fail "no step")))
        (rename Fr _ _ _ _ => F42); (rename News _ _ _ _ => N42)
        rw [row_length]
        refine range_at2 (n := d1.gst.length) (fun i m nx => (∃ d, Good nx A1 d 17 ∧ (∀ r, Ok d r ↔ Ok d1 r) ∧ (D, W.listOf ws.toArray e) ∈ nx ∧ (_, oc1) ∈ nx) ∧ m (Str.ofString "grounds") = some (.ref (A1 .G)) ∧ m (Str.ofString "cells") = some (.ref (A1 .C)) ∧ m (Str.ofString "known") = some (.ref (A1 .K)) ∧ m (Str.ofString "stacks") = some (.ref (A1 .S))) rfl (by lia) F42 N42
          ⟨⟨d1, G17, fun _ => Iff.rfl, mD1, mS1⟩, rfl, rfl, rfl, rfl⟩ ?_ ?_
        · rintro I i t m₁ nx h43 tk43 own hin - hown hnx ⟨oI, hI, hoI⟩ hR1 F43 N43
          obtain ⟨⟨d, G, hok, kD, kS⟩, z1, z2, z3, z4⟩ := hR1
          replace F43 := fr_at (x := Str.ofString "grounds") (fr_at (x := Str.ofString "cells") (fr_at (x := Str.ofString "known") (fr_at (x := Str.ofString "stacks") F43 (by with_unfolding_all exact z4)) (by with_unfolding_all exact z3)) (by with_unfolding_all exact z2)) (by with_unfolding_all exact z1)
          have hgl : d.gst.length = d1.gst.length := by
            have a : ∀ i, i < d.gst.length ↔ i < d1.gst.length := fun i => hok (.gi i)
            have b := a d.gst.length
            have c := a d1.gst.length
            lia
          have hi : i < d.gst.length := by lia
          have Nnx : News _ _ h43 nx := fun q hq => N43 q (List.mem_append_left _ hq)
          obtain ⟨o172, m172⟩ := G.l.at172
          have n172 : (172 : Addr) ≠ I := hnx _ m172
          have rI : ∀ r, Ok d r → A1 r ≠ I := fun r hr => by obtain ⟨o, a, _⟩ := G.h.has r hr; exact hnx _ a
          have dD := G.l.ne Nnx kD (fun ps e => by cases e)
          have dS := G.l.ne Nnx kS (fun ps e => by rw [dc1] at e; cases e)
          clear Nnx
          have up4 : ∀ q ∈ nx, q ∈ nx ++ own := fun q hq => List.mem_append_left _ hq
          have Gb := G.mono up4
          (repeat' (first | (k_unfold; (try dsimp only)) | (refine unhide (by assumption) ?_; (try dsimp only)) | ((fail_if_success (with_reducible first | show wpAny _ _ (exec (Stmt.While _ _ _ _) _) _ _ _ | show wpAny _ _ (exec (Stmt.For _ _ _ _ _) _) _ _ _ | show wpAny _ _ (exec (Stmt.Assign _ (Expr.ListComp _ _ _ _) _) _) _ _ _ | show wpAny _ _ (eval (Expr.ListComp _ _ _ _) _) _ _ _ | show wpAny _ _ (call (Value.type "enumerate") _) _ _ _ | show wpAny _ _ (call (Value.type "zip") _) _ _ _ | refine stand_ref (by decide) ?_ | show wpAny _ _ (call (Value.type "range") _) _ _ _ | show wpAny _ _ (call (Value.ref _) _) _ _ _)); first | ((with_reducible first | (refine execs_one (by assumption) fun _ => ?_) | (refine execs_hid fun _ _ _ => ?_))) | ((with_reducible show wpAny _ _ (call (Value.builtin "len") [Value.ref _]) _ _ _); k_dflt (refine len_at (by k_asm) (by k_mem) (by ktr_units) ?_; k_whole); (try simp only [refs_length])) | ((with_reducible show wpAny _ _ (subscriptTail _ _ (Value.ref _) (Value.int _ _)) _ _ _); (with_unfolding_all refine item_litK (News.isList (by k_asm) (by k_mem)) (by first | decide | omega) (by first | decide | omega) (by assumption) ?_ (by with_unfolding_all rfl); k_whole)) | ((with_reducible show wpAny _ _ (call (Value.builtin "list.append") [Value.ref _, _]) _ _ _); k_dflt (refine app_at (by k_asm) (by k_asm) (by first | assumption | exact mem_put_self | exact mem_put (by first | assumption | exact mem_put_self | exact mem_put (by first | assumption | exact mem_put_self | exact mem_put (by assumption) (by ktr_unf)) (by ktr_unf)) (by ktr_unf)) (by ktr_units) ?_; k_whole); intro _ _ _; (try k_sweep)) | ((with_reducible show wpAny _ _ (setItem (Value.ref _) (Value.int _ _) _) _ _ _); k_dflt (refine setI_at (by k_asm) (by k_asm) (by first | assumption | exact mem_put_self | exact mem_put (by first | assumption | exact mem_put_self | exact mem_put (by first | assumption | exact mem_put_self | exact mem_put (by assumption) (by ktr_unf)) (by ktr_unf)) (by ktr_unf)) (by first | decide | omega) (by ktr_units) (by ktr_units) ?_; k_whole); intro _ _ _; (try k_sweep)) | ((with_reducible show wpAny _ _ (getMethod (Value.ref _) (PySem.Str.ofString "append") _) _ _ _); k_dflt (refine listMethod_K (by k_asm) (by first | assumption | exact mem_put_self | exact mem_put (by first | assumption | exact mem_put_self | exact mem_put (by first | assumption | exact mem_put_self | exact mem_put (by assumption) (by ktr_unf)) (by ktr_unf)) (by ktr_unf)) PySem.F.slot_list_append PySem.F.type_list_append ?_)) | ((with_reducible show TurnEnd _ _ _ _ _ _ _ _ (Flow.ret _) _); dsimp only [TurnEnd]) | walk1 | ((with_reducible show wpAny _ _ (call (Value.builtin "list.append") [Value.ref _, _]) _ _ _); k_dflt (refine app_at (by k_asm) (by k_asm) (by k_mem) (by ktr_units) ?_; k_whole); intro _ _ _; (try k_sweep)) | (dsimp only; walk1) | fail "no step")))
          (rename Fr _ _ _ _ => F44); (rename News _ _ _ _ => N44)
          refine wpAny_call (closed_H (lv := 0) ⟨B0, F44, X0, T0, N44, rfl, rfl⟩ (by decide) (by decide) Gb.h Gb.w Gb.i (by have := Gb.sz.ups; lia) hi Gb.l ?_)
          intro h45 tk45 led7 F45 N45 h7 k7 l7
          obtain ⟨w1, w2, w3⟩ := shutAll_keep (lv := 0) Gb.w Gb.i hi Gb.sz
          have hi2 : i < (shutAll d i ((0 : Nat) : Int)).gst.length := by rw [gst_shutAll]; exact hi
          have him2 : i < (shutAll d i ((0 : Nat) : Int)).mst.length := by rw [w2.mir]; exact hi2
          have okd2 : ∀ r, Ok (shutAll d i ((0 : Nat) : Int)) r ↔ Ok d r := ok_shutAll
          generalize shutAll d i ((0 : Nat) : Int) = d3 at h7 w1 w2 w3 hi2 him2 okd2
          obtain ⟨dxg, og, hg1, hg2, ng, gc0, gc1, gt0, gt1, rfl⟩ := h7.ground hi2
          obtain ⟨nS7, hS7⟩ := h7.lS
          obtain ⟨nG7, hG7⟩ := h7.lG
          obtain ⟨ws7, nw7, hws7, hwl7⟩ := h7.mirror him2
          obtain ⟨vs7, nv7, hvs7, hsl7⟩ := h7.gstack hi2
          have hms7 : mstAt d3 i = gstAt d3 i := by unfold mstAt gstAt; rw [w2.mir]
          have hp7 := w2.pos i hi2
          have hf7 := w1.gfit i
          have l7a := hws7.length
          have l7b := hvs7.length
          rw [hms7] at l7a
          have j1 : (refs (row (fun i => A1 (.mir i)) d3.mst.length))[((i : Nat) : Int).toNat]? = some (.ref (A1 (.mir i))) := refs_get (row_get him2)
          have j2 : (refs (row (fun i => A1 (.gi i)) d3.gst.length))[((i : Nat) : Int).toNat]? = some (.ref (A1 (.gi i))) := refs_get (row_get hi2)
          have b1 : ((i : Nat) : Int) < 2 ^ 63 := by lia
          have s1 : A1 .S ≠ A1 (.gs i) := h7.ne (r := .S) (r' := .gs i) trivial hi2 (by simp)
          have s2 : A1 (.mir i) ≠ A1 (.gs i) := h7.ne (r := .mir i) (r' := .gs i) him2 hi2 (by simp)
          have lamK : ∀ news', Kept A1 d3 led7 news' → Lam news' := fun news' k => Lam.kept l7 h7 N45 k
          dsimp only
          (repeat' (first | (k_unfold; (try dsimp only)) | (refine unhide (by assumption) ?_; (try dsimp only)) | ((fail_if_success (with_reducible first | show wpAny _ _ (exec (Stmt.While _ _ _ _) _) _ _ _ | show wpAny _ _ (exec (Stmt.For _ _ _ _ _) _) _ _ _ | show wpAny _ _ (exec (Stmt.Assign _ (Expr.ListComp _ _ _ _) _) _) _ _ _ | show wpAny _ _ (eval (Expr.ListComp _ _ _ _) _) _ _ _ | show wpAny _ _ (call (Value.type "enumerate") _) _ _ _ | show wpAny _ _ (call (Value.type "zip") _) _ _ _ | refine stand_ref (by decide) ?_ | show wpAny _ _ (call (Value.type "range") _) _ _ _ | show wpAny _ _ (call (Value.ref _) _) _ _ _)); first | ((with_reducible first | (refine execs_one (by assumption) fun _ => ?_) | (refine execs_hid fun _ _ _ => ?_))) | ((with_reducible show wpAny _ _ (call (Value.builtin "len") [Value.ref _]) _ _ _); k_dflt (refine len_at (by k_asm) (by k_mem) (by ktr_units) ?_; k_whole); (try simp only [refs_length])) | ((with_reducible show wpAny _ _ (subscriptTail _ _ (Value.ref _) (Value.int _ _)) _ _ _); (with_unfolding_all refine item_litK (News.isList (by k_asm) (by k_mem)) (by first | decide | omega) (by first | decide | omega) (by assumption) ?_ (by with_unfolding_all rfl); k_whole)) | ((with_reducible show wpAny _ _ (call (Value.builtin "list.append") [Value.ref _, _]) _ _ _); k_dflt (refine app_at (by k_asm) (by k_asm) (by first | assumption | exact mem_put_self | exact mem_put (by first | assumption | exact mem_put_self | exact mem_put (by first | assumption | exact mem_put_self | exact mem_put (by assumption) (by ktr_unf)) (by ktr_unf)) (by ktr_unf)) (by ktr_units) ?_; k_whole); intro _ _ _; (try k_sweep)) | ((with_reducible show wpAny _ _ (setItem (Value.ref _) (Value.int _ _) _) _ _ _); k_dflt (refine setI_at (by k_asm) (by k_asm) (by first | assumption | exact mem_put_self | exact mem_put (by first | assumption | exact mem_put_self | exact mem_put (by first | assumption | exact mem_put_self | exact mem_put (by assumption) (by ktr_unf)) (by ktr_unf)) (by ktr_unf)) (by first | decide | omega) (by ktr_units) (by ktr_units) ?_; k_whole); intro _ _ _; (try k_sweep)) | ((with_reducible show wpAny _ _ (getMethod (Value.ref _) (PySem.Str.ofString "append") _) _ _ _); k_dflt (refine listMethod_K (by k_asm) (by first | assumption | exact mem_put_self | exact mem_put (by first | assumption | exact mem_put_self | exact mem_put (by first | assumption | exact mem_put_self | exact mem_put (by assumption) (by ktr_unf)) (by ktr_unf)) (by ktr_unf)) PySem.F.slot_list_append PySem.F.type_list_append ?_)) | ((with_reducible show TurnEnd _ _ _ _ _ _ _ _ (Flow.ret _) _); dsimp only [TurnEnd]) | walk1 | ((with_reducible show wpAny _ _ (call (Value.builtin "list.append") [Value.ref _, _]) _ _ _); k_dflt (refine app_at (by k_asm) (by k_asm) (by k_mem) (by ktr_units) ?_; k_whole); intro _ _ _; (try k_sweep)) | (dsimp only; walk1) | fail "no step")))
          (rename Fr _ _ _ _ => F46); (rename News _ _ _ _ => N46)
          obtain ⟨v1, v2, v3⟩ := wrote_keep (pl := 0) (x := 0 - 1) w1 w2 hi2 w3
          have okw : ∀ r, Ok (wrote d3 i 0 (0 - 1)) r ↔ Ok d r := fun r => (ok_wrote r).trans (okd2 r)
          obtain ⟨g1, g2, g3, g4⟩ := turn2 (A := A1) (d := wrote d3 i 0 (0 - 1)) (c := 17) N46 ⟨(h7.setG hi2 (ints_set hvs7 0 (0 - 1) _)).setM him2 (ints_set hws7 0 (0 - 1) _), v1, v2, lamK _ (fun q hq hr => mem_put (mem_put hq (hr (.gs i) hi2)) (hr (.mir i) him2)), v3⟩
            (fun q hq hr h172 => mem_put (mem_put (k7 q hq (fun r h => hr r ((okw r).mpr h)) h172) (hr (.gs i) ((okw _).mpr hi))) (hr (.mir i) ((okw _).mpr ((okd2 (.mir i)).mp him2)))) hnx (fun q hq => (hown q hq)) hI hoI (fun r h => rI r ((okw r).mp h)) n172 kD kS dD dS
            (fun r h => (off1 r ((hok r).mp ((okw r).mp h))).1) (fun r h => (off1 r ((hok r).mp ((okw r).mp h))).2.1)
          exact ⟨_, _, _, _, _, rfl, F46, N46, filter_sub, g2, filter_ne, ⟨_, g1, fun r => (okw r).trans (hok r), g3, g4⟩, rfl, rfl, rfl, rfl⟩
        · rintro m₁ nx h50 tk50 hR1 F50 N50
          obtain ⟨⟨d, G, hok, kD, kS⟩, z1, z2, z3, z4⟩ := hR1
          replace F50 := fr_at (x := Str.ofString "grounds") (fr_at (x := Str.ofString "cells") (fr_at (x := Str.ofString "known") (fr_at (x := Str.ofString "stacks") F50 z4) z3) z2) z1
          dsimp only
          (repeat' (first | (k_unfold; (try dsimp only)) | (refine unhide (by assumption) ?_; (try dsimp only)) | ((fail_if_success (with_reducible first | show wpAny _ _ (exec (Stmt.While _ _ _ _) _) _ _ _ | show wpAny _ _ (exec (Stmt.For _ _ _ _ _) _) _ _ _ | show wpAny _ _ (exec (Stmt.Assign _ (Expr.ListComp _ _ _ _) _) _) _ _ _ | show wpAny _ _ (eval (Expr.ListComp _ _ _ _) _) _ _ _ | show wpAny _ _ (call (Value.type "enumerate") _) _ _ _ | show wpAny _ _ (call (Value.type "zip") _) _ _ _ | refine stand_ref (by decide) ?_ | show wpAny _ _ (call (Value.type "range") _) _ _ _ | show wpAny _ _ (call (Value.ref _) _) _ _ _)); first | ((with_reducible first | (refine execs_one (by assumption) fun _ => ?_) | (refine execs_hid fun _ _ _ => ?_))) | ((with_reducible show wpAny _ _ (call (Value.builtin "len") [Value.ref _]) _ _ _); k_dflt (refine len_at (by k_asm) (by k_mem) (by ktr_units) ?_; k_whole); (try simp only [refs_length])) | ((with_reducible show wpAny _ _ (subscriptTail _ _ (Value.ref _) (Value.int _ _)) _ _ _); (with_unfolding_all refine item_litK (News.isList (by k_asm) (by k_mem)) (by first | decide | omega) (by first | decide | omega) (by assumption) ?_ (by with_unfolding_all rfl); k_whole)) | ((with_reducible show wpAny _ _ (call (Value.builtin "list.append") [Value.ref _, _]) _ _ _); k_dflt (refine app_at (by k_asm) (by k_asm) (by first | assumption | exact mem_put_self | exact mem_put (by first | assumption | exact mem_put_self | exact mem_put (by first | assumption | exact mem_put_self | exact mem_put (by assumption) (by ktr_unf)) (by ktr_unf)) (by ktr_unf)) (by ktr_units) ?_; k_whole); intro _ _ _; (try k_sweep)) | ((with_reducible show wpAny _ _ (setItem (Value.ref _) (Value.int _ _) _) _ _ _); k_dflt (refine setI_at (by k_asm) (by k_asm) (by first | assumption | exact mem_put_self | exact mem_put (by first | assumption | exact mem_put_self | exact mem_put (by first | assumption | exact mem_put_self | exact mem_put (by assumption) (by ktr_unf)) (by ktr_unf)) (by ktr_unf)) (by first | decide | omega) (by ktr_units) (by ktr_units) ?_; k_whole); intro _ _ _; (try k_sweep)) | ((with_reducible show wpAny _ _ (getMethod (Value.ref _) (PySem.Str.ofString "append") _) _ _ _); k_dflt (refine listMethod_K (by k_asm) (by first | assumption | exact mem_put_self | exact mem_put (by first | assumption | exact mem_put_self | exact mem_put (by first | assumption | exact mem_put_self | exact mem_put (by assumption) (by ktr_unf)) (by ktr_unf)) (by ktr_unf)) PySem.F.slot_list_append PySem.F.type_list_append ?_)) | ((with_reducible show TurnEnd _ _ _ _ _ _ _ _ (Flow.ret _) _); dsimp only [TurnEnd]) | walk1 | ((with_reducible show wpAny _ _ (call (Value.builtin "list.append") [Value.ref _, _]) _ _ _); k_dflt (refine app_at (by k_asm) (by k_asm) (by k_mem) (by ktr_units) ?_; k_whole); intro _ _ _; (try k_sweep)) | (dsimp only; walk1) | fail "no step")))
          (rename Fr _ _ _ _ => F51); (rename News _ _ _ _ => N51)
          refine wpAny_call (right_H ⟨B0, F51, X0, T0, N51, rfl, rfl⟩ (by decide) (by decide) G.h G.w G.i (by have := G.sz.ups; lia) ?_)
          intro h52 tk52 F52 N52
          dsimp only
          (repeat' (first | (k_unfold; (try dsimp only)) | (refine unhide (by assumption) ?_; (try dsimp only)) | ((fail_if_success (with_reducible first | show wpAny _ _ (exec (Stmt.While _ _ _ _) _) _ _ _ | show wpAny _ _ (exec (Stmt.For _ _ _ _ _) _) _ _ _ | show wpAny _ _ (exec (Stmt.Assign _ (Expr.ListComp _ _ _ _) _) _) _ _ _ | show wpAny _ _ (eval (Expr.ListComp _ _ _ _) _) _ _ _ | show wpAny _ _ (call (Value.type "enumerate") _) _ _ _ | show wpAny _ _ (call (Value.type "zip") _) _ _ _ | refine stand_ref (by decide) ?_ | show wpAny _ _ (call (Value.type "range") _) _ _ _ | show wpAny _ _ (call (Value.ref _) _) _ _ _)); first | ((with_reducible first | (refine execs_one (by assumption) fun _ => ?_) | (refine execs_hid fun _ _ _ => ?_))) | ((with_reducible show wpAny _ _ (call (Value.builtin "len") [Value.ref _]) _ _ _); k_dflt (refine len_at (by k_asm) (by k_mem) (by ktr_units) ?_; k_whole); (try simp only [refs_length])) | ((with_reducible show wpAny _ _ (subscriptTail _ _ (Value.ref _) (Value.int _ _)) _ _ _); (with_unfolding_all refine item_litK (News.isList (by k_asm) (by k_mem)) (by first | decide | omega) (by first | decide | omega) (by assumption) ?_ (by with_unfolding_all rfl); k_whole)) | ((with_reducible show wpAny _ _ (call (Value.builtin "list.append") [Value.ref _, _]) _ _ _); k_dflt (refine app_at (by k_asm) (by k_asm) (by first | assumption | exact mem_put_self | exact mem_put (by first | assumption | exact mem_put_self | exact mem_put (by first | assumption | exact mem_put_self | exact mem_put (by assumption) (by ktr_unf)) (by ktr_unf)) (by ktr_unf)) (by ktr_units) ?_; k_whole); intro _ _ _; (try k_sweep)) | ((with_reducible show wpAny _ _ (setItem (Value.ref _) (Value.int _ _) _) _ _ _); k_dflt (refine setI_at (by k_asm) (by k_asm) (by first | assumption | exact mem_put_self | exact mem_put (by first | assumption | exact mem_put_self | exact mem_put (by first | assumption | exact mem_put_self | exact mem_put (by assumption) (by ktr_unf)) (by ktr_unf)) (by ktr_unf)) (by first | decide | omega) (by ktr_units) (by ktr_units) ?_; k_whole); intro _ _ _; (try k_sweep)) | ((with_reducible show wpAny _ _ (getMethod (Value.ref _) (PySem.Str.ofString "append") _) _ _ _); k_dflt (refine listMethod_K (by k_asm) (by first | assumption | exact mem_put_self | exact mem_put (by first | assumption | exact mem_put_self | exact mem_put (by first | assumption | exact mem_put_self | exact mem_put (by assumption) (by ktr_unf)) (by ktr_unf)) (by ktr_unf)) PySem.F.slot_list_append PySem.F.type_list_append ?_)) | ((with_reducible show TurnEnd _ _ _ _ _ _ _ _ (Flow.ret _) _); dsimp only [TurnEnd]) | walk1 | ((with_reducible show wpAny _ _ (call (Value.builtin "list.append") [Value.ref _, _]) _ _ _); k_dflt (refine app_at (by k_asm) (by k_asm) (by k_mem) (by ktr_units) ?_; k_whole); intro _ _ _; (try k_sweep)) | (dsimp only; walk1) | fail "no step")))
          (rename Fr _ _ _ _ => F54); (rename News _ _ _ _ => N54)
          refine wpAny_call (bad_ctr ⟨B0, F54, X0, T0, N54, rfl, rfl⟩ (by decide) (by decide) ?_)
          intro h55 tk55 F55 N55
          dsimp only
          have hgr : GrownAll [(174, 172)] h55 := by
            rcases G.l with l | ⟨c', oc, vs, t, l1, _⟩
            · exact ⟨GrownAt.of N55 l, trivial⟩
            · exact ⟨GrownAt.of N55 l1, trivial⟩
          repeat (refine unhide (by assumption) ?_; (try dsimp only))
          refine ⟨?_, hgr⟩
          refine goodW_bool F55 (by assumption) (raisesW_false ?_) ?_
          · wrow_none_raised
          · wrow_post)

end
end Mine
theorem PySem.Challenge.cw_nt0630_01_holds : PySem.Challenge.rw_nt0630_01.Holds := by
  exact Mine.law_holds
