import PyProof.Rows.All
import Wide.All
import OpenK.AllK
import Wide.FinOn
import PySem.Challenge.RW_rr0015_01
open PySem PySem.W PyProof.Rows PySem.Calls PySem.SeqAt
set_option Elab.async false
set_option maxRecDepth 100000
set_option maxHeartbeats 8000000
set_option linter.unusedVariables false
set_option compiler.extract_closed false
namespace Mine
set_option synthInstance.maxSize 1 in
open_top hd for PySem.Challenge.rw_rr0015_01
theorem off_top01 : True := by w_top off; trivial
/-- what stands within tuples -/
inductive D where
  | none
  | bool (b : Bool)
  | int (i : Int)
  | str (s : Str)
  | tup (l : List D)
/-- the things that the law lays into a row -/
inductive T where
  | el (d : D)
  | lst
  | dic (l : List (D × D))
noncomputable abbrev tupO (vs : List Value) (n : Nat) : Obj := { cls := .type "tuple", data := .seq vs.toArray n }
mutual
inductive DenD (news : List (Addr × Obj)) : Value → D → Prop
  | none : DenD news .none .none
  | bool (b : Bool) : DenD news (.bool b) (.bool b)
  | int (i : Int) (t : Tok) : DenD news (.int i t) (.int i)
  | str (x : Str) (t : Tok) : DenD news (.str x t) (.str x)
  | tup {a : Addr} {vs : List Value} {n : Nat} {ds : List D} : (a, tupO vs n) ∈ news → vs.length ≤ 8 → DenL news vs ds → DenD news (.ref a) (.tup ds)
inductive DenL (news : List (Addr × Obj)) : List Value → List D → Prop
  | nil : DenL news [] []
  | cons {v : Value} {vs : List Value} {d : D} {ds : List D} : DenD news v d → DenL news vs ds → DenL news (v :: vs) (d :: ds)
end
noncomputable def hashD : D → Int
  | .int i => hashInt i
  | .tup [.int a, .int b] => reduceHash (Builtin.Tuple.tupleHashOf [hashInt a, hashInt b])
  | _ => 0
noncomputable def keyOk : D → Bool
  | .int _ => true
  | .tup [.int _, .int _] => true
  | _ => false
inductive Den (news : List (Addr × Obj)) : Value → T → Prop
  | el {v : Value} {d : D} : DenD news v d → Den news v (.el d)
  | lst {a : Addr} {vs : List Value} {n : Nat} : (a, listOf vs.toArray n) ∈ news → Den news (.ref a) .lst
  | dic0 {a : Addr} {n : Nat} : (a == sysModules) = false → (a, dictOf [] n) ∈ news → Den news (.ref a) (.dic [])
  | dic1 {a : Addr} {n : Nat} {kv vv : Value} {k v : D} : (a == sysModules) = false → (a, dictOf [⟨hashD k, kv, vv⟩] n) ∈ news → keyOk k = true → DenD news kv k → DenD news vv v → Den news (.ref a) (.dic [(k, v)])
noncomputable abbrev Ret (h₀ : Heap) (L : Addr) (m : Str → Option Value) (news : List (Addr × Obj)) (s : Shared) (Q : Value → Shared → Prop) (b : Bool) : Prop :=
  ∀ (h' : Heap) (tk' : Nat), Fr h₀ L h' m → News h₀ L h' news → Q (.bool b) { s with heap := h', toks := tk' }
theorem ret_b {h₀ h' : Heap} {L : Addr} {m : Str → Option Value} {news news' : List (Addr × Obj)} {s : Shared} {Q : Value → Shared → Prop} {x y : Bool} {tk' : Nat}
    (hret : Ret h₀ L m news s Q x) (F : Fr h₀ L h' m) (N : News h₀ L h' news') (hs : ∀ p ∈ news, p ∈ news') (e : y = x)  : Q (.bool y) { s with heap := h', toks := tk' } := by
  subst e
  exact hret h' tk' F (fun p hp => N p (hs p hp))
noncomputable abbrev Spec (lv : Nat) (f : Addr) (news : List (Addr × Obj)) (vs : List Value) (b : Bool) : Prop :=
  ∀ {prog : Program} {w : World} {p : Program} {loose : List Str} {mean : ExcName → Option Value} {mg mb : Str → Option Value} 
   {dp un : Nat} {gd : Option (List Code)} {cn : Str} {cs : Scope} {a : Addr} {ccd : Value} {cl : List (Str × Addr)} {outer : List Env} {A₀ : Around} {base h₀ : Heap} {L : Addr} {m : Str → Option Value} {s : Shared} {Q E : Value → Shared → Prop}
    (B : Below A₀ base outer h₀) (F : Fr h₀ L s.heap m) (X : (hd.heap_39 w.params).In h₀) (N : News h₀ L s.heap news) (T : Top p loose mean mg mb h₀) (hk : cs.kind = .function) 
    (hd : dp + lv < recursionLimit) (hu : un + (64 + 8 * lv) < cLine) (hret : Ret h₀ L m news s Q b),
    wpAny (model prog w) (ktrTop dp un gd cn cs L a ccd cl outer) (call (.ref f) vs) Q E s
noncomputable def isInt : T → Bool
  | .el (.int _) => true
  | _ => false
noncomputable def isBool : T → Bool
  | .el (.bool _) => true
  | _ => false
noncomputable def isStr : T → Bool
  | .el (.str _) => true
  | _ => false
noncomputable def isTupT : T → Bool
  | .el (.tup _) => true
  | _ => false
noncomputable def isDic : T → Bool
  | .dic _ => true
  | _ => false
noncomputable def isPair : T → Bool
  | .el (.tup [_, _]) => true
  | _ => false
noncomputable def fst : T → D
  | .el (.tup (a :: _)) => a
  | _ => .none
noncomputable def snd : T → D
  | .el (.tup (_ :: b :: _)) => b
  | _ => .none
noncomputable def geD (c : Int) : T → Bool
  | .el (.int i) => decide (c ≤ i)
  | _ => false
noncomputable def strIs (n : Str) : D → Bool
  | .str s => n == s
  | _ => false
noncomputable def inStrs (names : List Str) (d : D) : Bool := names.any fun n => strIs n d
noncomputable def eqI (k : Int) : D → Bool
  | .int i => decide (i = k)
  | _ => false
noncomputable def isReg (names : List Str) (d : T) : Bool := isPair d && inStrs names (fst d) && geD 1 (.el (snd d))
noncomputable def isConst (d : T) : Bool := isPair d && isInt (.el (snd d)) && (eqI 5 (fst d) || (eqI 4 (fst d) && geD 0 (.el (snd d))))
noncomputable def isTgt (linked : Bool) (d : T) : Bool := bif linked then geD 0 d else geD (-1) d
noncomputable def isKey (t : Bool) (d : T) : Bool := bif t then isConst d else geD 0 d
theorem isInt_inv {news v d} (H : Den news v d) (h : isInt d = true) : ∃ i t, v = .int i t ∧ d = .el (.int i) := by
  unfold isInt at h
  split at h
  · cases H; rename_i h; cases h; exact ⟨_, _, rfl, rfl⟩
  · cases h
theorem isInt_no {c d} (h : isInt d = false) : geD c d = false := by
  unfold geD
  split
  · cases h
  · rfl
theorem isPair_inv {news v d} (H : Den news v d) (h : isPair d = true) : ∃ a v0 v1 n, v = .ref a ∧ (a, tupO [v0, v1] n) ∈ news ∧ DenD news v0 (fst d) ∧ DenD news v1 (snd d) := by
  unfold isPair at h
  split at h
  · cases H; rename_i h; cases h with
    | tup hm hl hd => cases hd with
      | cons h1 hd => cases hd with
        | cons h2 hd => cases hd; exact ⟨_, _, _, _, rfl, hm, h1, h2⟩
  · cases h
theorem isTupT_inv {news v d} (H : Den news v d) (h : isTupT d = true) : ∃ a vs n ds, v = .ref a ∧ d = .el (.tup ds) ∧ (a, tupO vs n) ∈ news ∧ vs.length ≤ 8 ∧ DenL news vs ds := by
  unfold isTupT at h
  split at h
  · cases H; rename_i h; cases h with
    | tup hm hl hd => exact ⟨_, _, _, _, rfl, rfl, hm, hl, hd⟩
  · cases h
theorem isTupT_no {d} (h : isTupT d = false) : isPair d = false := by
  unfold isPair
  split
  · cases h
  · rfl
noncomputable def lenT : T → Nat
  | .el (.tup ds) => ds.length
  | _ => 0
theorem isPair_len {d} (h : isTupT d = true) : isPair d = ((lenT d : Int) == 2) := by
  rcases d with (_|_|_|_|ds)|_|_ <;> try cases h
  rcases ds with _ | ⟨a, _ | ⟨b, _ | ⟨c, r⟩⟩⟩ <;> simp [isPair, lenT]
  omega
section
variable {prog : Program} {w : World} {A : Around} {E : Value → Shared → Prop} {s : Shared} {h₀ : Heap} {L : Addr} {m : Str → Option Value} {news : List (Addr × Obj)}
theorem isTuple {a : Addr} {vs : List Value} {n : Nat} (N : News h₀ L s.heap news) (hm : (a, tupO vs n) ∈ news) : s.heap.IsTuple a vs.toArray := ⟨_, (N _ hm).1, rfl, n, rfl⟩
theorem rcD_int {v : Value} {d : D} {k : Int} {u : Tok} (hk : 1 < k) (N : News h₀ L s.heap news) (H : DenD news v d) (hu : A.units < cLine) : RcAt A s v (.int k u) (eqI k d) := by
  cases H with
  | none => exact RcAt.none_int _ _
  | bool b =>
    have := RcAt.bool_int (A := A) (s := s) b k u
    have e : ((if b then (1 : Int) else 0) == k) = eqI k (.bool b) := by cases b <;> simp [eqI] <;> omega
    rw [e] at this
    exact this
  | int i t =>
    have := RcAt.int_int (A := A) (s := s) i t k u
    have e : (i == k) = eqI k (.int i) := by simp [eqI, BEq.beq]
    rw [e] at this
    exact this
  | str x t => exact RcAt.str_int _ _ _ _
  | tup hm _ _ => exact RcAt.tuple_int _ _ (isTuple N hm) hu
theorem eqStr_D {v : Value} {d : D} {x : Str} {t : Tok} (N : News h₀ L s.heap news) (H : DenD news v d) (hu : A.units < cLine) : EqAt A s (.str x t) v (strIs x d) := by
  cases H with
  | none => exact EqAt.str_none _ _
  | bool b => exact EqAt.str_bool _ _ _
  | int i t => exact EqAt.str_int _ _ _ _
  | str y t => exact EqAt.str_str _ _ _ _
  | tup hm _ _ => exact EqAt.str_tuple _ _ (isTuple N hm) hu
noncomputable def strOf : Value → D → Bool
  | .str n _, d => strIs n d
  | _, _ => false
theorem strs_any {vs xs} (h : StrsAre vs xs) (d : D) : vs.any (fun y => strOf y d) = inStrs xs d := by
  unfold inStrs
  induction h with
  | nil => rfl
  | cons x t _ ih => rw [List.any_cons, List.any_cons, ih]; rfl
theorem strs_mem {vs xs} (h : StrsAre vs xs) {y : Value} (hy : y ∈ vs) : ∃ x t, y = .str x t := by
  induction h with
  | nil => cases hy
  | cons x t _ ih =>
    rcases List.mem_cons.mp hy with rfl | hy
    · exact ⟨_, _, rfl⟩
    · exact ih hy
theorem in_names {v : Value} {d : D} {l : Addr} {xs : List Value} {n : Nat} {names : List Str} {Q : Value → Shared → Prop} (N : News h₀ L s.heap news) (hl : (l, tupO xs n) ∈ news) (hx : StrsAre xs names) (H : DenD news v d) (hu : A.in1.units < cLine)
    (h : Q (.bool (inStrs names d)) s) : wpAny (model prog w) A (compareOp .In v (.ref l)) Q E s := by
  refine in_tupleAt (fun y => strOf y d) (isTuple N hl) (fun y hy => ?_) ?_
  · obtain ⟨x, t, rfl⟩ := strs_mem hx (by simpa using hy)
    exact eqStr_D N H hu
  · rw [List.any_toArray, strs_any hx]; exact h
theorem eq_int_D {v : Value} {d : D} {k : Int} {u : Tok} {Q : Value → Shared → Prop} (N : News h₀ L s.heap news) (H : DenD news v d) (hk : 1 < k) (hu : A.units < cLine) (h : Q (.bool (eqI k d)) s) : wpAny (model prog w) A (compareOp .Eq v (.int k u)) Q E s :=
  cmp_ofEq (rcD_int hk N H hu prog w E Q h)
end

mutual
theorem DenD.mono {news news' : List (Addr × Obj)} (hs : ∀ p ∈ news, p ∈ news') : ∀ {v : Value} {d : D}, DenD news v d → DenD news' v d
  | _, _, .none => .none
  | _, _, .bool b => .bool b
  | _, _, .int i t => .int i t
  | _, _, .str x t => .str x t
  | _, _, .tup h l r => .tup (hs _ h) l (DenL.mono hs r)
theorem DenL.mono {news news' : List (Addr × Obj)} (hs : ∀ p ∈ news, p ∈ news') : ∀ {vs : List Value} {ds : List D}, DenL news vs ds → DenL news' vs ds
  | _, _, .nil => .nil
  | _, _, .cons h r => .cons (DenD.mono hs h) (DenL.mono hs r)
end
theorem Den.mono {news news' : List (Addr × Obj)} (hs : ∀ p ∈ news, p ∈ news') {v : Value} {d : T} (h : Den news v d) : Den news' v d := by
  cases h with
  | el h => exact .el (h.mono hs)
  | lst h => exact .lst (hs _ h)
  | dic0 l h => exact .dic0 l (hs _ h)
  | dic1 l h o k v => exact .dic1 l (hs _ h) o (k.mono hs) (v.mono hs)
theorem DenL.length {news vs ds} (h : DenL news vs ds) : vs.length = ds.length := by
  induction vs generalizing ds with
  | nil => cases h; rfl
  | cons v vs ih => cases h with | cons _ r => rw [List.length_cons, List.length_cons, ih r]
section
variable {prog : Program} {w : World} {A : Around} {E : Value → Shared → Prop} {s : Shared} {h₀ : Heap} {L : Addr} {m : Str → Option Value} {news n₁ : List (Addr × Obj)} {Q : Value → Shared → Prop} {v : Value} {d : T}
theorem isi_int (X : (hd.heap_39 w.params).In h₀) (F : Fr h₀ L s.heap m) (N : News h₀ L s.heap news) (H₁ : Den n₁ v d) (hs : ∀ p ∈ n₁, p ∈ news) (h : ∀ tk, Q (.bool (isInt d || isBool d)) { s with toks := tk }) :
    wpAny (model prog w) A (call (.builtin "isinstance") [v, .type "int"]) Q E s := by
  have H := H₁.mono hs
  clear hs H₁
  cases H
  case el H => cases H <;> walk1 <;> exact h _
  all_goals walk1
  all_goals exact h _
theorem isi_bool (X : (hd.heap_39 w.params).In h₀) (F : Fr h₀ L s.heap m) (N : News h₀ L s.heap news) (H₁ : Den n₁ v d) (hs : ∀ p ∈ n₁, p ∈ news) (h : ∀ tk, Q (.bool (isBool d)) { s with toks := tk }) :
    wpAny (model prog w) A (call (.builtin "isinstance") [v, .type "bool"]) Q E s := by
  have H := H₁.mono hs
  clear hs H₁
  cases H
  case el H => cases H <;> walk1 <;> exact h _
  all_goals walk1
  all_goals exact h _
theorem isi_tuple (X : (hd.heap_39 w.params).In h₀) (F : Fr h₀ L s.heap m) (N : News h₀ L s.heap news) (H₁ : Den n₁ v d) (hs : ∀ p ∈ n₁, p ∈ news) (h : ∀ tk, Q (.bool (isTupT d)) { s with toks := tk }) :
    wpAny (model prog w) A (call (.builtin "isinstance") [v, .type "tuple"]) Q E s := by
  have H := H₁.mono hs
  clear hs H₁
  cases H
  case el H => cases H <;> walk1 <;> exact h _
  all_goals walk1
  all_goals exact h _
theorem isi_str (X : (hd.heap_39 w.params).In h₀) (F : Fr h₀ L s.heap m) (N : News h₀ L s.heap news) (H₁ : Den n₁ v d) (hs : ∀ p ∈ n₁, p ∈ news) (h : ∀ tk, Q (.bool (isStr d)) { s with toks := tk }) :
    wpAny (model prog w) A (call (.builtin "isinstance") [v, .type "str"]) Q E s := by
  have H := H₁.mono hs
  clear hs H₁
  cases H
  case el H => cases H <;> walk1 <;> exact h _
  all_goals walk1
  all_goals exact h _
theorem isi_dict (X : (hd.heap_39 w.params).In h₀) (F : Fr h₀ L s.heap m) (N : News h₀ L s.heap news) (H₁ : Den n₁ v d) (hs : ∀ p ∈ n₁, p ∈ news) (h : ∀ tk, Q (.bool (isDic d)) { s with toks := tk }) :
    wpAny (model prog w) A (call (.builtin "isinstance") [v, .type "dict"]) Q E s := by
  have H := H₁.mono hs
  clear hs H₁
  cases H
  case el H => cases H <;> walk1 <;> exact h _
  all_goals walk1
  all_goals exact h _
theorem len_T (F : Fr h₀ L s.heap m) (N : News h₀ L s.heap news) (H₁ : Den n₁ v d) (hs : ∀ p ∈ n₁, p ∈ news) (ht : isTupT d = true) (h : ∀ tk tk', Q (.int (lenT d) tk) { s with toks := tk' }) :
    wpAny (model prog w) A (call (.builtin "len") [v]) Q E s := by
  obtain ⟨a, vs, n, ds, rfl, rfl, hm, hl, hD⟩ := isTupT_inv (H₁.mono hs) ht
  refine len_tuple (News.isTup N hm) (by simp; omega) ?_
  have := h (s.toks + 1) (s.toks + 1 + 1)
  rw [show lenT (T.el (D.tup ds)) = vs.length from hD.length.symm] at this
  simpa using this
theorem item0_T {value slice : PySem.Expr} {k : Tok} (F : Fr h₀ L s.heap m) (N : News h₀ L s.heap news) (H₁ : Den n₁ v d) (hs : ∀ p ∈ n₁, p ∈ news) (ht : isPair d = true) (h : ∀ v0, DenD n₁ v0 (fst d) → Q v0 s)
    (hsub : ∀ a, subscripted slice false (.ref a) (.int 0 k) = operate [.ref a, .int 0 k] (getItem (.ref a) (.int 0 k)) := by intro a; with_unfolding_all rfl) :
    wpAny (model prog w) A (subscriptTail value slice v (.int 0 k)) Q E s := by
  obtain ⟨a, v0, v1, n, rfl, hm, h0, h1⟩ := isPair_inv H₁ ht
  exact item_tupleT (News.isTup N (hs _ hm)) (by decide) (by decide) (j := 0) rfl rfl (h _ h0) (hsub a)
theorem item1_T {value slice : PySem.Expr} {k : Tok} (F : Fr h₀ L s.heap m) (N : News h₀ L s.heap news) (H₁ : Den n₁ v d) (hs : ∀ p ∈ n₁, p ∈ news) (ht : isPair d = true) (h : ∀ v0, DenD n₁ v0 (snd d) → Q v0 s)
    (hsub : ∀ a, subscripted slice false (.ref a) (.int 1 k) = operate [.ref a, .int 1 k] (getItem (.ref a) (.int 1 k)) := by intro a; with_unfolding_all rfl) :
    wpAny (model prog w) A (subscriptTail value slice v (.int 1 k)) Q E s := by
  obtain ⟨a, v0, v1, n, rfl, hm, h0, h1⟩ := isPair_inv H₁ ht
  exact item_tupleT (News.isTup N (hs _ hm)) (by decide) (by decide) (j := 1) rfl rfl (h _ h1) (hsub a)
theorem ge_T {c : Int} {k : Tok} (H₁ : Den n₁ v d) (hi : isInt d = true) (h : Q (.bool (geD c d)) s) : wpAny (model prog w) A (compareOp .GtE v (.int c k)) Q E s := by
  obtain ⟨i, t, rfl, rfl⟩ := isInt_inv H₁ hi
  exact ge_int h
end
local macro_rules | `(tactic| k_mem) => `(tactic| first | assumption | (refine List.mem_append_left _ ?_; k_mem) | (refine List.mem_append_right _ ?_; k_mem))
local macro_rules | `(tactic| ktr_room) => `(tactic| ((try simp only [depth_under_make, depth_under_kw, depth_in1, depth_deeper, depth_caller] at *); (try dsimp only [ktrTop] at *); omega))
local macro_rules | `(tactic| walk_at "m H") => `(tactic| first | with_reducible assumption | exact .el (by with_reducible assumption) | (refine Den.mono ?_ (by with_reducible assumption); intro q hq; k_mem) | (refine Den.el (DenD.mono ?_ (by with_reducible assumption)); intro q hq; k_mem))
local macro_rules | `(tactic| walk_at "m h") => `(tactic| first | with_reducible assumption | exact .el (by with_reducible assumption))
local macro_rules | `(tactic| walk_at "m k") => `(tactic| first | exact rfl | assumption)
local macro_rules | `(tactic| walk_at "m s") => `(tactic| (intro _ _; k_mem))
local macro_rules | `(tactic| walk_at "m q") => `(tactic| (intro _; with_unfolding_all rfl))
local macro_rules | `(tactic| walk_at "m r") => `(tactic| (intro _ _; with_unfolding_all rfl))
local macro_rules | `(tactic| walk_at "m u") => `(tactic| (any_goals (with_reducible first
  | (show Below _ _ _ _; k_dflt k_asm)
  | (show Top _ _ _ _ _ _; k_dflt k_asm)
  | (show Frag.In _ _; k_dflt k_asm)
  | (show _ < recursionLimit; k_dflt ktr_room)
  | (show _ < cLine; k_dflt ktr_units)
  | (show _ = ScopeKind.function; k_dflt (walk_at "m k")))))
local macro_rules | `(tactic| walk_at "m t") => `(tactic| ((any_goals (with_reducible show Fr _ _ _ _; k_dflt k_asm)); (any_goals (with_reducible show News _ _ _ _; k_dflt k_asm)); walk_at "m u"; (any_goals (with_reducible show Den _ _ _; k_dflt (walk_at "m H"))); k_whole))
theorem key_cases {k : D} (ok : keyOk k = true) : (∃ i, k = .int i) ∨ ∃ x y, k = .tup [.int x, .int y] := by
  unfold keyOk at ok
  split at ok
  · exact .inl ⟨_, rfl⟩
  · exact .inr ⟨_, _, rfl⟩
  · cases ok
theorem key_int {news : List (Addr × Obj)} {kv : Value} {x : Int} (H : DenD news kv (.int x)) : ∃ t, kv = .int x t := by
  cases H; exact ⟨_, rfl⟩
theorem key_tup {news : List (Addr × Obj)} {kv : Value} {x y : Int} (H : DenD news kv (.tup [.int x, .int y])) : ∃ b tx ty n, kv = .ref b ∧ (b, tupO [.int x tx, .int y ty] n) ∈ news := by
  obtain ⟨a, v0, v1, n, rfl, hm, h0, h1⟩ := isPair_inv (.el H) rfl
  obtain ⟨tx, rfl⟩ := key_int (x := x) h0
  obtain ⟨ty, rfl⟩ := key_int (x := y) h1
  exact ⟨_, _, _, _, rfl, hm⟩
theorem key_at {prog : Program} {w : World} {s : Shared} {h₀ : Heap} {L : Addr} {news : List (Addr × Obj)} {b : Addr} {x y : Int} {tx ty : Tok} {nb : Nat} (N : News h₀ L s.heap news) (hb : (b, tupO [.int x tx, .int y ty] nb) ∈ news) : IsTupleKey (intKind prog w) s.heap [x, y] b :=
  ⟨_, _, nb, (N _ hb).1, rfl, rfl, .cons (by simp [intKind, Value.isInt]) (.cons (by simp [intKind, Value.isInt]) .nil)⟩
theorem off_top02 : True := by w_top off; trivial
local macro_rules | `(tactic| walk_at "call builtin:isinstance") => `(tactic| (k_here; (with_reducible first
  | refine' isi_int ?X ?F ?N ?H ?s ?_ | refine' isi_bool ?X ?F ?N ?H ?s ?_ | refine' isi_tuple ?X ?F ?N ?H ?s ?_ | refine' isi_str ?X ?F ?N ?H ?s ?_ | refine' isi_dict ?X ?F ?N ?H ?s ?_); k_dflt ((case F | X | N => k_asm); (case H => with_reducible assumption); (case s => walk_at "m s"); k_whole); intro _))
local macro_rules | `(tactic| walk_at "compareOp In") => `(tactic| (k_here; (with_reducible show wpAny _ _ (compareOp CmpOp.In _ (Value.ref _)) _ _ _); k_dflt (refine' in_names ?N ?l ?x ?H ?u ?_; (case N => k_asm); (case l | x => assumption); (case H => with_reducible assumption); (case u => ktr_units); k_whole)))
local macro_rules | `(tactic| walk_at "compareOp Eq") => `(tactic| (k_here; (with_reducible show wpAny _ _ (compareOp CmpOp.Eq _ (Value.int _ _)) _ _ _); k_dflt (refine' eq_int_D ?N ?H ?k ?u ?_; (case N => k_asm); (case H => with_reducible assumption); (case k => decide); (case u => ktr_units); k_whole)))
local macro_rules | `(tactic| walk_at "compareOp GtE") => `(tactic| (k_here; (with_reducible show wpAny _ _ (compareOp CmpOp.GtE _ (Value.int _ _)) _ _ _); k_dflt (refine' ge_T ?H ?i ?_; (case H => walk_at "m h"); (case i => with_reducible assumption); k_whole)))
local macro_rules | `(tactic| walk_at "call builtin:len") => `(tactic| (k_here; (with_reducible show wpAny _ _ (call (Value.builtin "len") [_]) _ _ _); k_dflt (refine' len_T ?F ?N ?H ?s ?t ?_; (case F | N => k_asm); (case H => with_reducible assumption); (case s => walk_at "m s"); (case t => with_reducible assumption); k_whole); intro _ _))
local macro_rules | `(tactic| walk_at "subscriptTail") => `(tactic| (k_here; k_dflt ((first
  | ((with_reducible show wpAny _ _ (subscriptTail _ _ _ (Value.int 0 _)) _ _ _); refine' item0_T ?F ?N ?H ?s ?t ?_ ?q)
  | ((with_reducible show wpAny _ _ (subscriptTail _ _ _ (Value.int 1 _)) _ _ _); refine' item1_T ?F ?N ?H ?s ?t ?_ ?q)); (case F | N => k_asm); (case H => walk_at "m h"); (case s => walk_at "m s"); (case t => with_reducible assumption); (case q => walk_at "m q"); k_whole); intro _ _))
section
variable {d : T} {l : Bool} {names : List Str}
theorem whole_e1 (h : (isInt d || isBool d) = true) : (!isBool d) = isInt d := by rcases d with (_|_|_|_|_)|_|_ <;> simp_all [isInt, isBool]
theorem whole_e2 (h : (isInt d || isBool d) = false) : (isInt d || isBool d) = isInt d := by rcases d with (_|_|_|_|_)|_|_ <;> simp_all [isInt, isBool]
theorem tgt_e1 (h : isInt d = true) (hl : l = true) : geD 0 d = isTgt l d := by simp [isTgt, hl]
theorem tgt_e2 (h : isInt d = true) (hl : l = false) : geD (-1) d = isTgt l d := by simp [isTgt, hl]
theorem tgt_e3 (h : isInt d = false) : false = isTgt l d := by simp [isTgt, isInt_no h]
theorem reg_e1 (h : isPair d = true) (h1 : inStrs names (fst d) = true) (h2 : isInt (.el (snd d)) = true) : geD 1 (.el (snd d)) = isReg names d := by simp [isReg, *]
theorem reg_e2 (h : isPair d = true) (h1 : inStrs names (fst d) = true) (h2 : isInt (.el (snd d)) = false) : isInt (.el (snd d)) = isReg names d := by simp [isReg, isInt_no h2, *]
theorem reg_e3 (h : isPair d = true) (h1 : inStrs names (fst d) = false) : inStrs names (fst d) = isReg names d := by simp [isReg, *]
theorem reg_e4 (h : isPair d = false) : isPair d = isReg names d := by simp [isReg, *]
theorem con_e1 (h : isPair d = true) (h1 : isInt (.el (snd d)) = true) (h2 : eqI 5 (fst d) = true) : eqI 5 (fst d) = isConst d := by simp [isConst, *]
theorem con_e2 (h : isPair d = true) (h1 : isInt (.el (snd d)) = true) (h2 : eqI 5 (fst d) = false) (h3 : eqI 4 (fst d) = true) : geD 0 (.el (snd d)) = isConst d := by simp [isConst, *]
theorem con_e3 (h : isPair d = true) (h1 : isInt (.el (snd d)) = true) (h2 : eqI 5 (fst d) = false) (h3 : eqI 4 (fst d) = false) : eqI 4 (fst d) = isConst d := by simp [isConst, *]
theorem con_e4 (h : isPair d = true) (h1 : isInt (.el (snd d)) = false) : isInt (.el (snd d)) = isConst d := by simp [isConst, *]
theorem con_e5 (h : isPair d = false) : isPair d = isConst d := by simp [isConst, *]
end
theorem c_is_whole {news} {v} {d} (h : Den news v d) : Spec 1 61 news [v] (isInt d) := by
  intro prog w p loose mean mg mb dp un gd cn cs a ccd cl outer A₀ base h₀ L m s Q E B F X N T hk hd hu hret 
  refine wpAny_call ?_
  k_dflt cell_enter
  k_steps
  all_goals refine ret_b hret (by k_asm) (by k_asm) (fun _ h => h) ?_
  · exact whole_e1 (by assumption)
  · exact whole_e2 (by assumption)
theorem c_is_pair {news} {v} {d} (h : Den news v d) : Spec 1 68 news [v] (isPair d) := by
  intro prog w p loose mean mg mb dp un gd cn cs a ccd cl outer A₀ base h₀ L m s Q E B F X N T hk hd hu hret 
  refine wpAny_call ?_
  k_dflt cell_enter
  k_steps
  all_goals refine ret_b hret (by k_asm) (by k_asm) (fun _ h => h) ?_
  · rw [isPair_len (by assumption)]
  · rw [isTupT_no (by assumption)]; assumption
local macro_rules | `(tactic| walk_at "call ref") => `(tactic| (k_here; k_dflt (first
  | ((with_reducible show wpAny _ _ (call (Value.ref 61) _) _ _ _); refine' c_is_whole ?_ ?_ ?_ ?_ ?_ ?_ ?_ ?_ ?_ ?_; walk_at "m t")
  | ((with_reducible show wpAny _ _ (call (Value.ref 68) _) _ _ _); refine' c_is_pair ?_ ?_ ?_ ?_ ?_ ?_ ?_ ?_ ?_ ?_; walk_at "m t")); intro _ _ _ _; (try k_fold)))
theorem c_is_functor {news} {v} {d} (h : Den news v d) : Spec 2 89 news [v] (geD 0 d) := by
  intro prog w p loose mean mg mb dp un gd cn cs a ccd cl outer A₀ base h₀ L m s Q E B F X N T hk hd hu hret 
  refine wpAny_call ?_
  k_dflt cell_enter
  k_steps
  all_goals refine ret_b hret (by k_asm) (by k_asm) (fun _ h => h) ?_
  · rfl
  · rw [isInt_no (by assumption)]; assumption
theorem c_is_target {news} {v} {d} (l : Bool) (h : Den news v d) : Spec 2 96 news [v, .bool l] (isTgt l d) := by
  intro prog w p loose mean mg mb dp un gd cn cs a ccd cl outer A₀ base h₀ L m s Q E B F X N T hk hd hu hret 
  refine wpAny_call ?_
  k_dflt cell_enter
  k_steps
  all_goals refine ret_b hret (by k_asm) (by k_asm) (fun _ h => h) ?_
  all_goals first | exact tgt_e1 (by assumption) (by assumption) | exact tgt_e2 (by assumption) (by assumption) | exact tgt_e3 (by assumption)
theorem c_is_register {news} {v} {d} {l xs n names} (h : Den news v d) (hl : (l, tupO xs n) ∈ news) (hx : StrsAre xs names) : Spec 2 75 news [v, .ref l] (isReg names d) := by
  intro prog w p loose mean mg mb dp un gd cn cs a ccd cl outer A₀ base h₀ L m s Q E B F X N T hk hd hu hret 
  refine wpAny_call ?_
  k_dflt cell_enter
  k_steps
  all_goals refine ret_b hret (by k_asm) (by k_asm) (fun _ h => h) ?_
  all_goals first | exact reg_e1 (by assumption) (by assumption) (by assumption) | exact reg_e2 (by assumption) (by assumption) (by assumption) | exact reg_e3 (by assumption) (by assumption) | exact reg_e4 (by assumption)
theorem c_is_constant {news} {v} {d} (h : Den news v d) : Spec 2 82 news [v] (isConst d) := by
  intro prog w p loose mean mg mb dp un gd cn cs a ccd cl outer A₀ base h₀ L m s Q E B F X N T hk hd hu hret 
  refine wpAny_call ?_
  k_dflt cell_enter
  k_steps
  all_goals refine ret_b hret (by k_asm) (by k_asm) (fun _ h => h) ?_
  all_goals first | exact con_e1 (by assumption) (by assumption) (by assumption) | exact con_e2 (by assumption) (by assumption) (by assumption) (by assumption) | exact con_e3 (by assumption) (by assumption) (by assumption) (by assumption) | exact con_e4 (by assumption) (by assumption) | exact con_e5 (by assumption)
theorem off_top03 : True := by w_top off; trivial
noncomputable def items : T → List D
  | .el (.tup ds) => ds
  | _ => []
theorem DenL.get {news vs ds} (h : DenL news vs ds) {i : Nat} {v : Value} (hv : vs[i]? = some v) : ∃ d, ds[i]? = some d ∧ DenD news v d := by
  induction vs generalizing ds i with
  | nil => simp at hv
  | cons u vs ih =>
    cases h with
    | cons h1 h2 =>
      cases i with
      | zero => simp at hv; subst hv; exact ⟨_, rfl, h1⟩
      | succ i => simp at hv; obtain ⟨d, e, h⟩ := ih h2 hv; exact ⟨d, by simpa using e, h⟩
/-- a turn of a search: it goes on where P holds, and else gives back -/
noncomputable def TurnPost (s : Shared) (h₀ : Heap) (L : Addr) (x : Str) (Q : Flow → Shared → Prop) (m₀ : Str → Option Value) (news own : List (Addr × Obj)) (good : Bool) (back : Prop) (f : Flow) (s' : Shared) : Prop :=
  match f with
  | .ret r => good = false ∧ (back → Q (.ret r) s')
  | .brk => False
  | _ => good = true ∧ ∃ h' tk' m', s' = { s with heap := h', toks := tk' } ∧ Fr h₀ L h' m' ∧ (∀ z, z ≠ x → m' z = m₀ z) ∧ News h₀ L h' (news ++ own)
theorem TurnPost.next {s : Shared} {h₀ : Heap} {L : Addr} {x : Str} {Q : Flow → Shared → Prop} {m₀ : Str → Option Value} {news own : List (Addr × Obj)} {good : Bool} {back : Prop} {h' : Heap} {tk' : Nat} {u : Option Value}
    (F : Fr h₀ L h' (fun y => if y = x then u else m₀ y)) (N : News h₀ L h' (news ++ own)) (hg : good = true) : TurnPost s h₀ L x Q m₀ news own good back .next { s with heap := h', toks := tk' } :=
  ⟨hg, h', tk', _, rfl, F, fun z hz => if_neg hz, N⟩
theorem TurnPost.ret {s s' : Shared} {h₀ : Heap} {L : Addr} {x : Str} {Q : Flow → Shared → Prop} {m₀ : Str → Option Value} {news own : List (Addr × Obj)} {good : Bool} {back : Prop} {r : Value}
    (hg : good = false) (h : back → Q (.ret r) s') : TurnPost s h₀ L x Q m₀ news own good back (.ret r) s' := ⟨hg, h⟩
noncomputable def Turn (prog : Program) (w : World) (A : Around) (E : Value → Shared → Prop) (s : Shared) (env : Env) (h₀ : Heap) (x : Str) (body : List Stmt) (Q : Flow → Shared → Prop) (m₀ : Str → Option Value) (news : List (Addr × Obj)) (v : Value) (good : Bool) (back : Prop) : Prop :=
  ∀ h tk own, Fr h₀ env.locals h (fun y => if y = x then some v else m₀ y) → News h₀ env.locals h (news ++ own) →
    wpAny (model prog w) A (execs body env) (TurnPost s h₀ env.locals x Q m₀ news own good back) E { s with heap := h, toks := tk }
section
variable {prog : Program} {w : World} {A : Around} {E : Value → Shared → Prop} {s : Shared} {env : Env} {h₀ : Heap} {x : Str} {body : List Stmt} {Q : Flow → Shared → Prop} {m₀ : Str → Option Value} {news n₁ : List (Addr × Obj)} {v : Value} {d : T}
theorem map_x {x : Str} {m₁ m₀ : Str → Option Value} {v : Value} (hm : ∀ z, z ≠ x → m₁ z = m₀ z) : (fun z => if z = x then some v else m₁ z) = fun z => if z = x then some v else m₀ z := by
  funext z
  by_cases h : z = x
  · simp [h]
  · simp [h, hm z h]
theorem done_x {x : Str} {m₁ m₀ : Str → Option Value} (hm : ∀ z, z ≠ x → m₁ z = m₀ z) : (fun z => if z = x then m₁ x else m₀ z) = m₁ := by
  funext z
  by_cases h : z = x
  · simp [h]
  · simp [h, hm z h]
theorem search_T (P : D → Bool) (hh : A.handled = none) (F : Fr h₀ env.locals s.heap m₀) (N : News h₀ env.locals s.heap news) (H₁ : Den n₁ v d) (hs : ∀ p ∈ n₁, p ∈ news) (ht : isTupT d = true)
    (turn : ∀ u e, DenD n₁ u e → Turn prog w A E s env h₀ x body Q m₀ news u (P e) ((items d).all P = false))
    (done : (items d).all P = true → ∀ h tk u, Fr h₀ env.locals h (fun z => if z = x then u else m₀ z) → News h₀ env.locals h news → Q .next { s with heap := h, toks := tk }) :
    wpAny (model prog w) A (pyIter v) (fun it s₂ => LoopAtV prog w A h₀ env x body Q E it s₂) E s := by
  obtain ⟨a, vs, n, ds, rfl, rfl, hm₁, hl, hD⟩ := isTupT_inv H₁ ht
  have hm := hs _ hm₁
  have hT : s.heap.IsTuple a vs.toArray := ⟨_, (N _ hm).1, rfl, n, rfl⟩
  refine wpAny_pyIter_tuple hT ?_
  have hne : a ≠ s.heap.objs.size := Nat.ne_of_lt (Heap.lt_size (N _ hm).1)
  have hI : ∀ p ∈ news, p.1 ∉ [s.heap.objs.size] := fun p hp hI => Nat.ne_of_lt (Heap.lt_size (N p hp).1) (List.mem_singleton.mp hI)
  refine ⟨_, _, _, vs.toArray.size, _, _, m₀, news, fun i m₁ nx => nx = news ∧ (∀ z, z ≠ x → m₁ z = m₀ z) ∧ ∀ j e, j < i → ds[j]? = some e → P e = true, rfl, Walks.tuple hh s.heap.objs.size a hne vs.toArray, ?_, ?_, hI, ⟨⟨_, Heap.get?_push_size _ rfl, rfl, rfl⟩, hT.push _⟩, F.push _, (fun p hp => ⟨Heap.get?_push_of_some _ (N p hp).1, (N p hp).2⟩), ⟨rfl, fun _ _ => rfl, fun j e hj => absurd hj (Nat.not_lt_zero _)⟩, ?_, ?_⟩
  · intro hL
    rcases List.mem_cons.mp hL with e | hL
    · exact absurd F.ns.lt (e ▸ Nat.lt_irrefl _)
    · exact (N _ hm).2.1 (List.mem_singleton.mp hL).symm
  · intro b hb
    rw [List.mem_singleton.mp hb]
    exact next_is_new F
  · rintro i u m₁ nx s₁ own ⟨h, tk, rfl⟩ hi hu ⟨rfl, hm₁, hP⟩ _ _ _ _ _ F₁ N₁
    obtain ⟨e, he, hde⟩ := hD.get (i := i) (v := u) (by simpa using hu)
    rw [map_x hm₁] at F₁
    refine wpAny_mono (turn u e hde h tk own F₁ fun p hp => N₁ p ((List.mem_append.mp hp).elim (fun q => List.mem_append.mpr (.inr q)) fun q => List.mem_append.mpr (.inl q))) (fun f s₂ hf => ?_) fun _ _ e => e
    have fin : (P e = true ∧ ∃ h' tk' m', s₂ = ({ s with heap := h', toks := tk' } : Shared) ∧ Fr h₀ env.locals h' m' ∧ (∀ z, z ≠ x → m' z = m₀ z) ∧ News h₀ env.locals h' (nx ++ own)) → LoopStepU h₀ env.locals [s.heap.objs.size] own (fun m₁ nx' => nx' = nx ∧ (∀ z, z ≠ x → m₁ z = m₀ z) ∧ ∀ j e, j < i + 1 → ds[j]? = some e → P e = true) { s with heap := h, toks := tk } .next s₂ := by
      rintro ⟨hg, h', tk', m', rfl, F', hm', N'⟩
      refine LoopStepU.intro F' (fun p hp => N' p ((List.mem_append.mp hp).elim (fun q => List.mem_append.mpr (.inr q)) fun q => List.mem_append.mpr (.inl q))) hI ⟨rfl, hm', fun j e' hj he' => ?_⟩
      rcases Nat.lt_succ_iff_lt_or_eq.mp hj with hj | rfl
      · exact hP j e' hj he'
      · rw [he] at he'; cases he'; exact hg
    cases f with
    | ret r =>
      refine LoopStepV.ret (hf.2 ?_)
      refine Bool.eq_false_iff.mpr fun hall => ?_
      have := List.all_eq_true.mp hall e (List.mem_of_getElem? he)
      rw [hf.1] at this; cases this
    | brk => exact hf.elim
    | next => exact .next (fin hf)
    | cont => exact .cont (fin hf)
  · rintro h' tk m' nx F' N' _ ⟨rfl, hm', hP⟩
    have := done (List.all_eq_true.mpr fun e he => by
      obtain ⟨j, hj⟩ := List.getElem?_of_mem he
      have hlen := hD.length
      exact hP j e (by have := (List.getElem?_eq_some_iff.mp hj).1; simp only [items] at this; simp; omega) hj) h' tk (m' x) (by rw [done_x hm']; exact F') N'
    exact this
/-! a dict's keys, whatever they are -/
theorem pyIter_dictX {d : Addr} {o : Obj} {es : Array DictEntry} {ep : Nat} {Q : Value → Shared → Prop} (hd : (d == sysModules) = false) (ho : s.heap.get? d = some o) (hc : o.cls = .type "dict") (hdat : o.data = .dict es ep)
    (hQ : Q (.ref s.heap.objs.size) { s with heap := s.heap.push { cls := .type "dict_keyiterator", data := .fields #[.ref d, .int 0 0, .int es.size 0, .int ep 0] } }) :
    wpAny (model prog w) A (pyIter (.ref d)) Q E s := by
  have hT : s.TypeIs (.ref d) "dict" := ⟨o, ho, hc⟩
  refine wpAny_pyIter_slot hT F.slot_dict_iter (wpAny_call_entry F.slot_dict_iter hT F.entry_dict_iter ?_ (F.args_dict_iter_1 _))
  unfold Builtin.«dict.__iter__»
  refine wpAny_bind ?_
  unfold Builtin.Dict.dictSlotNone
  refine wpAny_bind (wpAny_notOrdered_dict hT ?_)
  show wpAny _ _ (pure (Value.ref d)) _ _ s
  refine wpAny_pure ?_
  show wpAny _ _ (Builtin.Dict.showsAll d >>= _) _ _ s
  unfold Builtin.Dict.showsAll
  rw [if_neg (by rw [hd]; exact Bool.false_ne_true)]
  refine wpAny_bind (wpAny_pure (wpAny_bind (wpAny_dictEntries ho hdat (wpAny_bind (wpAny_dictEpoch ho hdat ?_)))))
  refine wpAny_bind (wpAny_newObj_type (wpAny_pure ⟨_, rfl, "dict_keyiterator", _, ⟨_, Heap.get?_push_size _ rfl, rfl⟩, F.slot_dict_keyiterator_next.lookup, ?_⟩))
  exact hQ
theorem pyNext_dictX {it d : Addr} {i ep : Nat} {od : Obj} {es : Array DictEntry} {Q : Option Value → Shared → Prop} (hit : s.heap.IsKeyIter it d i es.size ep)
    (hod : s.heap.get? d = some od) (hdd : od.data = .dict es ep) {e : DictEntry} (hx : es[i]? = some e)
    (hQ : ∀ h', h'.IsKeyIter it d (i + 1) es.size ep → Heap.SameBut it s.heap h' → Q (some e.key) { s with heap := h' }) :
    wpAny (model prog w) A (pyNext (.ref it)) Q E s := by
  obtain ⟨o, ho, hc, hd⟩ := id hit
  obtain ⟨hlt, rfl⟩ := Array.getElem?_eq_some_iff.mp hx
  unfold pyNext
  refine wpAny_bind (wpAny_attempt (wpAny_callSpecial?_slot (name := Str.ofString "__next__") hit.typeIs F.slot_dict_keyiterator_next
    (wpAny_call_entry F.slot_dict_keyiterator_next hit.typeIs F.entry_dict_keyiterator_next ?_ (F.args_dict_keyiterator_next_1 _))))
  refine wpAny_bind (wpAny_pure (wpAny_bind (wpAny_bind ?_)))
  first | refine wpAny_bind (wpAny_typeNameOfWhole_keyiter hit.typeIs (wpAny_pure ?_)) | refine wpAny_bind (wpAny_typeNameOf_keyiter hit.typeIs (wpAny_pure ?_))
  refine wpAny_bind (wpAny_fieldsOf ho hd ?_)
  simp only [show Builtin.Dict_items.ownsTuple "dict_keyiterator" = false by decide, Bool.false_eq_true, if_false]
  show wpAny _ _ (if (Value.ref d == Value.none) = true then _ else _) _ _ s
  rw [if_neg (show ¬ ((Value.ref d == Value.none) = true) from Bool.false_ne_true)]
  refine wpAny_bind (wpAny_pure (wpAny_bind (wpAny_dictEntries hod hdd ?_)))
  rw [if_neg (by simp)]
  refine wpAny_bind (wpAny_pure (wpAny_bind (wpAny_dictEpoch hod hdd ?_)))
  rw [if_neg (by simp)]
  refine wpAny_pure ?_
  simp only [show ¬ ((i : Int) < 0) from by omega, if_false, Int.toNat_natCast, Array.getElem?_eq_getElem hlt]
  refine wpAny_bind ?_
  first | refine wpAny_bind (wpAny_typeNameOfWhole_keyiter hit.typeIs (wpAny_pure ?_)) | refine wpAny_bind (wpAny_typeNameOf_keyiter hit.typeIs (wpAny_pure ?_))
  refine wpAny_bind (wpAny_isOneOf_keyiter hit.typeIs ?_)
  show wpAny _ _ (setField (.ref it) 1 (rawInt ((i : Int) + 1)) >>= _) _ _ s
  refine wpAny_bind (wpAny_setField ho hd (by simp) ?_)
  have hit' : (s.heap.update it (Obj.mapFields (·.setIfInBounds 1 (rawInt ((i : Int) + 1))))).IsKeyIter it d (i + 1) es.size ep :=
    ⟨_, Heap.get?_update_self _ ho (Obj.isFreed_of_fields (Obj.data_mapFields hd _)), (Obj.cls_mapFields ..).trans hc, by rw [Obj.data_mapFields hd]; simp [rawInt]⟩
  refine wpAny_bind (wpAny_holding ?_)
  refine wpAny_bind (wpAny_isOneOf_keyiter (s := { s with heap := s.heap.update it (Obj.mapFields (·.setIfInBounds 1 (rawInt ((i : Int) + 1)))) }) hit'.typeIs ?_)
  show wpAny _ _ (pure es[i].key) _ _ _
  exact wpAny_pure (wpAny_pure ⟨_, rfl, wpAny_pure (hQ _ hit' (Heap.SameBut.update ..))⟩)
theorem pyNext_dictX_end {it d : Addr} {ep : Nat} {od : Obj} {es : Array DictEntry} {Q : Option Value → Shared → Prop} (hh : A.handled = none) (hit : s.heap.IsKeyIter it d es.size es.size ep)
    (hod : s.heap.get? d = some od) (hdd : od.data = .dict es ep)
    (hQ : ∀ h', Heap.ExtBut it s.heap h' → Q none { s with heap := h' }) : wpAny (model prog w) A (pyNext (.ref it)) Q E s := by
  obtain ⟨o, ho, hc, hd⟩ := id hit
  unfold pyNext
  refine wpAny_bind (wpAny_attempt (wpAny_callSpecial?_slot (name := Str.ofString "__next__") hit.typeIs F.slot_dict_keyiterator_next
    (wpAny_call_entry F.slot_dict_keyiterator_next hit.typeIs F.entry_dict_keyiterator_next ?_ (F.args_dict_keyiterator_next_1 _))))
  refine wpAny_bind (wpAny_pure (wpAny_bind (wpAny_bind ?_)))
  first | refine wpAny_bind (wpAny_typeNameOfWhole_keyiter hit.typeIs (wpAny_pure ?_)) | refine wpAny_bind (wpAny_typeNameOf_keyiter hit.typeIs (wpAny_pure ?_))
  refine wpAny_bind (wpAny_fieldsOf ho hd ?_)
  simp only [show Builtin.Dict_items.ownsTuple "dict_keyiterator" = false by decide, Bool.false_eq_true, if_false]
  show wpAny _ _ (if (Value.ref d == Value.none) = true then _ else _) _ _ s
  rw [if_neg (show ¬ ((Value.ref d == Value.none) = true) from Bool.false_ne_true)]
  refine wpAny_bind (wpAny_pure (wpAny_bind (wpAny_dictEntries hod hdd ?_)))
  rw [if_neg (by simp)]
  refine wpAny_bind (wpAny_pure (wpAny_bind (wpAny_dictEpoch hod hdd ?_)))
  rw [if_neg (by simp)]
  refine wpAny_pure ?_
  simp only [show ¬ (((es.size : Nat) : Int) < 0) from by omega, if_false, Int.toNat_natCast, Array.getElem?_eq_none (Nat.le_refl es.size)]
  refine wpAny_bind ?_
  first | refine wpAny_bind (wpAny_typeNameOfWhole_keyiter hit.typeIs (wpAny_pure ?_)) | refine wpAny_bind (wpAny_typeNameOf_keyiter hit.typeIs (wpAny_pure ?_))
  show wpAny _ _ (setField (.ref it) 0 .none >>= _) _ _ s
  refine wpAny_bind (wpAny_setField ho hd (by simp) ?_)
  show wpAny _ _ (newExc (.type "StopIteration") [] >>= _) _ _ _
  refine wpAny_bind ?_
  simp only [newExc, newTuple]
  refine wpAny_bind (wpAny_newObj_type ?_ (by size_fits))
  refine wpAny_bind (m := firstArgMember _ _) (wpAny_of_eq (a := Value.none) (by first | rfl | (simp only [firstArgMember]; rfl)) ?_)
  refine wpAny_newObj_type ?_ (by size_fits)
  simp only [raiseNew]
  refine wpAny_bind (wpAny_handled ?_)
  rw [show A.in1.handled = none from hh]
  refine wpAny_bind (wpAny_pure (wpAny_throw ?_))
  refine wpAny_bind (wpAny_isInstance (T := "StopIteration") (b := true) ⟨_, Heap.get?_push_size _ rfl, rfl⟩ isSubtype_stop ?_)
  exact wpAny_pure (hQ _ (((Heap.SameBut.update ..).extBut.push _).push _))
end
theorem off_top04 : True := by w_top off; trivial
section
variable {prog : Program} {w : World} {A : Around} {E : Value → Shared → Prop} {s : Shared} {env : Env} {h₀ : Heap} {x : Str} {body : List Stmt} {Q : Flow → Shared → Prop} {m₀ : Str → Option Value} {news n₁ : List (Addr × Obj)} {v : Value} {d : T}
noncomputable def IsDicX (h : Heap) (d : Addr) (es : Array DictEntry) (ep : Nat) : Prop := ∃ o, h.get? d = some o ∧ o.cls = .type "dict" ∧ o.data = .dict es ep
theorem walks_dictX (hh : A.handled = none) (I d : Addr) (hne : d ≠ I) (es : Array DictEntry) (ep : Nat) :
    Walks prog w A I [I, d] [I] es.size (fun i v => ∃ e, es[i]? = some e ∧ v = e.key) (fun i h => h.IsKeyIter I d i es.size ep ∧ IsDicX h d es ep) where
  sub := fun b hb => by simp at hb; simp [hb]
  frame := fun _ _ _ ⟨⟨o, ho, r⟩, o', ho', r'⟩ hk => ⟨⟨o, hk I (by simp) o ho, r⟩, o', hk d (by simp) o' ho', r'⟩
  item := fun i s Q E hi ⟨st, o', ho', hc', hd'⟩ hQ => by
    refine pyNext_dictX st ho' hd' (Array.getElem?_eq_getElem hi) fun h' hit' hs' => ?_
    exact hQ _ h' s.toks ⟨_, Array.getElem?_eq_getElem hi, rfl⟩ ⟨hit', o', (hs'.2 d hne).trans ho', hc', hd'⟩ fun b o hb e => (hs'.2 b (fun q => hb (by simp [q]))).trans e
  done := fun s Q E ⟨st, o', ho', hc', hd'⟩ hQ => by
    refine pyNext_dictX_end hh st ho' hd' fun h' hs' => ?_
    exact hQ h' s.toks fun b o hb e => hs' b o (fun q => hb (by simp [q])) e
  self := fun _ _ _ _ st hQ => wpAny_pyIter_keyiter st.1 hQ
theorem search_dic {a : Addr} {es : List DictEntry} {n : Nat} (P : DictEntry → Bool) (hh : A.handled = none) (F : Fr h₀ env.locals s.heap m₀) (N : News h₀ env.locals s.heap news) (hlo : (a == sysModules) = false) (hm : (a, dictOf es n) ∈ news)
    (turn : ∀ e ∈ es, Turn prog w A E s env h₀ x body Q m₀ news e.key (P e) (es.all P = false))
    (done : es.all P = true → ∀ h tk u, Fr h₀ env.locals h (fun z => if z = x then u else m₀ z) → News h₀ env.locals h news → Q .next { s with heap := h, toks := tk }) :
    wpAny (model prog w) A (pyIter (.ref a)) (fun it s₂ => LoopAtV prog w A h₀ env x body Q E it s₂) E s := by
  have ho := (N _ hm).1
  refine pyIter_dictX hlo ho rfl rfl ?_
  have hne : a ≠ s.heap.objs.size := Nat.ne_of_lt (Heap.lt_size ho)
  have hI : ∀ p ∈ news, p.1 ∉ [s.heap.objs.size] := fun p hp hI => Nat.ne_of_lt (Heap.lt_size (N p hp).1) (List.mem_singleton.mp hI)
  refine ⟨_, _, _, es.toArray.size, _, _, m₀, news, fun i m₁ nx => nx = news ∧ (∀ z, z ≠ x → m₁ z = m₀ z) ∧ ∀ j e, j < i → es[j]? = some e → P e = true, rfl, walks_dictX hh s.heap.objs.size a hne es.toArray n, ?_, ?_, hI, ⟨⟨_, Heap.get?_push_size _ rfl, rfl, rfl⟩, _, Heap.get?_push_of_some _ ho, rfl, rfl⟩, F.push _, (fun p hp => ⟨Heap.get?_push_of_some _ (N p hp).1, (N p hp).2⟩), ⟨rfl, fun _ _ => rfl, fun j e hj => absurd hj (Nat.not_lt_zero _)⟩, ?_, ?_⟩
  · intro hL
    rcases List.mem_cons.mp hL with e | hL
    · exact absurd F.ns.lt (e ▸ Nat.lt_irrefl _)
    · exact (N _ hm).2.1 (List.mem_singleton.mp hL).symm
  · intro b hb
    rw [List.mem_singleton.mp hb]
    exact next_is_new F
  · rintro i u m₁ nx s₁ own ⟨h, tk, rfl⟩ hi ⟨e, he, rfl⟩ ⟨rfl, hm₁, hP⟩ _ _ _ _ _ F₁ N₁
    have he : es[i]? = some e := by simpa using he
    rw [map_x hm₁] at F₁
    refine wpAny_mono (turn e (List.mem_of_getElem? he) h tk own F₁ fun p hp => N₁ p ((List.mem_append.mp hp).elim (fun q => List.mem_append.mpr (.inr q)) fun q => List.mem_append.mpr (.inl q))) (fun f s₂ hf => ?_) fun _ _ e => e
    have fin : (P e = true ∧ ∃ h' tk' m', s₂ = ({ s with heap := h', toks := tk' } : Shared) ∧ Fr h₀ env.locals h' m' ∧ (∀ z, z ≠ x → m' z = m₀ z) ∧ News h₀ env.locals h' (nx ++ own)) → LoopStepU h₀ env.locals [s.heap.objs.size] own (fun m₁ nx' => nx' = nx ∧ (∀ z, z ≠ x → m₁ z = m₀ z) ∧ ∀ j e, j < i + 1 → es[j]? = some e → P e = true) { s with heap := h, toks := tk } .next s₂ := by
      rintro ⟨hg, h', tk', m', rfl, F', hm', N'⟩
      refine LoopStepU.intro F' (fun p hp => N' p ((List.mem_append.mp hp).elim (fun q => List.mem_append.mpr (.inr q)) fun q => List.mem_append.mpr (.inl q))) hI ⟨rfl, hm', fun j e' hj he' => ?_⟩
      rcases Nat.lt_succ_iff_lt_or_eq.mp hj with hj | rfl
      · exact hP j e' hj he'
      · rw [he] at he'; cases he'; exact hg
    cases f with
    | ret r =>
      refine LoopStepV.ret (hf.2 ?_)
      refine Bool.eq_false_iff.mpr fun hall => ?_
      have := List.all_eq_true.mp hall e (List.mem_of_getElem? he)
      rw [hf.1] at this; cases this
    | brk => exact hf.elim
    | next => exact .next (fin hf)
    | cont => exact .cont (fin hf)
  · rintro h' tk m' nx F' N' _ ⟨rfl, hm', hP⟩
    have := done (List.all_eq_true.mpr fun e he => by
      obtain ⟨j, hj⟩ := List.getElem?_of_mem he
      exact hP j e (by have := (List.getElem?_eq_some_iff.mp hj).1; simpa using this) hj) h' tk (m' x) (by rw [done_x hm']; exact F') N'
    exact this
theorem item_dic {a L : Addr} {k : D} {kv vv : Value} {n : Nat} {value slice : PySem.Expr} {Q : Value → Shared → Prop} (F : Fr h₀ L s.heap m₀) (N : News h₀ L s.heap news) (hm : (a, dictOf [⟨hashD k, kv, vv⟩] n) ∈ news) (ok : keyOk k = true) (H : DenD n₁ kv k) (hs : ∀ p ∈ n₁, p ∈ news)
    (hu : A.units + 64 < cLine) (h : ∀ tk, Q vv { s with toks := tk })
    (hsub : ∀ b, subscripted slice false (.ref a) b = operate [.ref a, b] (getItem (.ref a) b)) :
    wpAny (model prog w) A (subscriptTail value slice (.ref a) kv) Q E s := by
  have ho := (N _ hm).1
  have hT : s.TypeIs (.ref a) "dict" := ⟨_, ho, rfl⟩
  refine tail_any hT slot_dict_getitem.lookup ?_ (hsub _)
  rcases key_cases ok with ⟨i, rfl⟩ | ⟨x, y, rfl⟩
  · obtain ⟨t, rfl⟩ := key_int H
    have hM : s.heap.MapOf (intKind prog w) a (findBy Value.isInt (#[⟨hashInt i, .int i t, vv⟩] : Array DictEntry)) :=
      ⟨_, _, n, ho, ⟨rfl, rfl, rfl⟩, rfl, fun e he => ⟨i, by simp at he; subst he; exact ⟨by simp [intKind, Value.isInt], rfl⟩⟩, fun _ => rfl⟩
    exact wpAny_getItem_of (knd := intKind prog w) (k := i) (by simp [intKind, Value.isInt]) hM (by simp [findBy, Value.isInt]) (h _)
  · obtain ⟨b, tx, ty, nb, rfl, hb⟩ := key_tup H
    have hk : (tupleKind (intKind prog w)).is s.heap [x, y] b := key_at N (hs _ hb)
    exact wpAny_getItem_heap (knd := tupleKind (intKind prog w)) (k := [x, y]) (xs := [([x, y], b, vv)]) (p := (b, vv)) (tupleKind_room_in1 (by omega)) hk
      ⟨_, _, n, ho, ⟨rfl, rfl, rfl⟩, rfl, rfl, fun z hz => by simp at hz; subst hz; exact hk, by simp⟩ (by simp [atKey]) (h _)
end
theorem off_top05 : True := by w_top off; trivial
local macro_rules | `(tactic| walk_at "call ref") => `(tactic| (k_here; k_dflt (first
  | ((with_reducible show wpAny _ _ (call (Value.ref 82) _) _ _ _); refine' c_is_constant ?_ ?_ ?_ ?_ ?_ ?_ ?_ ?_ ?_ ?_; walk_at "m t")
  | ((with_reducible show wpAny _ _ (call (Value.ref 89) _) _ _ _); refine' c_is_functor ?_ ?_ ?_ ?_ ?_ ?_ ?_ ?_ ?_ ?_; walk_at "m t")
  | ((with_reducible show wpAny _ _ (call (Value.ref 96) _) _ _ _); refine' c_is_target _ ?_ ?_ ?_ ?_ ?_ ?_ ?_ ?_ ?_ ?_; walk_at "m t")); intro _ _ _ _; (try k_fold)))
noncomputable def ents : T → List (D × D)
  | .dic l => l
  | _ => []
noncomputable def entOk (k : Bool) (e : D × D) : Bool := isKey k (.el e.1) && isTgt true (.el e.2)
noncomputable def pairOk (k : Bool) (linked : Bool) (e : D) : Bool := isPair (.el e) && isKey k (.el (fst (.el e))) && isTgt linked (.el (snd (.el e)))
theorem key_e1 {b : Bool} {d : T} (h : b = true) : isConst d = isKey b d := by simp [isKey, h]
theorem key_e2 {b : Bool} {d : T} (h : b = false) : geD 0 d = isKey b d := by simp [isKey, h]
theorem c_is_key {news} {v} {d} {k : Str} {t : Tok} (h : Den news v d) : Spec 3 103 news [v, .str k t] (isKey (k == "T") d) := by
  intro prog w p loose mean mg mb dp un gd cn cs a ccd cl outer A₀ base h₀ L m s Q E B F X N T hk hd hu hret 
  refine wpAny_call ?_
  k_dflt cell_enter
  k_steps
  all_goals refine ret_b hret (by k_asm) (by k_asm) (fun _ h => h) ?_
  all_goals first | exact key_e1 (by assumption) | exact key_e2 (by assumption)
local macro_rules | `(tactic| walk_at "call ref") => `(tactic| (k_here; (with_reducible show wpAny _ _ (call (Value.ref 103) _) _ _ _); k_dflt (refine' c_is_key ?_ ?_ ?_ ?_ ?_ ?_ ?_ ?_ ?_ ?_; walk_at "m t"); intro _ _ _ _; (try k_fold)))
section
variable {k l : Bool} {e : D}
theorem pok_e1 (h1 : isPair (.el e) = true) (h2 : isKey k (.el (fst (.el e))) = true) (h3 : isTgt l (.el (snd (.el e))) = true) : pairOk k l e = true := by simp [pairOk, *]
theorem pok_e2 (h1 : isPair (.el e) = true) (h2 : isKey k (.el (fst (.el e))) = true) (h3 : isTgt l (.el (snd (.el e))) = false) : pairOk k l e = false := by simp [pairOk, *]
theorem pok_e3 (h1 : isPair (.el e) = true) (h2 : isKey k (.el (fst (.el e))) = false) : pairOk k l e = false := by simp [pairOk, *]
theorem pok_e4 (h1 : isPair (.el e) = false) : pairOk k l e = false := by simp [pairOk, *]
end
theorem c_is_table_un {news} {v} {d} {k : Str} {t : Tok} (h : Den news v d) : Spec 4 110 news [v, .str k t, .bool false] (isTupT d && (items d).all (pairOk (k == "T") false)) := by
  intro prog w p loose mean mg mb dp un gd cn cs a ccd cl outer A₀ base h₀ L m s Q E B F X N T hk hd hu hret 
  refine wpAny_call ?_
  k_dflt cell_enter
  k_steps
  · rename isTupT d = true => ht
    rename Fr _ _ _ _ => lF
    with_unfolding_all refine' For_invVF lF ?k1 ?k2 ?_
    case k1 => exact rfl
    case k2 => exact rfl
    k_steps
    rename Fr _ _ _ _ => lF2
    rename News _ _ _ _ => lN2
    refine search_T (pairOk (k == "T") false) rfl lF2 lN2 h (fun _ h => h) ht ?turn ?done
    case turn =>
      intro u e hu1 h1 tk1 own F1 N1
      have hs1 : ∀ p ∈ news, p ∈ news ++ own := fun p hp => List.mem_append.mpr (.inl hp)
      have hu2 := DenD.mono hs1 hu1
      k_steps
      · exact TurnPost.next (by k_asm) (by k_asm) (pok_e1 (by assumption) (by assumption) (by assumption))
      all_goals refine TurnPost.ret (by first | exact pok_e2 (by assumption) (by assumption) (by assumption) | exact pok_e3 (by assumption) (by assumption) | exact pok_e4 (by assumption)) (fun hb => ?_)
      all_goals k_steps
      all_goals refine ret_b hret (by k_asm) (by k_asm) hs1 ?_
      all_goals (rw [ht, hb]; rfl)
    case done =>
      intro hall h1 tk1 u F1 N1
      k_steps
      refine ret_b hret (by k_asm) (by k_asm) (fun _ h => h) ?_
      rw [ht, hall]; rfl
  · refine ret_b hret (by k_asm) (by k_asm) (fun _ h => h) ?_
    rename isTupT d = false => ht
    rw [ht]; rfl
section
variable {k : Bool} {e : D × D}
theorem ent_e1 (h2 : isKey k (.el e.1) = true) (h3 : isTgt true (.el e.2) = true) : entOk k e = true := by simp [entOk, *]
theorem ent_e2 (h2 : isKey k (.el e.1) = true) (h3 : isTgt true (.el e.2) = false) : entOk k e = false := by simp [entOk, *]
theorem ent_e3 (h2 : isKey k (.el e.1) = false) : entOk k e = false := by simp [entOk, *]
end
local macro_rules | `(tactic| walk_at "subscriptTail") => `(tactic| (k_here; (try dsimp only); (with_reducible show wpAny _ _ (subscriptTail _ _ (Value.ref _) _) _ _ _); k_dflt (refine' item_dic ?F ?N ?m ?o ?H ?s ?u ?_ ?q; (case F | N => k_asm); (case m => k_mem); (case o | H => with_reducible assumption); (case s => walk_at "m s"); (case u => ktr_units); (case q => walk_at "m q"); k_whole); intro _))
theorem c_is_table_li {news} {v} {d} {k : Str} {t : Tok} (h : Den news v d) : Spec 4 110 news [v, .str k t, .bool true] (isDic d && (ents d).all (entOk (k == "T"))) := by
  intro prog w p loose mean mg mb dp un gd cn cs a ccd cl outer A₀ base h₀ L m s Q E B F X N T hk hd hu hret 
  refine wpAny_call ?_
  k_dflt cell_enter
  k_steps
  · rename isDic d = true => ht
    rename Fr _ _ _ _ => lF
    with_unfolding_all refine' For_invVF lF ?k1 ?k2 ?_
    case k1 => exact rfl
    case k2 => exact rfl
    k_steps
    rename Fr _ _ _ _ => lF2
    rename News _ _ _ _ => lN2
    cases h with
    | el => cases ht
    | lst => cases ht
    | dic0 hlo hm =>
      refine search_dic (fun _ => true) rfl lF2 lN2 hlo hm (fun e he => nomatch he) ?_
      intro hall h1 tk1 u F1 N1
      k_steps
      exact ret_b hret (by k_asm) (by k_asm) (fun _ h => h) rfl
    | dic1 hlo hm hok hk1 hv1 =>
      rename_i a1 n1 kv vv kd vd
      refine search_dic (fun _ => entOk (k == "T") (kd, vd)) rfl lF2 lN2 hlo hm ?turn ?done
      case turn =>
        intro e he h1 tk1 own F1 N1
        rw [List.mem_singleton] at he
        subst he
        have hs1 : ∀ p ∈ news, p ∈ news ++ own := fun p hp => List.mem_append.mpr (.inl hp)
        have hk2 := DenD.mono hs1 hk1
        have hv2 := DenD.mono hs1 hv1
        have hm2 := hs1 _ hm
        show wpAny _ _ _ _ _ _
        k_steps
        · exact TurnPost.next (by k_asm) (by k_asm) (ent_e1 (by assumption) (by assumption))
        all_goals refine TurnPost.ret (by first | exact ent_e2 (by assumption) (by assumption) | exact ent_e3 (by assumption)) (fun hb => ?_)
        all_goals k_steps
        all_goals refine ret_b hret (by k_asm) (by k_asm) hs1 ?_
        all_goals simpa [isDic, ents] using hb.symm
      case done =>
        intro hall h1 tk1 u F1 N1
        k_steps
        refine ret_b hret (by k_asm) (by k_asm) (fun _ h => h) ?_
        simpa [isDic, ents] using hall.symm
  · refine ret_b hret (by k_asm) (by k_asm) (fun _ h => h) ?_
    rename isDic d = false => ht
    rw [ht]; rfl
theorem off_top06 : True := by w_top off; trivial
noncomputable def isTab (k l : Bool) (d : T) : Bool := bif l then isDic d && (ents d).all (entOk k) else isTupT d && (items d).all (pairOk k false)
theorem c_is_table {news} {v} {d} {k : Str} {t : Tok} (l : Bool) (h : Den news v d) : Spec 4 110 news [v, .str k t, .bool l] (isTab (k == "T") l d) := by
  cases l
  · exact c_is_table_un h
  · exact c_is_table_li h
local macro_rules | `(tactic| walk_at "call ref") => `(tactic| (k_here; k_dflt (first
  | ((with_reducible show wpAny _ _ (call (Value.ref 110) _) _ _ _); refine' c_is_table _ ?_ ?_ ?_ ?_ ?_ ?_ ?_ ?_ ?_ ?_; walk_at "m t")
  | ((with_reducible show wpAny _ _ (call (Value.ref 75) _) _ _ _); refine' c_is_register ?H ?l ?x ?B ?F ?X ?N ?T ?k ?d ?u ?_; (case B | F | X | N | T => k_asm); (case l => k_mem); (case x => first | exact .cons _ _ .nil | exact .cons _ _ (.cons _ _ .nil)); (case H => walk_at "m H"); (case k => walk_at "m k"); (case d => ktr_room); (case u => ktr_units); k_whole)); intro _ _ _ _; (try k_fold)))
noncomputable def isOp (k : Str) (l : Bool) (d : T) : Bool :=
  bif k == "R" then isReg ["x", "y"] d else bif k == "X" then isReg ["x"] d else bif k == "Y" then isReg ["y"] d else bif k == "C" then isConst d else
  bif k == "F" then geD 0 d else bif k == "N" then geD 0 d else bif k == "L" then isTgt l d else isTab (k == "T") l d
section
variable {k : Str} {l : Bool} {d : T}
theorem op_e1 (h : (k == "R") = true) : isReg ["x", "y"] d = isOp k l d := by simp only [isOp, h, cond_true]
theorem op_e2 (h : (k == "R") = false) (h2 : (k == "X") = true) : isReg ["x"] d = isOp k l d := by simp only [isOp, h, h2, cond_true, cond_false]
theorem op_e3 (h : (k == "R") = false) (h2 : (k == "X") = false) (h3 : (k == "Y") = true) : isReg ["y"] d = isOp k l d := by simp only [isOp, h, h2, h3, cond_true, cond_false]
theorem op_e4 (h : (k == "R") = false) (h2 : (k == "X") = false) (h3 : (k == "Y") = false) (h4 : (k == "C") = true) : isConst d = isOp k l d := by simp only [isOp, h, h2, h3, h4, cond_true, cond_false]
theorem op_e5 (h : (k == "R") = false) (h2 : (k == "X") = false) (h3 : (k == "Y") = false) (h4 : (k == "C") = false) (h5 : (k == "F") = true) : geD 0 d = isOp k l d := by simp only [isOp, h, h2, h3, h4, h5, cond_true, cond_false]
theorem op_e6 (h : (k == "R") = false) (h2 : (k == "X") = false) (h3 : (k == "Y") = false) (h4 : (k == "C") = false) (h5 : (k == "F") = false) (h6 : (k == "N") = true) : geD 0 d = isOp k l d := by simp only [isOp, h, h2, h3, h4, h5, h6, cond_true, cond_false]
theorem op_e7 (h : (k == "R") = false) (h2 : (k == "X") = false) (h3 : (k == "Y") = false) (h4 : (k == "C") = false) (h5 : (k == "F") = false) (h6 : (k == "N") = false) (h7 : (k == "L") = true) : isTgt l d = isOp k l d := by simp only [isOp, h, h2, h3, h4, h5, h6, h7, cond_true, cond_false]
theorem op_e8 (h : (k == "R") = false) (h2 : (k == "X") = false) (h3 : (k == "Y") = false) (h4 : (k == "C") = false) (h5 : (k == "F") = false) (h6 : (k == "N") = false) (h7 : (k == "L") = false) : isTab (k == "T") l d = isOp k l d := by simp only [isOp, h, h2, h3, h4, h5, h6, h7, cond_false]
end
theorem c_is_operand {news} {v} {d} {k : Str} {t : Tok} (l : Bool) (h : Den news v d) : Spec 5 117 news [v, .str k t, .bool l] (isOp k l d) := by
  intro prog w p loose mean mg mb dp un gd cn cs a ccd cl outer A₀ base h₀ L m s Q E B F X N T hk hd hu hret 
  refine wpAny_call ?_
  k_dflt cell_enter
  k_steps
  all_goals refine ret_b hret (by k_asm) (by k_asm) (by first | exact fun _ h => h | exact fun _ h => List.Mem.tail _ h) ?_
  all_goals first
    | exact op_e1 (by assumption)
    | exact op_e2 (by assumption) (by assumption)
    | exact op_e3 (by assumption) (by assumption) (by assumption)
    | exact op_e4 (by assumption) (by assumption) (by assumption) (by assumption)
    | exact op_e5 (by assumption) (by assumption) (by assumption) (by assumption) (by assumption)
    | exact op_e6 (by assumption) (by assumption) (by assumption) (by assumption) (by assumption) (by assumption)
    | exact op_e7 (by assumption) (by assumption) (by assumption) (by assumption) (by assumption) (by assumption) (by assumption)
    | exact op_e8 (by assumption) (by assumption) (by assumption) (by assumption) (by assumption) (by assumption) (by assumption)
    | trace_state
theorem off_top07 : True := by w_top off; trivial
/-! the law's own readers -/
theorem c_law_whole {news} {v} {d} (h : Den news v d) : Spec 1 167 news [v] (isInt d) := by
  intro prog w p loose mean mg mb dp un gd cn cs a ccd cl outer A₀ base h₀ L m s Q E B F X N T hk hd hu hret 
  refine wpAny_call ?_
  k_dflt cell_enter
  k_steps
  all_goals refine ret_b hret (by k_asm) (by k_asm) (fun _ h => h) ?_
  · exact whole_e1 (by assumption)
  · exact whole_e2 (by assumption)
theorem c_law_two {news} {v} {d} (h : Den news v d) : Spec 1 174 news [v] (isPair d) := by
  intro prog w p loose mean mg mb dp un gd cn cs a ccd cl outer A₀ base h₀ L m s Q E B F X N T hk hd hu hret 
  refine wpAny_call ?_
  k_dflt cell_enter
  k_steps
  all_goals refine ret_b hret (by k_asm) (by k_asm) (fun _ h => h) ?_
  · rw [isPair_len (by assumption)]
  · rw [isTupT_no (by assumption)]; assumption
local macro_rules | `(tactic| walk_at "call ref") => `(tactic| (k_here; k_dflt (first
  | ((with_reducible show wpAny _ _ (call (Value.ref 167) _) _ _ _); refine' c_law_whole ?_ ?_ ?_ ?_ ?_ ?_ ?_ ?_ ?_ ?_; walk_at "m t")
  | ((with_reducible show wpAny _ _ (call (Value.ref 174) _) _ _ _); refine' c_law_two ?_ ?_ ?_ ?_ ?_ ?_ ?_ ?_ ?_ ?_; walk_at "m t")); intro _ _ _ _; (try k_fold)))
noncomputable def inInts (ns : List Int) (d : D) : Bool := ns.any fun n => eqI n d
section
variable {prog : Program} {w : World} {A : Around} {E : Value → Shared → Prop} {s : Shared} {h₀ : Heap} {L : Addr} {m : Str → Option Value} {news n₁ : List (Addr × Obj)} {Q : Value → Shared → Prop}
theorem isListN {a : Addr} {vs : List Value} {n : Nat} (N : News h₀ L s.heap news) (hm : (a, listOf vs.toArray n) ∈ news) : s.heap.IsList a vs.toArray := ⟨_, (N _ hm).1, rfl, n, rfl⟩
theorem eqInt_D {v : Value} {d : D} {k : Int} {t : Tok} (hk : 1 < k) (N : News h₀ L s.heap news) (H : DenD news v d) (hu : A.units < cLine) : EqAt A s (.int k t) v (eqI k d) := by
  cases H with
  | none => exact EqAt.int_none _ _
  | bool b =>
    have := EqAt.int_bool (A := A) (s := s) k t b
    have e : (k == (if b then (1 : Int) else 0)) = eqI k (.bool b) := by cases b <;> simp [eqI] <;> omega
    rw [e] at this
    exact this
  | int i u =>
    have := EqAt.int_int (A := A) (s := s) k t i u
    have e : (k == i) = eqI k (.int i) := by simp [eqI, BEq.beq, eq_comm]
    rw [e] at this
    exact this
  | str x u => exact EqAt.int_str _ _ _ _
  | tup hm _ _ => exact EqAt.int_tuple _ _ (isTuple N hm) hu
noncomputable def intOf : Value → D → Bool
  | .int n _, d => eqI n d
  | _, _ => false
theorem ints_any {vs ns} (h : IntsAre vs ns) (d : D) : vs.any (fun y => intOf y d) = inInts ns d := by
  unfold inInts
  induction h with
  | nil => rfl
  | cons x t _ ih => rw [List.any_cons, List.any_cons, ih]; rfl
theorem ints_mem {vs ns} (h : IntsAre vs ns) {y : Value} (hy : y ∈ vs) : ∃ x t, x ∈ ns ∧ y = .int x t := by
  induction h with
  | nil => cases hy
  | cons x t _ ih =>
    rcases List.mem_cons.mp hy with rfl | hy
    · exact ⟨_, _, .head _, rfl⟩
    · obtain ⟨x, t, hx, e⟩ := ih hy
      exact ⟨x, t, .tail _ hx, e⟩
theorem in_ints {v : Value} {d : D} {l : Addr} {xs : List Value} {n : Nat} {ns : List Int} (N : News h₀ L s.heap news) (hl : (l, listOf xs.toArray n) ∈ news) (hx : IntsAre xs ns) (H : DenD n₁ v d) (hs : ∀ p ∈ n₁, p ∈ news) (hn : ∀ n ∈ ns, 1 < n) (hu : A.in1.units < cLine)
    (h : Q (.bool (inInts ns d)) s) : wpAny (model prog w) A (compareOp .In v (.ref l)) Q E s := by
  refine in_listAt (fun y => intOf y d) (isListN N hl) (fun y hy => ?_) ?_
  · obtain ⟨x, t, hx, rfl⟩ := ints_mem hx (by simpa using hy)
    exact eqInt_D (hn x hx) N (H.mono hs) hu
  · rw [List.any_toArray, ints_any hx]; exact h
theorem in_namesL {v : Value} {d : D} {l : Addr} {xs : List Value} {n : Nat} {names : List Str} (N : News h₀ L s.heap news) (hl : (l, listOf xs.toArray n) ∈ news) (hx : StrsAre xs names) (H : DenD n₁ v d) (hs : ∀ p ∈ n₁, p ∈ news) (hu : A.in1.units < cLine)
    (h : Q (.bool (inStrs names d)) s) : wpAny (model prog w) A (compareOp .In v (.ref l)) Q E s := by
  refine in_listAt (fun y => strOf y d) (isListN N hl) (fun y hy => ?_) ?_
  · obtain ⟨x, t, rfl⟩ := strs_mem hx (by simpa using hy)
    exact eqStr_D N (H.mono hs) hu
  · rw [List.any_toArray, strs_any hx]; exact h
theorem gt_T {v : Value} {d : T} {k : Tok} (H₁ : Den n₁ v d) (hi : isInt d = true) (h : Q (.bool (geD 1 d)) s) : wpAny (model prog w) A (compareOp .Gt v (.int 0 k)) Q E s := by
  obtain ⟨i, t, rfl, rfl⟩ := isInt_inv H₁ hi
  refine gt_int ?_
  exact h
end
local macro_rules | `(tactic| walk_at "compareOp Gt") => `(tactic| (k_here; (with_reducible show wpAny _ _ (compareOp CmpOp.Gt _ (Value.int 0 _)) _ _ _); k_dflt (refine' gt_T ?H ?i ?_; (case H => walk_at "m h"); (case i => with_reducible assumption); k_whole)))
local macro_rules | `(tactic| walk_at "compareOp In") => `(tactic| (k_here; (with_reducible show wpAny _ _ (compareOp CmpOp.In _ (Value.ref _)) _ _ _); k_dflt (first
  | (refine' in_ints ?N ?l ?x ?H ?s ?g ?u ?_; (case N => k_asm); (case l => k_mem); (case x => exact .cons _ _ (.cons _ _ .nil)); (case H => with_reducible assumption); (case s => walk_at "m s"); (case g => decide); (case u => ktr_units); k_whole)
  | (refine' in_namesL ?N ?l ?x ?H ?s ?u ?_; (case N => k_asm); (case l => k_mem); (case x => first | exact .cons _ _ .nil | exact .cons _ _ (.cons _ _ .nil)); (case H => with_reducible assumption); (case s => walk_at "m s"); (case u => ktr_units); k_whole))))
noncomputable def lKey (t : Bool) (d : T) : Bool := bif t then isPair d && inInts [4, 5] (fst d) && isInt (.el (snd d)) else geD 0 d
section
variable {b : Bool} {d : T}
theorem lkey_e1 (h : b = true) (h1 : isPair d = true) (h2 : inInts [4, 5] (fst d) = true) : isInt (.el (snd d)) = lKey b d := by simp [lKey, *]
theorem lkey_e2 (h : b = true) (h1 : isPair d = true) (h2 : inInts [4, 5] (fst d) = false) : inInts [4, 5] (fst d) = lKey b d := by simp [lKey, *]
theorem lkey_e3 (h : b = true) (h1 : isPair d = false) : isPair d = lKey b d := by simp [lKey, *]
theorem lkey_e4 (h : b = false) (h1 : isInt d = true) : geD 0 d = lKey b d := by simp [lKey, *]
theorem lkey_e5 (h : b = false) (h1 : isInt d = false) : isInt d = lKey b d := by simp [lKey, isInt_no h1, h1, h]
end
theorem c_law_key {news} {v} {d} {k : Str} {t : Tok} (h : Den news v d) : Spec 2 181 news [v, .str k t] (lKey (k == "T") d) := by
  intro prog w p loose mean mg mb dp un gd cn cs a ccd cl outer A₀ base h₀ L m s Q E B F X N T hk hd hu hret 
  refine wpAny_call ?_
  k_dflt cell_enter
  k_steps
  all_goals refine ret_b hret (by k_asm) (by k_asm) (by first | exact fun _ h => h | exact fun _ h => List.Mem.tail _ h) ?_
  all_goals first | exact lkey_e1 (by assumption) (by assumption) (by assumption) | exact lkey_e2 (by assumption) (by assumption) (by assumption) | exact lkey_e3 (by assumption) (by assumption) | exact lkey_e4 (by assumption) (by assumption) | exact lkey_e5 (by assumption) (by assumption) | trace_state
theorem off_top08 : True := by w_top off; trivial
local macro_rules | `(tactic| tb_start) => `(tactic| (
  refine' code_defC ?k1 ?k2 ?k3 ?k4 ?k5 ?kA ?kF ?kK ?k6 ?k7 ?k8 ?k9 ?kB ?kD ?_ ?c2 ?c3 ?c4
  (case kA | kF => exact rfl)
  (case kK => first | assumption | exact rfl)
  (case k1 | k2 | k3 | k4 | k5 => k_asm)
  (case k6 | k7 => k_is)
  (case k8 => ktr_room)
  (case k9 => exact BindsTo.of_eq rfl)
  (case kB => exact rfl)
  (case kD => decide +kernel)
  (case c2 | c3 | c4 => exact rfl)
  intro g' L' h' tk' cells' FG' F' N' Y' B' X' T' l1
  (try clear l1)
  k_cells Y'
  (try simp only [List.cons_append, List.nil_append] at N')
  (try dsimp only)
  (try k_lift B')
  (try k_fold)))
/-! a list comprehension over what is iterated, by its turns -/
section
open LCg
variable {prog : Program} {w : World} {A : Around} {E : Value → Shared → Prop} {s : Shared} {h₀ : Heap} {L : Addr} {m : Str → Option Value} {env : Env}
/-- it is iterated by an iterator laid behind the heap -/
noncomputable def Iterates (prog : Program) (w : World) (A : Around) (E : Value → Shared → Prop) (h₀ : Heap) (L : Addr) (n : Nat) (P : Nat → Value → Prop) (S : List (Addr × Obj) → Prop) (xv : Value) (s₁ : Shared) : Prop :=
  ∀ Q' : Value → Shared → Prop, (∀ (fp : List Addr) (St : Nat → Heap → Prop) (oI : Obj) (tk : Nat), Walks prog w A s₁.heap.objs.size fp [s₁.heap.objs.size] n P St → (∀ i h, St i h → ∃ o, h.get? s₁.heap.objs.size = some o) →
    (∀ i h h' o nw, St i h → h.get? s₁.heap.objs.size = some o → h'.get? s₁.heap.objs.size = some o → (∀ b o, h₀.get? b = some o → h'.get? b = some o) → News h₀ L h' nw → S nw → St i h') →
    St 0 (s₁.heap.push oI) → (∀ b ∈ fp, b < (s₁.heap.push oI).objs.size) → Q' (.ref s₁.heap.objs.size) { s₁ with heap := s₁.heap.push oI, toks := tk }) → wpAny (model prog w) A (pyIter xv) Q' E s₁
noncomputable def SrcM (prog : Program) (w : World) (A : Around) (E : Value → Shared → Prop) (h₀ : Heap) (L : Addr) (m : Str → Option Value) (env : Env) (elt : PySem.Expr) (x : Str) (scope : Scope) (cl : List (Str × Addr)) (Q : Value → Shared → Prop) (xv : Value) (s₁ : Shared) : Prop :=
  ∃ (n : Nat) (P : Nat → Value → Prop) (S : List (Addr × Obj) → Prop) (news : List (Addr × Obj)), n ≤ sizeLine ∧ Fr h₀ L s₁.heap m ∧ News h₀ L s₁.heap news ∧ S news ∧
      Iterates prog w A E h₀ L n P S xv s₁ ∧ ∀ g tk, CompRest prog w A h₀ L m env elt x scope cl { s₁ with heap := g, toks := tk } S P (FinE h₀ L m { s₁ with heap := g, toks := tk } Q) n 0 [] news
theorem ListComp_M (F₀ : Fr h₀ L s.heap m) {elt iter : PySem.Expr} {x : Str} {px : Pos} {scope : Scope} {cl : List (Str × Addr)} {pos : Pos} {Q : Value → Shared → Prop}
    (hclos : closureFor scope env = pure cl) (hcell : ∀ y ∈ scope.names, y.2 ≠ .cell) (hkind : scope.kind = .function)
    (hnames : ∀ y ∈ scope.names, y.2 = .local → scope.names.lookup y.1 = some .local) (hx : scope.names.lookup x = some .local)
    (h : wpAny (model prog w) A (eval iter env) (SrcM prog w A E h₀ L m env elt x scope cl Q) E s)
    (hs : ∀ x, foldedSetIterable iter env x = pure x := by intro _; rfl) :
    wpAny (model prog w) A (eval (.ListComp elt [⟨.Name x px, iter, [], 0⟩] scope pos) env) Q E s := by
  rw [eval_ListComp]
  refine wpAny_comprehension_free (use := none) rfl hs hclos hkind hnames (wpAny_mono h (fun xv s₁ h₁ => ?_) fun _ _ e => e)
  obtain ⟨n, P, S, news, hsz, F, N, hS, hit, R⟩ := h₁
  refine hit _ fun fp St oI tk W hIo hSt hst hfp => ?_
  refine block_U W hsz hIo hSt hcell hkind hx hst hfp (F.keeps fun _ _ e => Heap.get?_push_of_some _ e) (N.grown fun _ _ e => Heap.get?_push_of_some _ e) (Nat.ne_of_lt F.ns.lt) (next_is_new F) (fun p hp => Nat.ne_of_lt (Heap.lt_size (N p hp).1)) hS (R _ _) ?_
  intro D C h tk m' ys news' F' N' o1 hn hC₀ hD₀ hCL hDL hCD offC fin
  refine ⟨m', hn, fun h'' hs'' => fin D h'' tk (F'.change hs'' hCL hC₀) (fun p hp => ?_) o1⟩
  refine ⟨hs''.extBut _ _ ?_ (N' p hp).1, (N' p hp).2⟩
  rcases List.mem_cons.mp hp with rfl | hp
  · exact Ne.symm hCD
  · exact offC p hp
/-- an element's end: the bool, and all as it stood -/
noncomputable def EltPost (s : Shared) (h₀ : Heap) (L : Addr) (m : Str → Option Value) (led : List (Addr × Obj)) (b : Bool) (y : Value) (s' : Shared) : Prop :=
  y = .bool b ∧ ∃ h' tk', s' = { s with heap := h', toks := tk' } ∧ Fr h₀ L h' m ∧ News h₀ L h' led
theorem EltPost.intro {s : Shared} {led : List (Addr × Obj)} {b c : Bool} {h' : Heap} {tk' : Nat} (F : Fr h₀ L h' m) (N : News h₀ L h' led) (e : c = b) : EltPost s h₀ L m led b (.bool c) { s with heap := h', toks := tk' } :=
  ⟨by rw [e], h', tk', rfl, F, N⟩
theorem rest_bool {elt : PySem.Expr} {x : Str} {scope : Scope} {cl : List (Str × Addr)} {s : Shared} {S : List (Addr × Obj) → Prop} {P : Nat → Value → Prop} {Fin : List Value → List (Addr × Obj) → Prop} {news : List (Addr × Obj)} {n : Nat} (p : Nat → Bool) (hS : S news)
    (turn : ∀ i v ys I oI C oC D m₂ h tk (E' : Value → Shared → Prop), i < n → P i v → NsObj oC m₂ → m₂ x = some v → Fr h₀ L h m → News h₀ L h ((I, oI) :: (C, oC) :: (D, lst ys) :: news) →
      wpAny (model prog w) A (eval elt (compEnvC scope cl C env)) (EltPost s h₀ L m ((I, oI) :: (C, oC) :: (D, lst ys) :: news) (p i)) E' { s with heap := h, toks := tk })
    (fin : Fin ((List.range n).map fun i => .bool (p i)) news) : CompRest prog w A h₀ L m env elt x scope cl s S P Fin n 0 [] news := by
  have all : ∀ k i ys, i + k = n → ys = (List.range i).map (fun i => Value.bool (p i)) → CompRest prog w A h₀ L m env elt x scope cl s S P Fin k i ys news := by
    intro k
    induction k with
    | zero =>
      intro i ys hi hy
      obtain rfl : i = n := by omega
      subst hy
      exact CompRest.zero fin
    | succ k ih =>
      intro i ys hi hy
      refine CompRest.succ fun v I oI C oC D m₂ h tk E' hv hC hx F N off ne => ?_
      refine wpAny_mono (turn i v ys I oI C oC D m₂ h tk E' (by omega) hv hC hx F N) (fun y s' hy' => ?_) fun _ _ e => e
      obtain ⟨rfl, h', tk', rfl, F', N'⟩ := hy'
      exact ⟨h', tk', news, rfl, F', N', off, hS, ih (i + 1) _ (by omega) (by rw [hy, List.range_succ, List.map_append]; rfl)⟩
  exact all n 0 [] (by omega) rfl
theorem notIn_bools {D : Addr} {n k : Nat} {p : Nat → Bool} {news : List (Addr × Obj)} {Q : Value → Shared → Prop} (N : News h₀ L s.heap news) (hm : (D, listOf ((List.range n).map fun i => Value.bool (p i)).toArray k) ∈ news)
    (h : Q (.bool ((List.range n).all p)) s) : wpAny (model prog w) A (compareOp .NotIn (.bool false) (.ref D)) Q E s := by
  refine notIn_listAt (fun y => match y with | .bool b => b == false | _ => false) (isListN N hm) (fun y hy => ?_) ?_
  · obtain ⟨i, _, rfl⟩ : ∃ a, a < n ∧ Value.bool (p a) = y := by simpa using hy
    exact EqAt.bool_bool _ _
  · have e : (!(((List.range n).map fun i => Value.bool (p i)).toArray.any fun y => match y with | .bool b => b == false | _ => false)) = (List.range n).all p := by
      rw [List.any_toArray, List.any_map, List.not_any_eq_all_not]
      congr 1
      funext i
      simp
    rw [e]; exact h
theorem iterates_tup {a : Addr} {vs : List Value} {k : Nat} {s₁ : Shared} {news : List (Addr × Obj)} (hh : A.handled = none) (N : News h₀ L s₁.heap news) (hm : (a, tupO vs k) ∈ news) :
    Iterates prog w A E h₀ L vs.length (fun i v => vs[i]? = some v) (fun nw => (a, tupO vs k) ∈ nw) (.ref a) s₁ := by
  intro Q' hQ
  have hT := isTuple N hm
  have hlt := Heap.lt_size (N _ hm).1
  refine wpAny_pyIter_tuple hT ?_
  have W := Walks.tuple (prog := prog) (w := w) hh s₁.heap.objs.size a (Nat.ne_of_lt hlt) vs.toArray
  refine hQ _ _ _ s₁.toks { W with item := fun i s Q E hi st hq => W.item i s Q E (by simpa using hi) st fun v h' tk hv => hq v h' tk (by simpa using hv), done := fun s Q E st hq => W.done s Q E (by simpa using st) hq } (fun i h st => by obtain ⟨o, e, _⟩ := st.1; exact ⟨o, e⟩) (fun i h h' o nw st e e' _ N' hm' => ?_) ⟨⟨_, Heap.get?_push_size _ rfl, rfl, rfl⟩, hT.push _⟩ fun b hb => ?_
  · refine ⟨?_, _, (N' _ hm').1, rfl, k, rfl⟩
    obtain ⟨o', q, r⟩ := st.1
    rw [e] at q
    cases q
    exact ⟨o, e', r⟩
  · rw [Heap.size_push]
    rcases List.mem_cons.mp hb with rfl | hb
    · exact Nat.lt_succ_self _
    · rw [List.mem_singleton.mp hb]; exact Nat.lt_succ_of_lt hlt
theorem iterates_dic {a : Addr} {es : List DictEntry} {k : Nat} {s₁ : Shared} {news : List (Addr × Obj)} (hh : A.handled = none) (N : News h₀ L s₁.heap news) (hlo : (a == sysModules) = false) (hm : (a, dictOf es k) ∈ news) :
    Iterates prog w A E h₀ L es.length (fun i v => ∃ e, es[i]? = some e ∧ v = e.key) (fun nw => (a, dictOf es k) ∈ nw) (.ref a) s₁ := by
  intro Q' hQ
  have ho := (N _ hm).1
  have hlt := Heap.lt_size ho
  refine pyIter_dictX hlo ho rfl rfl ?_
  have W := walks_dictX (prog := prog) (w := w) hh s₁.heap.objs.size a (Nat.ne_of_lt hlt) es.toArray k
  refine hQ _ _ _ s₁.toks { W with item := fun i s Q E hi st hq => W.item i s Q E (by simpa using hi) st fun v h' tk hv => hq v h' tk (by simpa using hv), done := fun s Q E st hq => W.done s Q E (by simpa using st) hq } (fun i h st => by obtain ⟨o, e, _⟩ := st.1; exact ⟨o, e⟩) (fun i h h' o nw st e e' _ N' hm' => ?_) ⟨⟨_, Heap.get?_push_size _ rfl, rfl, rfl⟩, _, Heap.get?_push_of_some _ ho, rfl, rfl⟩ fun b hb => ?_
  · refine ⟨?_, _, (N' _ hm').1, rfl, rfl⟩
    obtain ⟨o', q, r⟩ := st.1
    rw [e] at q
    cases q
    exact ⟨o, e', r⟩
  · rw [Heap.size_push]
    rcases List.mem_cons.mp hb with rfl | hb
    · exact Nat.lt_succ_self _
    · rw [List.mem_singleton.mp hb]; exact Nat.lt_succ_of_lt hlt
theorem srcM_dic {elt : PySem.Expr} {x : Str} {scope : Scope} {cl : List (Str × Addr)} {Q : Value → Shared → Prop} {a : Addr} {es : List DictEntry} {k : Nat} {s₁ : Shared} {news : List (Addr × Obj)} (hh : A.handled = none) (F : Fr h₀ L s₁.heap m) (N : News h₀ L s₁.heap news) (hlo : (a == sysModules) = false) (hm : (a, dictOf es k) ∈ news) (hsz : es.length ≤ sizeLine)
    (R : ∀ g tk, CompRest prog w A h₀ L m env elt x scope cl { s₁ with heap := g, toks := tk } (fun nw => (a, dictOf es k) ∈ nw) (fun i v => ∃ e, es[i]? = some e ∧ v = e.key) (FinE h₀ L m { s₁ with heap := g, toks := tk } Q) es.length 0 [] news) :
    SrcM prog w A E h₀ L m env elt x scope cl Q (.ref a) s₁ := ⟨_, _, _, _, hsz, F, N, hm, iterates_dic hh N hlo hm, R⟩
theorem srcM_tup {elt : PySem.Expr} {x : Str} {scope : Scope} {cl : List (Str × Addr)} {Q : Value → Shared → Prop} {a : Addr} {vs : List Value} {k : Nat} {s₁ : Shared} {news : List (Addr × Obj)} (hh : A.handled = none) (F : Fr h₀ L s₁.heap m) (N : News h₀ L s₁.heap news) (hm : (a, tupO vs k) ∈ news) (hsz : vs.length ≤ sizeLine)
    (R : ∀ g tk, CompRest prog w A h₀ L m env elt x scope cl { s₁ with heap := g, toks := tk } (fun nw => (a, tupO vs k) ∈ nw) (fun i v => vs[i]? = some v) (FinE h₀ L m { s₁ with heap := g, toks := tk } Q) vs.length 0 [] news) :
    SrcM prog w A E h₀ L m env elt x scope cl Q (.ref a) s₁ := ⟨_, _, _, _, hsz, F, N, hm, iterates_tup hh N hm, R⟩
end
theorem off_top09 : True := by w_top off; trivial
local macro_rules | `(tactic| walk_at "ite") => `(tactic| (k_closed; k_dflt (first | refine ite_pos (by decide +kernel) ?_ | refine ite_neg (by decide +kernel) ?_)))
local macro_rules | `(tactic| walk_at "eval ListComp") => `(tactic| (k_here; k_dflt (refine ListComp_M (F₀ := by k_asm) (by rfl) (by decide) (by rfl) (by decide) (by rfl) ?_)))
local macro_rules | `(tactic| walk_at "call ref") => `(tactic| (k_here; k_dflt (
  ((with_reducible show wpAny _ _ (call (Value.ref 181) _) _ _ _); refine' c_law_key ?_ ?_ ?_ ?_ ?_ ?_ ?_ ?_ ?_ ?_; walk_at "m t")); intro _ _ _ _; (try k_fold)))
section
variable {l : Bool} {d : T} {names : List Str}
theorem fitR_e1 (h : isPair d = true) (h1 : inStrs names (fst d) = true) (h2 : isInt (.el (snd d)) = true) : geD 1 (.el (snd d)) = isReg names d := by simp [isReg, *]
theorem fitL_e3 (h : isInt d = false) : isInt d = isTgt l d := by simp [isTgt, isInt_no h, h]
theorem fitF_e2 (h : isInt d = false) : isInt d = geD 0 d := by simp [isInt_no h, h]
end
theorem c_law_fitsR {news} {v} {d} {t : Tok} {l : Bool} (h : Den news v d) : Spec 2 186 news [v, .str "R" t, .bool l] (isReg ["x", "y"] d) := by
  intro prog w p loose mean mg mb dp un gd cn cs a ccd cl outer A₀ base h₀ L m s Q E B F X N T hk hd hu hret 
  refine wpAny_call ?_
  k_dflt tb_start
  k_steps
  all_goals refine ret_b hret (by k_asm) (by k_asm) (by intro q hq; k_mem) ?_
  all_goals first | exact reg_e1 (by assumption) (by assumption) (by assumption) | exact reg_e2 (by assumption) (by assumption) (by assumption) | exact reg_e3 (by assumption) (by assumption) | exact reg_e4 (by assumption)
theorem c_law_fitsX {news} {v} {d} {t : Tok} {l : Bool} (h : Den news v d) : Spec 2 186 news [v, .str "X" t, .bool l] (isReg ["x"] d) := by
  intro prog w p loose mean mg mb dp un gd cn cs a ccd cl outer A₀ base h₀ L m s Q E B F X N T hk hd hu hret 
  refine wpAny_call ?_
  k_dflt tb_start
  k_steps
  all_goals refine ret_b hret (by k_asm) (by k_asm) (by intro q hq; k_mem) ?_
  all_goals first | exact reg_e1 (by assumption) (by assumption) (by assumption) | exact reg_e2 (by assumption) (by assumption) (by assumption) | exact reg_e3 (by assumption) (by assumption) | exact reg_e4 (by assumption)
theorem c_law_fitsY {news} {v} {d} {t : Tok} {l : Bool} (h : Den news v d) : Spec 2 186 news [v, .str "Y" t, .bool l] (isReg ["y"] d) := by
  intro prog w p loose mean mg mb dp un gd cn cs a ccd cl outer A₀ base h₀ L m s Q E B F X N T hk hd hu hret 
  refine wpAny_call ?_
  k_dflt tb_start
  k_steps
  all_goals refine ret_b hret (by k_asm) (by k_asm) (by intro q hq; k_mem) ?_
  all_goals first | exact reg_e1 (by assumption) (by assumption) (by assumption) | exact reg_e2 (by assumption) (by assumption) (by assumption) | exact reg_e3 (by assumption) (by assumption) | exact reg_e4 (by assumption)
theorem c_law_fitsL {news} {v} {d} {t : Tok} {l : Bool} (h : Den news v d) : Spec 2 186 news [v, .str "L" t, .bool l] (isTgt l d) := by
  intro prog w p loose mean mg mb dp un gd cn cs a ccd cl outer A₀ base h₀ L m s Q E B F X N T hk hd hu hret 
  refine wpAny_call ?_
  k_dflt tb_start
  k_steps
  all_goals refine ret_b hret (by k_asm) (by k_asm) (by intro q hq; k_mem) ?_
  all_goals first | exact tgt_e1 (by assumption) (by assumption) | exact tgt_e2 (by assumption) (by assumption) | exact fitL_e3 (by assumption) | trace_state
theorem c_law_fitsC {news} {v} {d} {t : Tok} {l : Bool} (h : Den news v d) : Spec 3 186 news [v, .str "C" t, .bool l] (lKey true d) := by
  intro prog w p loose mean mg mb dp un gd cn cs a ccd cl outer A₀ base h₀ L m s Q E B F X N T hk hd hu hret 
  refine wpAny_call ?_
  k_dflt tb_start
  k_steps
  all_goals refine ret_b hret (by k_asm) (by k_asm) (by intro q hq; k_mem) ?_
  all_goals first | rfl | trace_state
theorem c_law_fitsF {news} {v} {d} {t : Tok} {l : Bool} (h : Den news v d) : Spec 2 186 news [v, .str "F" t, .bool l] (geD 0 d) := by
  intro prog w p loose mean mg mb dp un gd cn cs a ccd cl outer A₀ base h₀ L m s Q E B F X N T hk hd hu hret 
  refine wpAny_call ?_
  k_dflt tb_start
  k_steps
  all_goals refine ret_b hret (by k_asm) (by k_asm) (by intro q hq; k_mem) ?_
  all_goals first | rfl | exact fitF_e2 (by assumption) | trace_state
theorem c_law_fitsN {news} {v} {d} {t : Tok} {l : Bool} (h : Den news v d) : Spec 2 186 news [v, .str "N" t, .bool l] (geD 0 d) := by
  intro prog w p loose mean mg mb dp un gd cn cs a ccd cl outer A₀ base h₀ L m s Q E B F X N T hk hd hu hret 
  refine wpAny_call ?_
  k_dflt tb_start
  k_steps
  all_goals refine ret_b hret (by k_asm) (by k_asm) (by intro q hq; k_mem) ?_
  all_goals first | rfl | exact fitF_e2 (by assumption) | trace_state
theorem off_top10 : True := by w_top off; trivial
local macro_rules | `(tactic| walk_at "compareOp NotIn bool ref") => `(tactic| (k_here; (with_reducible show wpAny _ _ (compareOp CmpOp.NotIn (Value.bool false) (Value.ref _)) _ _ _); k_dflt (refine' notIn_bools ?N ?m ?_; (case N => k_asm); (case m => k_mem); k_whole)))
local macro_rules | `(tactic| walk_at "call ref") => `(tactic| (k_here; k_dflt (
  ((with_reducible show wpAny _ _ (call (Value.ref 186) [_, Value.str (Str.ofString "L") _, Value.bool _]) _ _ _); refine' c_law_fitsL ?_ ?_ ?_ ?_ ?_ ?_ ?_ ?_ ?_ ?_; walk_at "m t")); intro _ _ _ _; (try k_fold)))
noncomputable def lPair (k : Bool) (e : D) : Bool := isPair (.el e) && lKey k (.el (fst (.el e))) && isTgt false (.el (snd (.el e)))
noncomputable def lEnt (k : Bool) (e : D × D) : Bool := lKey k (.el e.1) && isTgt true (.el e.2)
noncomputable def atL {α : Type} (q : α → Bool) (l : List α) (i : Nat) : Bool := match l[i]? with
  | some e => q e
  | none => false
theorem all_atL {α : Type} (q : α → Bool) (l : List α) : (List.range l.length).all (atL q l) = l.all q := by
  rw [Bool.eq_iff_iff, List.all_eq_true, List.all_eq_true]
  constructor
  · intro h e he
    obtain ⟨i, hi⟩ := List.getElem?_of_mem he
    have := h i (List.mem_range.mpr (List.getElem?_eq_some_iff.mp hi).1)
    simpa [atL, hi] using this
  · intro h i hi
    have hi := List.mem_range.mp hi
    simp only [atL, List.getElem?_eq_getElem hi]
    exact h _ (List.getElem_mem hi)
noncomputable def lTab (k l : Bool) (d : T) : Bool := bif l then isDic d && (ents d).all (lEnt k) else isTupT d && (items d).all (lPair k)
section
variable {k : Bool} {e : D}
theorem lp_e1 (h1 : isPair (.el e) = true) (h2 : lKey k (.el (fst (.el e))) = true) : isTgt false (.el (snd (.el e))) = lPair k e := by simp [lPair, *]
theorem lp_e2 (h1 : isPair (.el e) = true) (h2 : lKey k (.el (fst (.el e))) = false) : lKey k (.el (fst (.el e))) = lPair k e := by simp [lPair, *]
theorem lp_e3 (h1 : isPair (.el e) = false) : isPair (.el e) = lPair k e := by simp [lPair, *]
end
theorem lent_e1 {k : Bool} {a b : D} (h2 : lKey k (.el a) = true) : isTgt true (.el b) = lEnt k (a, b) := by simp [lEnt, *]
theorem lent_e2 {k : Bool} {a b : D} (h2 : lKey k (.el a) = false) : lKey k (.el a) = lEnt k (a, b) := by simp [lEnt, *]
theorem ltab_e1 {k l : Bool} {d : T} (hl : l = true) (ht : isDic d = false) : false = lTab k l d := by rw [lTab, hl, ht]; rfl
theorem ltab_e2 {k l : Bool} {d : T} (hl : l = false) (ht : isTupT d = false) : false = lTab k l d := by rw [lTab, hl, ht]; rfl
theorem ltab_e3 {k l : Bool} {ds : List D} {n : Nat} (hl : l = false) (hn : n = ds.length) : (List.range n).all (atL (lPair k) ds) = lTab k l (.el (.tup ds)) := by rw [lTab, hl, hn, all_atL]; rfl
theorem ltab_e4 {k l : Bool} {es : List (D × D)} (hl : l = true) : (List.range es.length).all (atL (lEnt k) es) = lTab k l (.dic es) := by rw [lTab, hl, all_atL]; rfl
theorem c_law_fitsT {news} {v} {d} {t : Tok} {l : Bool} (h : Den news v d) : Spec 3 186 news [v, .str "T" t, .bool l] (lTab (("T" : Str) == "T") l d) := by
  intro prog w p loose mean mg mb dp un gd cn cs a ccd cl outer A₀ base h₀ L m s Q E B F X N T hk hd hu hret 
  refine wpAny_call ?_
  k_dflt tb_start
  k_steps
  · rename l = true => hl
    rename isDic d = true => ht
    rename Fr _ _ _ _ => lF2
    rename News _ _ _ _ => lN2
    cases h with
    | el => cases ht
    | lst => cases ht
    | dic0 hlo hm =>
      refine srcM_dic rfl lF2 lN2 hlo (by k_mem) (by decide) ?_
      intro g tk
      refine rest_bool (atL (lEnt (("T" : Str) == "T")) []) (by k_mem) ?turn0 ?fin0
      case turn0 =>
        intro i u ys I oI C oC D' m₂ h1 tk1 E' hi
        exact absurd hi (Nat.not_lt_zero _)
      case fin0 =>
        k_steps
        exact ret_b hret (by k_asm) (by k_asm) (by intro q hq; k_mem) (ltab_e4 (es := []) hl)
    | @dic1 a1 n1 kv vv kd vd hlo hm hok hk1 hv1 =>
      refine srcM_dic (es := [⟨hashD kd, kv, vv⟩]) rfl lF2 lN2 hlo (by k_mem) (show 1 ≤ sizeLine by decide) ?_
      intro g tk
      refine rest_bool (atL (lEnt (("T" : Str) == "T")) [(kd, vd)]) (by k_mem) ?turn1 ?fin1
      case turn1 =>
        intro i u ys I oI C oC D' m₂ h1 tk1 E' hi hu1 hC hx1 F1 N1
        obtain rfl : i = 0 := Nat.lt_one_iff.mp hi
        obtain ⟨e, he, rfl⟩ := hu1
        cases he
        dsimp only at hx1
        k_steps
        · exact EltPost.intro (by k_asm) (by k_asm) (lent_e1 (by assumption))
        · exact EltPost.intro (by k_asm) (by k_asm) (lent_e2 (by assumption))
      case fin1 =>
        k_steps
        exact ret_b hret (by k_asm) (by k_asm) (by intro q hq; k_mem) (ltab_e4 (es := [(kd, vd)]) hl)
  · exact ret_b hret (by k_asm) (by k_asm) (by intro q hq; k_mem) (ltab_e1 (by assumption) (by assumption))
  · rename l = false => hl
    rename isTupT d = true => ht
    obtain ⟨a1, vs, n1, ds, rfl, rfl, hm, hln, hD⟩ := isTupT_inv h ht
    rename Fr _ _ _ _ => lF2
    rename News _ _ _ _ => lN2
    refine srcM_tup rfl lF2 lN2 (by k_mem) (Nat.le_trans hln (by decide)) ?_
    intro g tk
    refine rest_bool (atL (lPair (("T" : Str) == "T")) ds) (by k_mem) ?turn ?fin
    case turn =>
      intro i u ys I oI C oC D' m₂ h1 tk1 E' hi hu1 hC hx1 F1 N1
      obtain ⟨e, he, hde⟩ := hD.get hu1
      simp only [atL, he]
      k_steps
      · exact EltPost.intro (by k_asm) (by k_asm) (lp_e1 (by assumption) (by assumption))
      · exact EltPost.intro (by k_asm) (by k_asm) (lp_e2 (by assumption) (by assumption))
      · exact EltPost.intro (by k_asm) (by k_asm) (lp_e3 (by assumption))
    case fin =>
      k_steps
      exact ret_b hret (by k_asm) (by k_asm) (by intro q hq; k_mem) (ltab_e3 hl hD.length)
  · exact ret_b hret (by k_asm) (by k_asm) (by intro q hq; k_mem) (ltab_e2 (by assumption) (by assumption))
theorem c_law_fitsU {news} {v} {d} {t : Tok} {l : Bool} (h : Den news v d) : Spec 3 186 news [v, .str "U" t, .bool l] (lTab (("U" : Str) == "T") l d) := by
  intro prog w p loose mean mg mb dp un gd cn cs a ccd cl outer A₀ base h₀ L m s Q E B F X N T hk hd hu hret 
  refine wpAny_call ?_
  k_dflt tb_start
  k_steps
  · rename l = true => hl
    rename isDic d = true => ht
    rename Fr _ _ _ _ => lF2
    rename News _ _ _ _ => lN2
    cases h with
    | el => cases ht
    | lst => cases ht
    | dic0 hlo hm =>
      refine srcM_dic rfl lF2 lN2 hlo (by k_mem) (by decide) ?_
      intro g tk
      refine rest_bool (atL (lEnt (("U" : Str) == "T")) []) (by k_mem) ?turn0 ?fin0
      case turn0 =>
        intro i u ys I oI C oC D' m₂ h1 tk1 E' hi
        exact absurd hi (Nat.not_lt_zero _)
      case fin0 =>
        k_steps
        exact ret_b hret (by k_asm) (by k_asm) (by intro q hq; k_mem) (ltab_e4 (es := []) hl)
    | @dic1 a1 n1 kv vv kd vd hlo hm hok hk1 hv1 =>
      refine srcM_dic (es := [⟨hashD kd, kv, vv⟩]) rfl lF2 lN2 hlo (by k_mem) (show 1 ≤ sizeLine by decide) ?_
      intro g tk
      refine rest_bool (atL (lEnt (("U" : Str) == "T")) [(kd, vd)]) (by k_mem) ?turn1 ?fin1
      case turn1 =>
        intro i u ys I oI C oC D' m₂ h1 tk1 E' hi hu1 hC hx1 F1 N1
        obtain rfl : i = 0 := Nat.lt_one_iff.mp hi
        obtain ⟨e, he, rfl⟩ := hu1
        cases he
        dsimp only at hx1
        k_steps
        · exact EltPost.intro (by k_asm) (by k_asm) (lent_e1 (by assumption))
        · exact EltPost.intro (by k_asm) (by k_asm) (lent_e2 (by assumption))
      case fin1 =>
        k_steps
        exact ret_b hret (by k_asm) (by k_asm) (by intro q hq; k_mem) (ltab_e4 (es := [(kd, vd)]) hl)
  · exact ret_b hret (by k_asm) (by k_asm) (by intro q hq; k_mem) (ltab_e1 (by assumption) (by assumption))
  · rename l = false => hl
    rename isTupT d = true => ht
    obtain ⟨a1, vs, n1, ds, rfl, rfl, hm, hln, hD⟩ := isTupT_inv h ht
    rename Fr _ _ _ _ => lF2
    rename News _ _ _ _ => lN2
    refine srcM_tup rfl lF2 lN2 (by k_mem) (Nat.le_trans hln (by decide)) ?_
    intro g tk
    refine rest_bool (atL (lPair (("U" : Str) == "T")) ds) (by k_mem) ?turn ?fin
    case turn =>
      intro i u ys I oI C oC D' m₂ h1 tk1 E' hi hu1 hC hx1 F1 N1
      obtain ⟨e, he, hde⟩ := hD.get hu1
      simp only [atL, he]
      k_steps
      · exact EltPost.intro (by k_asm) (by k_asm) (lp_e1 (by assumption) (by assumption))
      · exact EltPost.intro (by k_asm) (by k_asm) (lp_e2 (by assumption) (by assumption))
      · exact EltPost.intro (by k_asm) (by k_asm) (lp_e3 (by assumption))
    case fin =>
      k_steps
      exact ret_b hret (by k_asm) (by k_asm) (by intro q hq; k_mem) (ltab_e3 hl hD.length)
  · exact ret_b hret (by k_asm) (by k_asm) (by intro q hq; k_mem) (ltab_e2 (by assumption) (by assumption))
theorem off_top11 : True := by w_top off; trivial
theorem wider {α : Type} {M : Model} {A A' : Around} {t : Sem α} {Q : α → Shared → Prop} {E : Value → Shared → Prop} {s : Shared} (h : wpAny M A' t Q E s) (h1 : A'.handled = A.handled) (h2 : A.depth ≤ A'.depth) (h3 : A'.frames = A.frames) (h4 : A'.guards = A.guards) (h5 : A.units ≤ A'.units) : wpAny M A t Q E s :=
  fun Γ p hΓ => h Γ p ⟨h1 ▸ hΓ.1, Nat.le_trans hΓ.2.1 h2, h3 ▸ hΓ.2.2.1, h4 ▸ hΓ.2.2.2.1, Nat.le_trans hΓ.2.2.2.2 h5⟩
theorem condFn_ite {α : Type} (b : Bool) (x y : α) : PySem.W.X.condFn α b x y = if b = true then x else y := by cases b <;> rfl
theorem beqQ (a b : Int) : @BEq.beq Int (@instBEqOfDecidableEq Int PySem.W.X.eqQ) a b = @BEq.beq Int (@instBEqOfDecidableEq Int Int.instDecidableEq) a b := by rw [← PySem.W.X.eqQ_eq]
theorem xw_hash : PySem.W.XFast.xw12210062019545310541 = reduceHash := by
  funext i
  unfold PySem.W.XFast.xw12210062019545310541 reduceHash
  simp only [condFn_ite]
  by_cases h1 : -2^63 ≤ i <;> by_cases h2 : i < 2^63 <;> by_cases h3 : i < 0 <;> simp only [h1, h2, h3, decide_true, decide_false, Bool.and_true, Bool.and_false, if_true, if_false, Bool.false_eq_true] <;> rw [beqQ] <;> rfl
theorem what_hash (w : World) : PySem.W.X.condFn Int ("what" : Str).cps.isEmpty 0 (PySem.W.XFast.xw12210062019545310541 (w.params.strHash ("what":Str).cps)) = PyData.keyHash w.params "what" := by rw [xw_hash]; rfl
section
open PySem.W.X PySem.W.XRun
noncomputable def LFTo (w : World) (msg : Str) (t : Tok) (s : Shared) (Q : Value → Shared → Prop) : Prop := ∀ (e tp fr dx : Addr) (h' : Heap) (fo : Obj) (t1 : Tok) (tk : Nat) (hs : Int), hs = PyData.keyHash w.params "what" → PySem.W.X.Mem s.heap h' [] [(dx, dictOf [⟨hs, .str "what" t1, .str msg t⟩] 1), (fr, fo), (e, ({ cls := .ref 45, dict := some dx, data := .fields #[.ref tp, .none, .none, .none, .bool false, .none] } : Obj)), (tp, ({ cls := .type "tuple", data := .seq #[.str msg t] } : Obj))] → Q (.ref e) { s with heap := h', toks := tk }
theorem LFTo.use {w : World} {msg : Str} {t : Tok} {s : Shared} {Q : Value → Shared → Prop} (hQ : LFTo w msg t s Q) : ∀ (e tp fr dx : Addr) (h' : Heap) (fo : Obj) (t1 : Tok) (tk : Nat) (hs : Int), hs = PyData.keyHash w.params "what" → PySem.W.X.Mem s.heap h' [] [(dx, dictOf [⟨hs, .str "what" t1, .str msg t⟩] 1), (fr, fo), (e, ({ cls := .ref 45, dict := some dx, data := .fields #[.ref tp, .none, .none, .none, .bool false, .none] } : Obj)), (tp, ({ cls := .type "tuple", data := .seq #[.str msg t] } : Obj))] → Q (.ref e) { s with heap := h', toks := tk } := hQ
local macro_rules | `(tactic| x_close) => `(tactic| exact LFTo.use (by with_reducible assumption) _ _ _ _ _ _ _ _ _ (what_hash _) (by assumption))
theorem call_LF0 {prog : Program} {w : World} {fr : Option (List Env)} {gd : Option (List Code)} {Q E : Value → Shared → Prop} {s : Shared} {msg : Str} {t : Tok} (X : (hd.heap_39 w.params).In s.heap)
   (hQ : LFTo w msg t s Q)
   : wpAny (model prog w) { handled := none, depth := 980, frames := fr, guards := gd, units := 9676 } (call (.ref 45) [.str msg t]) Q E s := by
  x_run
end
section
variable {prog : Program} {w : World} {A : Around} {E : Value → Shared → Prop} {s : Shared} {K : Frag} {x C : Addr} {ox : Obj} {od : Option Obj} {name : Str} {expr : Bool} {Q : Value → Shared → Prop}
theorem get_exc {v : Value} (X : K.In s.heap) (I : InstAt s.heap x ox C od) (hga : findIn K (.ref C) "__getattribute__" = some (some (.builtin "BaseException.__getattribute__")))
    (hgt : findIn K (.ref C) "__getattr__" = some none) (hb : mroIn K C (.type "BaseException") = some true)
    (hf : findObj K C od name = some (.value v)) (hh : handedIn v = true) (h : Q v { s with toks := s.toks + 1 }) : wpAny (model prog w) A (getAttr (.ref x) name expr) Q E s := by
  obtain ⟨hp, g, d, t, os⟩ := s
  have L0 := I.type (M := model prog w)
  have L1 := looks_findIn (M := model prog w) X hga
  have L2 := looks_findIn (M := model prog w) X hgt
  have L3 := looks_mroIn (M := model prog w) X hb
  have L4 := looks_find (M := model prog w) X I hf
  have hx0 : (expr && onTheHeap (Value.builtin "BaseException.__getattribute__")) = false := by cases expr <;> rfl
  have hx2 : (Value.builtin "BaseException.__getattribute__" == Value.builtin "object.__getattribute__") = false := by decide +kernel
  have hk : builtinKind "BaseException.__getattribute__" = some .slot := by decide +kernel
  have hsplit : splitId "BaseException.__getattribute__" = some ("BaseException", "__getattribute__") := by decide +kernel
  have hop : withoutEnding? "BaseException.__getattribute__" "#opaque" = none := by decide +kernel
  have hdat : withoutEnding? "BaseException.__getattribute__" "#data" = none := by decide +kernel
  have hp0 : plainId "BaseException.__getattribute__" = true := by decide +kernel
  have f3 : bindSpecial (.builtin "BaseException.__getattribute__") (.ref x) = pure (.builtin "BaseException.__getattribute__", [.ref x]) := by
    simp only [bindSpecial, typeOf, builtinType, hop, hdat, hk]; rfl
  have ha := F.args_bexc_ga (.ref x) (.str name t)
  unfold getAttr getAttrBy
  refine wpAny_bind (wpAny_mkText (wpAny_holding (wpAny_bind (L0.at (wpAny_bind (L1.at ?_))))))
  dsimp only
  rw [hx2, Bool.and_false]
  show wpAny _ _ (getAttrByItsOwn _ _ _ _ _ _) _ _ _
  unfold getAttrByItsOwn hookBefore callGetattribute boundAndCalled
  rw [hx0]
  refine wpAny_bind (L2.at ?_)
  refine wpAny_bind (wpAny_attempt (wpAny_holding ?_))
  show wpAny _ _ (bindSpecial _ _ >>= _) _ _ _
  rw [f3]
  refine wpAny_bind (wpAny_pure ?_)
  refine wpAny_call (codeAny_call_builtin hp0 F.entry_bexc_ga ?_)
  simp only [checkBuiltinCall, hk, hsplit]
  refine wpAny_bind ?_
  unfold isInstance
  refine wpAny_bind (L0.at (L3.at ?_))
  rw [if_neg (by decide)]
  have step : ∀ (Q' : Unit → Shared → Prop) (E' : Value → Shared → Prop), Q' () ⟨hp, g, d, t + 1, os⟩ → wpAny (model prog w) A.in1 (match Manifest.signature? "BaseException.__getattribute__" with
      | some sig => Bind.checkArgs "BaseException.__getattribute__" sig { pos := [Value.ref x] ++ [Value.str name t] }
      | x => pure ()) Q' E' ⟨hp, g, d, t + 1, os⟩ := by
    intro Q' E' hq
    cases hsig : Manifest.signature? "BaseException.__getattribute__" with
    | none => exact wpAny_pure hq
    | some sig =>
      simp only [argsOk, hsig] at ha
      have h2 : Bind.checkArgs "BaseException.__getattribute__" sig ⟨[.ref x, .str name t], []⟩ = pure () := ha
      show wpAny _ _ (Bind.checkArgs "BaseException.__getattribute__" sig ⟨[.ref x, .str name t], []⟩) _ _ _
      rw [h2]; exact wpAny_pure hq
  refine step _ _ ?_
  refine wpAny_bind (wpAny_pure ?_)
  refine wpAny_bind (wpAny_pure (wpAny_bind (L0.at (wpAny_bind (L4.at ?_)))))
  refine wpAny_pure ?_
  show wpAny _ _ (handedOut v) _ _ _
  rw [handedOut_of hh]; exact wpAny_pure h
end
noncomputable def lfDict (w : World) (t1 : Tok) (msg : Str) (t : Tok) : Obj := dictOf [⟨PyData.keyHash w.params "what", .str "what" t1, .str msg t⟩] 1
theorem get_what {prog : Program} {w : World} {A : Around} {E : Value → Shared → Prop} {s : Shared} {e dx : Addr} {oe : Obj} {vs : Array Value} {t1 t : Tok} {msg : Str} {expr : Bool} {Q : Value → Shared → Prop} (X : (hd.heap_39 w.params).In s.heap)
    (he : s.heap.get? e = some oe) (hc : oe.cls = .ref 45) (hx : oe.dict = some dx) (hdt : oe.data = .fields vs) (hdx : s.heap.get? dx = some (lfDict w t1 msg t)) (h : ∀ tk, Q (.str msg t) { s with toks := tk }) :
    wpAny (model prog w) A (getAttr (.ref e) "what" expr) Q E s :=
  get_exc (od := some (lfDict w t1 msg t)) X ⟨he, hc, by unfold notCls; rw [hdt], by rw [hx]; exact hdx⟩ (by kernel_rfl) (by kernel_rfl) (by kernel_rfl) (findObj_own (attr := none) (by kernel_rfl) (by kernel_rfl) rfl (by kernel_rfl)) rfl (h _)
noncomputable def NewLF (h₀ h : Heap) (e dx : Addr) (led : List (Addr × Obj)) : Prop := (∀ q ∈ led, q.1 ≠ e) ∧ h₀.get? e = none ∧ ∃ oe vs, h.get? e = some oe ∧ oe.cls = .ref 45 ∧ oe.dict = some dx ∧ oe.data = .fields vs ∧ vs[1]? = some .none
theorem c_LF {prog : Program} {w : World} {A : Around} {Q E : Value → Shared → Prop} {s : Shared} {h₀ : Heap} {L : Addr} {m : Str → Option Value} {news : List (Addr × Obj)} {msg : Str} {t : Tok} (hA : A.handled = none) (hdp : A.depth ≤ 980) (hu : A.units ≤ 9676)
    (F : Fr h₀ L s.heap m) (X : (hd.heap_39 w.params).In h₀) (N : News h₀ L s.heap news)
    (hQ : ∀ e dx t1 h' tk, Fr h₀ L h' m → News h₀ L h' ((dx, lfDict w t1 msg t) :: news) → NewLF h₀ h' e dx ((dx, lfDict w t1 msg t) :: news) → Q (.ref e) { s with heap := h', toks := tk }) : wpAny (model prog w) A (call (.ref 45) [.str msg t]) Q E s := by
  refine wider (call_LF0 (fr := A.frames) (gd := A.guards) (X.keeps F.keep) fun e tp fr dx h' fo t1 tk hs hh D => ?_) hA.symm hdp rfl rfl hu
  subst hh
  have keep : ∀ b o, s.heap.get? b = some o → h'.get? b = some o := fun b o q => D.keep b o q (by simp [PySem.W.X.away])
  have sd := (D.nw _ (.head _)).2
  have se := (D.nw _ (.tail _ (.tail _ (.head _)))).2
  have old : ∀ b, s.heap.get? b = none → h₀.get? b = none := fun b q => kts_none F.keep q
  have lt : ∀ b, s.heap.get? b = none → b ≠ L := fun b q z => by
    obtain ⟨oL, es, ep, hL, _⟩ := F.ns
    rw [z, hL] at q; cases q
  refine hQ e dx t1 h' tk (F.keeps keep) (fun q hq => ?_) ⟨fun q hq => ?_, old _ se, _, _, (D.nw _ (.tail _ (.tail _ (.head _)))).1, rfl, rfl, rfl, rfl⟩
  · rcases List.mem_cons.mp hq with rfl | hq
    · exact ⟨(D.nw _ (.head _)).1, lt _ sd, old _ sd⟩
    · exact ⟨keep _ _ (N q hq).1, (N q hq).2⟩
  · rcases List.mem_cons.mp hq with rfl | hq
    · exact D.ne 0 2 _ _ _ _ rfl rfl rfl
    · intro z
      have := (N q hq).1
      rw [z, se] at this
      cases this
theorem off_top12 : True := by w_top off; trivial
noncomputable def FlyD (B : Heap) (l : List Env) (e dx : Addr) (x : Option Value) (h : Heap) : Prop :=
  B.StaysIn h ∧ B.get? e = none ∧ h.FunFrames B l ∧ ∃ oe vs, h.get? e = some oe ∧ oe.cls = .ref 45 ∧ oe.dict = some dx ∧ oe.data = .fields vs ∧
    match x with
    | none => vs[1]? = some .none
    | some fl => ∃ T oT ts, vs[1]? = some (.ref T) ∧ B.get? T = none ∧ T ≠ e ∧ h.get? T = some oT ∧ oT.data = .fields ts ∧ ts[3]? = some fl
theorem dict_mapFields (o : Obj) (f) : (o.mapFields f).dict = o.dict := by
  obtain ⟨c, d, dt, sl⟩ := o
  cases dt <;> rfl
theorem no_rec {h : Heap} {b e : Addr} {o oe : Obj} {vs : Array Value} (hb : h.get? b = some o) (hn : ∀ vs, o.data ≠ .fields vs) (he : h.get? e = some oe) (hd : oe.data = .fields vs) : b ≠ e := fun q => by
  rw [q, he] at hb
  cases hb
  exact hn vs hd
section
variable {M : Model} {A : Around} {E : Value → Shared → Prop} {s : Shared} {B : Heap} {env : Env} {l outer : List Env} {L e dx : Addr} {Q : Unit → Shared → Prop}
/-- a new row of the traceback is laid -/
theorem entryD {oe : Obj} {vs : Array Value} {head : Value} {hadNext : Bool} (hfr : A.frames = some (env :: outer)) (hf : env.frame = some L) (st : B.StaysIn s.heap) (ne : B.get? e = none) (fr : s.heap.FunFrames B (env :: outer))
    (he : s.heap.get? e = some oe) (hc : oe.cls = .ref 45) (hx : oe.dict = some dx) (hd : oe.data = .fields vs) (h1 : 1 < vs.size)
    (h : ∀ h', FlyD B (env :: outer) e dx (some (rawInt L)) h' → s.heap.UpToSlots h' → Q () { s with heap := h' }) :
    wpAny M A (do let a ← frameOf env; let pl ← entryPlaceOf L hadNext; let b ← EntryCells.newEntry head a .none (rawInt L) .none pl; setField (.ref e) 1 b) Q E s := by
  have off : e ∉ (env :: outer).filterMap (·.frame) := fun hm => by
    obtain ⟨_, o, ho, hn⟩ := fr.mem hm
    exact no_rec ho hn he hd rfl
  refine wpAny_bind (wpAny_frameOf_fun hfr fr hf fun g sg => wpAny_bind (wpAny_entryPlaceOf fun pl hpl => ?_))
  unfold EntryCells.newEntry newFields
  refine wpAny_bind (wpAny_newObj_type ?_ (hpl.sizeOk5 _ _ _ _ _))
  have stay : ∀ b o, B.get? b = some o → g.get? b = some o := fun b o q => (sg.2.1 b fun hm => by rw [(fr.mem hm).1] at q; cases q).trans (st b o q)
  have he₁ : g.get? e = some oe := (sg.2.1 e off).trans he
  generalize hO : ({ cls := .type "traceback", dict := none, data := .fields ([head, .ref L, .none, rawInt L, .none] ++ (if pl.isEmpty then List.replicate 6 Value.none else pl)).toArray } : Obj) = O
  have hOd : ∃ ts, O.data = .fields ts ∧ ts[3]? = some (rawInt L) := ⟨_, by rw [← hO], by simp⟩
  have hOf : O.isFreed = false := by rw [← hO]; rfl
  have he₂ : (g.push O).get? e = some oe := Heap.get?_push_of_some O he₁
  have hT₂ : (g.push O).get? g.objs.size = some O := Heap.get?_push_size g hOf
  have neT : e ≠ g.objs.size := Nat.ne_of_lt (Heap.lt_size he₁)
  refine wpAny_setField he₂ hd h1 (h _ ?_ ?_)
  · have up : ∀ b o, s.heap.get? b = some o → (∀ vs, o.data ≠ .fields vs) → ∃ sl, ((g.push O).update e (Obj.mapFields (·.setIfInBounds 1 (.ref g.objs.size)))).get? b = some { o with slots := sl } := fun b o hb hn => by
      obtain ⟨sl, hs⟩ := sg.2.2 b o hb
      exact ⟨sl, by rw [Heap.get?_update_other _ _ (Ne.symm (no_rec hb hn he hd))]; exact Heap.get?_push_of_some _ hs⟩
    refine ⟨fun b o q => ?_, ne, fr.of_keeps fun b o hb hn => ?_, _, _, Heap.get?_update_self _ he₂ (Obj.isFreed_of_fields (Obj.data_mapFields hd _)), (Obj.cls_mapFields _ _).trans hc, (dict_mapFields _ _).trans hx, Obj.data_mapFields hd _, g.objs.size, O, ?_⟩
    · rw [Heap.get?_update_other _ _ (fun z : e = b => by rw [← z, ne] at q; cases q)]
      exact Heap.get?_push_of_some _ (stay b o q)
    · obtain ⟨sl, hs⟩ := up b o hb hn
      exact ⟨_, hs, rfl⟩
    · obtain ⟨ts, hts, h3⟩ := hOd
      refine ⟨ts, by simp [h1], ?_, Ne.symm neT, (Heap.get?_update_other _ _ neT).trans hT₂, hts, h3⟩
      cases q : B.get? g.objs.size with
      | none => rfl
      | some o => exact absurd (Heap.lt_size (stay _ _ q)) (Nat.lt_irrefl _)
  · intro b o hb hn
    obtain ⟨sl, hs⟩ := sg.2.2 b o hb
    exact ⟨sl, by show ((g.push O).update e _).get? b = _; rw [Heap.get?_update_other _ _ (Ne.symm (no_rec hb hn he hd))]; exact Heap.get?_push_of_some _ hs⟩
/-- a field of the traceback's row is set: nothing else moves -/
theorem setTb {T : Addr} {oT oe : Obj} {ts vs : Array Value} {fl v : Value} (st : B.StaysIn s.heap) (ne : B.get? e = none) (fr : s.heap.FunFrames B l) (he : s.heap.get? e = some oe) (hc : oe.cls = .ref 45) (hx : oe.dict = some dx) (hd : oe.data = .fields vs)
    (h1 : vs[1]? = some (.ref T)) (nT : B.get? T = none) (hTe : T ≠ e) (hT : s.heap.get? T = some oT) (hdT : oT.data = .fields ts) (h3 : ts[3]? = some fl)
    (h : ∀ h', FlyD B l e dx (some v) h' → s.heap.UpToSlots h' → Q () { s with heap := h' }) : wpAny M A (setField (.ref T) 3 v) Q E s := by
  have other : ∀ b, b ≠ T → (s.heap.update T (Obj.mapFields (·.setIfInBounds 3 v))).get? b = s.heap.get? b := fun b hb => Heap.get?_update_other _ _ (Ne.symm hb)
  have sz := (Array.getElem?_eq_some_iff.mp h3).1
  refine wpAny_setField hT hdT sz (h _ ⟨fun b o q => (other b fun z => by rw [z, nT] at q; cases q).trans (st b o q), ne, fr.of_keeps fun b o hb hn => ⟨o, (other b (no_rec hb hn hT hdT)).trans hb, rfl⟩, oe, vs, (other e (Ne.symm hTe)).trans he, hc, hx, hd, T, _, _, h1, nT, hTe, Heap.get?_update_self _ hT (Obj.isFreed_of_fields (Obj.data_mapFields hdT _)), Obj.data_mapFields hdT _, by simp [sz]⟩ fun b o hb hn => ⟨o.slots, (other b (no_rec hb hn hT hdT)).trans hb⟩)
theorem noteD {x : Option Value} (hfr : A.frames = some (env :: outer)) (hf : env.frame = some L) (hfl : FlyD B (env :: outer) e dx x s.heap) (hx : x = none ∨ x = some .none)
    (h : ∀ h', FlyD B (env :: outer) e dx (some (rawInt L)) h' → s.heap.UpToSlots h' → Q () { s with heap := h' }) : wpAny M A (noteFrame (.ref e) env) Q E s := by
  obtain ⟨st, ne, fr, oe, vs, he, hc, hdx, hd, r⟩ := hfl
  unfold noteFrame
  simp only [hf]
  rcases hx with rfl | rfl
  · refine wpAny_bind (wpAny_field he hd r ?_)
    rw [if_neg (by decide)]
    exact entryD hfr hf st ne fr he hc hdx hd (Array.getElem?_eq_some_iff.mp r).1 h
  · obtain ⟨T, oT, ts, h1, nT, hTe, hT, hdT, h3⟩ := r
    refine wpAny_bind (wpAny_field he hd h1 ?_)
    rw [if_pos (show (Value.ref T != Value.none) = true from by simp)]
    refine wpAny_bind (wpAny_field hT hdT h3 ?_)
    rw [if_neg (show ¬ ((Value.none == rawInt L) = true) from by simp [rawInt])]
    refine wpAny_bind (setTb st ne fr he hc hdx hd h1 nT hTe hT hdT h3 fun h' hfl hs => ?_)
    obtain ⟨st, ne, fr, oe, vs, he, hc, hdx, hd, T', _, _, h1', _⟩ := hfl
    exact entryD hfr hf st ne fr he hc hdx hd (Array.getElem?_eq_some_iff.mp h1').1 fun h' x1 x2 => h h' x1 (hs.trans x2)
theorem landD {fl : Value} (hfl : FlyD B l e dx (some fl) s.heap) (h : ∀ h', FlyD B l e dx (some .none) h' → s.heap.UpToSlots h' → Q () { s with heap := h' }) : wpAny M A (setFlight (.ref e) none) Q E s := by
  obtain ⟨st, ne, fr, oe, vs, he, hc, hdx, hd, T, oT, ts, h1, nT, hTe, hT, hdT, h3⟩ := hfl
  unfold setFlight
  refine wpAny_bind (wpAny_field he hd h1 ?_)
  rw [if_pos (show (Value.ref T != Value.none) = true from by simp)]
  exact setTb st ne fr he hc hdx hd h1 nT hTe hT hdT h3 h
theorem leaveD {x : Option Value} (hfr : A.frames = some (env :: outer)) (hf : env.frame = some L) (hfl : FlyD B (env :: outer) e dx x s.heap) (hx : x = none ∨ x = some .none)
    (h : ∀ h', FlyD B outer e dx (some .none) h' → s.heap.UpToSlots h' → Q () { s with heap := h' }) : wpAny M A (leaving env (.ref e)) Q E s := by
  unfold leaving
  refine wpAny_bind (noteD hfr hf hfl hx fun h₁ f₁ u₁ => landD f₁ fun h₂ f₂ u₂ => h h₂ ?_ (u₁.trans u₂))
  obtain ⟨st, ne, ⟨_, _, fr⟩, r⟩ := f₂
  exact ⟨st, ne, fr, r⟩
end
/-- the flight, as the ledger of a caller sees it -/
noncomputable def RaisedD (base G : Heap) (l : List Env) (e dx : Addr) (news : List (Addr × Obj)) (h : Heap) : Prop :=
  ∃ B, base.StaysIn B ∧ (∀ b o, G.get? b = some o → b ∉ l.filterMap (·.frame) → B.get? b = some o) ∧ (∀ q ∈ news, B.get? q.1 = some q.2 ∧ G.get? q.1 = none ∧ base.get? q.1 = none) ∧ FlyD B l e dx (some .none) h
section
variable {M : Model} {A : Around} {E : Value → Shared → Prop} {s : Shared} {base g g₂ : Heap} {env : Env} {outer : List Env} {L e dx : Addr} {m : Str → Option Value} {Q : Unit → Shared → Prop} {news : List (Addr × Obj)}
theorem mem_frames {b : Addr} (hf : env.frame = some L) (hm : b ∈ (env :: outer).filterMap (·.frame)) : b = L ∨ b ∈ outer.filterMap (·.frame) := by
  obtain ⟨v, he, hb⟩ := List.mem_filterMap.mp hm
  rcases List.mem_cons.mp he with rfl | he
  · exact .inl (Option.some.inj (hb.symm.trans hf))
  · exact .inr (List.mem_filterMap.mpr ⟨v, he, hb⟩)
theorem leave_madeD {oe : Obj} {vs : Array Value} (hf : env.frame = some L) (hk : env.scope.kind = .function) (K : Below A base outer g) (F : Fr g L s.heap m) (N : News g L s.heap news) (hne : ∀ q ∈ news, q.1 ≠ e) (ge : g.get? e = none)
    (he : s.heap.get? e = some oe) (hc : oe.cls = .ref 45) (hx : oe.dict = some dx) (hd : oe.data = .fields vs) (h1 : vs[1]? = some .none)
    (hfr : A.frames = some outer) (h : ∀ h', RaisedD base g outer e dx news h' → g.UpToSlots h' → Q () { s with heap := h' }) : wpAny M (A.deeper env) (leaving env (.ref e)) Q E s := by
  have gL : g.get? L = none := kts_self F
  have bL : base.get? L = none := fresh_of_stays K.stays gL
  have be : base.get? e = none := fresh_of_stays K.stays ge
  have fr : s.heap.FunFrames base (env :: outer) := by
    refine ⟨by rw [hk]; decide, ?_, K.frames.of_keeps fun b o q _ => ⟨o, F.keep b o q, rfl⟩⟩
    obtain ⟨oL, es, ep, hL, hLd, _⟩ := F.ns
    exact ⟨L, oL, hf, bL, hL, fun vs q => by rw [hLd] at q; cases q⟩
  have notin : ∀ b, b ≠ e → b ≠ L → b ∉ outer.filterMap (·.frame) → b ∉ e :: (env :: outer).filterMap (·.frame) := fun b n1 n2 n3 hm => by
    rcases List.mem_cons.mp hm with z | hm
    · exact n1 z
    · exact (mem_frames hf hm).elim n2 n3
  have offs : ∀ b o, base.get? b = some o → b ∉ outer.filterMap (·.frame) := fun b o q hm => by rw [(K.frames.mem hm).1] at q; cases q
  refine leaveD (B := hideAll s.heap (e :: (env :: outer).filterMap (·.frame))) (x := none) (Around.frames_deeper hfr) hf ⟨fun b o q => of_hideAll _ q, hideAll_none _ (.head _), funFrames_hide fr fun v hv b hb => .tail _ (List.mem_filterMap.mpr ⟨v, hv, hb⟩), oe, vs, he, hc, hx, hd, h1⟩ (.inl rfl) fun h' fl up => ?_
  refine h h' ⟨_, fun b o q => ?_, fun b o q nm => ?_, fun q hq => ⟨?_, (N q hq).2.2, fresh_of_stays K.stays (N q hq).2.2⟩, fl⟩ ((Heap.UpToSlots.of_keeps F.keep).trans up)
  · exact hideAll_get _ (F.keep b o (K.stays b o q)) (notin b (fun z => by rw [z, be] at q; cases q) (fun z => by rw [z, bL] at q; cases q) (offs b o q))
  · exact hideAll_get _ (F.keep b o q) (notin b (fun z => by rw [z, ge] at q; cases q) (fun z => by rw [z, gL] at q; cases q) nm)
  · refine hideAll_get _ (N q hq).1 (notin _ (hne q hq) (N q hq).2.1 fun hm => ?_)
    obtain ⟨o, ho, _⟩ := (K.frames.mem hm).2
    rw [(N q hq).2.2] at ho; cases ho
theorem leave_onD (hf : env.frame = some L) (F : Fr g L g₂ m) (R : RaisedD base g₂ (env :: outer) e dx news s.heap) (up : g₂.UpToSlots s.heap)
    (hfr : A.frames = some outer) (h : ∀ h', RaisedD base g outer e dx news h' → g.UpToSlots h' → Q () { s with heap := h' }) : wpAny M (A.deeper env) (leaving env (.ref e)) Q E s := by
  obtain ⟨B, st, hG, hn, fl⟩ := R
  refine leaveD (x := some .none) (Around.frames_deeper hfr) hf fl (.inr rfl) fun h' fl' up' => h h' ⟨B, st, fun b o q nm => hG b o (F.keep b o q) (fun hm => ?_), fun q hq => ⟨(hn q hq).1, kts_none F.keep (hn q hq).2.1, (hn q hq).2.2⟩, fl'⟩ ((Heap.UpToSlots.of_keeps F.keep).trans (up.trans up'))
  rcases mem_frames hf hm with z | z
  · rw [z, kts_self F] at q; cases q
  · exact nm z
end
/-- what a raise asks of the thing that it raises -/
noncomputable def RaisableD (P : Params) (E : Value → Shared → Prop) (v : Value) (s : Shared) : Prop :=
  ∃ a ob vs, v = .ref a ∧ (hd.heap_39 P).In s.heap ∧ s.heap.get? a = some ob ∧ ob.cls = .ref 45 ∧ ob.data = .fields vs ∧ vs[1]? = some .none ∧ E (.ref a) s
theorem Raise_D {prog : Program} {w : World} {A : Around} {E : Value → Shared → Prop} {s : Shared} {env : Env} {x : PySem.Expr} {pos : Pos} {Q : Flow → Shared → Prop} (hh : A.handled = none)
    (h : wpAny (model prog w) A (eval x env) (RaisableD w.params E) E s) : wpAny (model prog w) A (exec (.Raise (some x) none pos) env) Q E s := by
  show wpAny _ A (do standAt pos; raiseStmt env (some (do let v ← eval x env; standAt pos; pure v)) none) Q E s
  refine wpAny_bind (wpAny_standAt ?_)
  unfold raiseStmt
  dsimp only
  refine wpAny_bind (wpAny_bind (wpAny_mono h (fun v s₁ h₁ => wpAny_bind (wpAny_standAt (wpAny_pure ?_))) fun _ _ x => x))
  obtain ⟨a, ob, vs, rfl, X, ha, hcls, hd, h1, hE⟩ := h₁
  have hb : mroIn (Mine.hd.heap_39 w.params) 45 (.type "BaseException") = some true := by kernel_rfl
  have L3 := looks_mroIn (M := model prog w) X hb
  have L0 : Looks (model prog w) s₁.heap (typeOf (.ref a)) (.ref 45) := hcls ▸ (Looks.ld ha).andThen .now
  have hnt : ∀ {Q' : Bool → Shared → Prop}, Q' false s₁ → wpAny (model prog w) A (isType (.ref a)) Q' E s₁ := by
    intro Q' hq
    simp only [isType, loadHead]
    refine wpAny_bind (wpAny_loadPart ha ?_)
    rw [hd]; exact wpAny_pure hq
  refine wpAny_bind (wpAny_pure ?_)
  dsimp only
  refine wpAny_bind (wpAny_holding ?_)
  unfold excFromValue isExcClass
  refine wpAny_bind (wpAny_bind (hnt ?_))
  simp only [Bool.false_eq_true, if_false]
  refine wpAny_pure ?_
  simp only [Bool.false_eq_true, if_false]
  unfold isInstance
  refine wpAny_bind (wpAny_bind (L0 _ _ _ _ (fun _ _ e => e) (L3 _ _ _ _ (fun _ _ e => e) ?_)))
  simp only [if_true]
  refine wpAny_pure ?_
  refine wpAny_bind (hnt ?_)
  simp only [Bool.false_eq_true, if_false]
  unfold raisedInstance
  have ho : ((Mine.hd.heap_39 w.params).lookup 45).map (fun o => o.cls) = some (.type "type") := by kernel_rfl
  obtain ⟨oc, hoc, hcc⟩ := Option.map_eq_some_iff.mp ho
  have L5 : Looks (model prog w) s₁.heap (typeOf (.ref 45)) (.type "type") := hcc ▸ (Looks.ld (X _ _ hoc)).andThen .now
  refine wpAny_bind (wpAny_bind (L0 _ _ _ _ (fun _ _ e => e) (wpAny_bind (L5 _ _ _ _ (fun _ _ e => e) ?_))))
  rw [if_pos (by decide)]
  refine wpAny_pure ?_
  unfold setFlight raiseNew
  refine wpAny_bind (wpAny_bind (wpAny_field ha hd h1 ?_))
  rw [if_neg (by decide)]
  refine wpAny_pure (wpAny_bind (wpAny_handled ?_))
  rw [hh]
  first
    | exact wpAny_throw hE
    | exact wpAny_bind (wpAny_pure (wpAny_throw hE))
theorem off_top13 : True := by w_top off; trivial
theorem nat_step {a i : Nat} (h : i < a) : a - i = (a - (i + 1)) + 1 := by omega
section
variable {prog : Program} {w : World} {K : Type} [DecidableEq K] {knd : KeyKind prog w K} {A : Around} {E : Value → Shared → Prop} {s : Shared}
theorem put_new {d : Addr} {kvs : List (K × Value)} {k : K} {key v : Value} {Q : Unit → Shared → Prop} (hkey : knd.is k key = true) (hm : s.heap.DictOf knd d kvs) (hnew : k ∉ kvs.map (·.1)) (hsz : kvs.length ≤ sizeLine)
    (hQ : ∀ h', h'.DictOf knd d (kvs ++ [(k, v)]) → Heap.SameBut d s.heap h' → Q () { s with heap := h' }) : wpAny (model prog w) A (dictPut d (knd.hash k) key v) Q E s := by
  obtain ⟨o, es, ep, ho, hc, hdt, hk, hp, hn⟩ := hm
  have hes : es.size ≤ sizeLine := by
    have e1 := hp.length
    rw [Array.length_toList] at e1
    omega
  unfold dictPut
  refine wpAny_bind (wpAny_dictFind_of hkey ho hdt hk ?_)
  have hidx : (es.findIdx? fun e => knd.is k e.key) = kvs.findIdx? fun kv => decide (kv.1 = k) := by
    rw [← hp.findIdx k]; obtain ⟨l⟩ := es; simp
  have hno : (es.findIdx? fun e => knd.is k e.key) = none := by
    rw [hidx, List.findIdx?_eq_none_iff]
    intro kv hkv
    exact decide_eq_false fun e => hnew (List.mem_map.mpr ⟨kv, hkv, e⟩)
  rw [hno]
  dsimp only
  refine wpAny_updateDictKeys (hz := hes) ho hdt (hQ _ ⟨_, _, ep + 1, Heap.get?_update_self _ ho (Obj.isFreed_of_dict (Obj.data_mapDictKeys hdt _)), hc.mapDictKeys _, Obj.data_mapDictKeys hdt _, hk.push hkey _, ?_, ?_⟩ (Heap.SameBut.update ..))
  · have := hp.append hkey (knd.hash k) v
    obtain ⟨l⟩ := es
    simpa using this
  · rw [List.map_append, List.nodup_append]
    refine ⟨hn, by simp, ?_⟩
    intro a ha b hb
    simp only [List.map_cons, List.map_nil, List.mem_singleton] at hb
    subst hb
    exact fun e => hnew (e ▸ ha)
theorem merge_new {d o : Addr} {kvs more : List (K × Value)} {Q : Unit → Shared → Prop} (hdo : d ≠ o) (hoS : (o == sysModules) = false) (hd : s.heap.DictOf knd d kvs) (ho : s.heap.DictOf knd o more) (h0 : kvs ≠ [])
    (hn : ((kvs ++ more).map (·.1)).Nodup) (hsz : kvs.length + more.length ≤ sizeLine)
    (hQ : ∀ h', h'.DictOf knd d (kvs ++ more) → Heap.SameBut d s.heap h' → Q () { s with heap := h' }) : wpAny (model prog w) A (mergeMapping d (.ref o) false) Q E s := by
  obtain ⟨od, esd, epd, hod, hcd, hdd, hkd, hpd, hnd⟩ := id hd
  obtain ⟨oo, eso, epo, hoo, hco, hdo', hko, hpo, hno⟩ := id ho
  have hlen : more.length = eso.size := by rw [← hpo.length]; simp
  unfold mergeMapping
  refine wpAny_bind (wpAny_isInstance ho.typeIs isSubtype_dict_dict ?_)
  rw [if_pos rfl]
  unfold specialOf
  refine wpAny_bind (wpAny_bind (wpAny_typeOf ho.typeIs (wpAny_of_eq F.slot_dict_iter.lookup ?_)))
  refine wpAny_bind (wpAny_pure ?_)
  simp only [beq_self_eq_true]
  rw [if_neg (by rw [hoS]; exact Bool.false_ne_true)]
  refine wpAny_bind (wpAny_dictEntries hod hdd ?_)
  rw [if_neg (by
    intro h
    have e1 := hpd.length
    rw [Array.isEmpty_iff.mp h] at e1
    exact h0 (List.length_eq_zero_iff.mp (by simpa using e1.symm)))]
  refine wpAny_bind (wpAny_dictEntries hoo hdo' (wpAny_bind (wpAny_dictEpoch hoo hdo' (wpAny_bind ?_))))
  refine wpAny_forIn_list _
    (fun rest _ s' => ∃ h' i, s' = { s with heap := h' } ∧ rest = List.range' i (eso.size - i) ∧ i ≤ eso.size ∧ h'.DictOf knd d (kvs ++ more.take i) ∧ h'.get? o = some oo ∧ Heap.SameBut d s.heap h')
    _ ?_ ?_ _ _ ⟨s.heap, 0, rfl, by rw [List.range_eq_range']; rfl, Nat.zero_le _, by simpa using hd, hoo, Heap.SameBut.refl _ _⟩
  · rintro x rest b s' ⟨h', i, rfl, hr, hi, hd', hoo', hs'⟩
    have hlt : i < eso.size := by
      rcases Nat.lt_or_ge i eso.size with h | h
      · exact h
      · rw [Nat.sub_eq_zero_of_le h] at hr; simp at hr
    obtain ⟨rfl, hrest⟩ : x = i ∧ rest = List.range' (i + 1) (eso.size - (i + 1)) := by
      have e : eso.size - i = (eso.size - (i + 1)) + 1 := nat_step hlt
      rw [e, List.range'_succ] at hr
      injection hr with h1 h2
      exact ⟨h1, h2⟩
    refine wpAny_bind (wpAny_dictEntries hoo' hdo' ?_)
    rw [Array.getElem?_eq_getElem hlt]
    dsimp only
    obtain ⟨kv, hkv⟩ : ∃ kv, more[x]? = some kv := ⟨more[x]'(by rw [hlen]; exact hlt), List.getElem?_eq_getElem _⟩
    obtain ⟨k, v⟩ := kv
    obtain ⟨hkey, hval⟩ := hpo.get? (e := eso[x]) (by simp [hlt]) hkv
    obtain ⟨k', hkey', hhash⟩ := hko eso[x] (Array.getElem_mem hlt)
    obtain rfl : k' = k := knd.inj _ _ _ hkey' hkey
    have htk : more.take (x + 1) = more.take x ++ [(k', v)] := by rw [List.take_add_one, hkv]; rfl
    have hnd' : ((kvs ++ more.take (x + 1)).map (·.1)).Nodup := by
      refine List.Nodup.sublist (List.Sublist.map _ (List.Sublist.append (List.Sublist.refl _) (List.take_sublist _ _))) hn
    rw [htk, ← List.append_assoc, List.map_append, List.nodup_append] at hnd'
    have hnew : k' ∉ (kvs ++ more.take x).map (·.1) := fun hm => hnd'.2.2 k' hm k' (by simp) rfl
    have hsz' : (kvs ++ more.take x).length ≤ sizeLine := by
      rw [List.length_append, List.length_take]; exact Nat.le_trans (Nat.add_le_add_left (Nat.min_le_right _ _) _) hsz
    refine wpAny_bind (wpAny_holding ?_)
    rw [if_neg (by decide)]
    rw [hhash, hval]
    refine put_new hkey hd' hnew hsz' fun h'' hd'' hs'' => ?_
    have hoo'' : h''.get? o = some oo := (hs''.2 o (Ne.symm hdo)).trans hoo'
    refine wpAny_bind (wpAny_dictEpoch hoo'' hdo' ?_)
    rw [if_neg (by simp)]
    exact wpAny_pure ⟨h'', x + 1, rfl, hrest, hlt, by rw [htk, ← List.append_assoc]; exact hd'', hoo'', hs'.trans hs''⟩
  · rintro b s' ⟨h', i, rfl, hr, hi, hd', hoo', hs'⟩
    have hin : i = eso.size := by
      rcases Nat.lt_or_ge i eso.size with h | h
      · have e : eso.size - i = (eso.size - (i + 1)) + 1 := nat_step h
        rw [e, List.range'_succ] at hr; exact nomatch hr
      · exact Nat.le_antisymm hi h
    refine wpAny_pure (hQ h' ?_ hs')
    rw [hin, ← hlen, List.take_length] at hd'; exact hd'
end
/-- a tree that gives a str and else only counts -/
noncomputable def GivesS (prog : Program) (w : World) (t : Sem Value) (x : Str) : Prop :=
  ∀ (A : Around) (E : Value → Shared → Prop) (Q : Value → Shared → Prop) (s : Shared), (∀ tok tk, Q (.str x tok) { s with toks := tk }) → wpAny (model prog w) A t Q E s
inductive GivesL (prog : Program) (w : World) : List (Sem Value × Sem Value) → List (Str × Str) → Prop
  | nil : GivesL prog w [] []
  | cons {k v : Sem Value} {r : List (Sem Value × Sem Value)} {a b : Str} {t : List (Str × Str)} : GivesS prog w k a → GivesS prog w v b → GivesL prog w r t → GivesL prog w ((k, v) :: r) ((a, b) :: t)
theorem GivesL.length {prog : Program} {w : World} {l t} (h : GivesL prog w l t) : l.length = t.length := by
  induction h with
  | nil => rfl
  | cons _ _ _ ih => rw [List.length_cons, List.length_cons, ih]
inductive StrVals : List (Str × Value) → List (Str × Str) → Prop
  | nil : StrVals [] []
  | cons {a b : Str} {tok : Tok} {kvs : List (Str × Value)} {t : List (Str × Str)} : StrVals kvs t → StrVals ((a, .str b tok) :: kvs) ((a, b) :: t)
theorem StrVals.append {k1 k2 t1 t2} (h1 : StrVals k1 t1) (h2 : StrVals k2 t2) : StrVals (k1 ++ k2) (t1 ++ t2) := by
  induction h1 with
  | nil => exact h2
  | cons _ ih => exact .cons ih
theorem StrVals.keys {k t} (h : StrVals k t) : k.map (·.1) = t.map (·.1) := by
  induction h with
  | nil => rfl
  | cons _ ih => rw [List.map_cons, List.map_cons, ih]
theorem StrVals.length {k t} (h : StrVals k t) : k.length = t.length := by rw [← List.length_map (as := k), h.keys, List.length_map]
theorem StrVals.at {k t} (h : StrVals k t) (x : Str) : (∃ b tok, t.lookup x = some b ∧ valueAt k x = some (.str b tok)) ∨ (t.lookup x = none ∧ valueAt k x = none) := by
  induction h with
  | nil => exact .inr ⟨rfl, rfl⟩
  | @cons a b tok kvs t _ ih =>
    by_cases e : x = a
    · subst e
      exact .inl ⟨b, tok, by simp [List.lookup], by simp [valueAt]⟩
    · have e1 : (x == a) = false := beq_eq_false_iff_ne.mpr e
      have e2 : ¬ a = x := fun z => e z.symm
      simpa [List.lookup, e1, valueAt, e2] using ih
section
variable {prog : Program} {w : World} {A : Around} {E : Value → Shared → Prop} {s : Shared}
theorem gives_const {env : Env} {x : Str} {k : Nat} {pos : Pos} : GivesS prog w (eval (.Constant (.str x) k pos) env) x := fun A E Q s h => wpAny_Constant_str (h _ _)
theorem gives_stand {t : Sem Value} {x : Str} {pos : Pos} (g : GivesS prog w t x) : GivesS prog w (do let x ← t; standAt pos; pure x) x := fun A E Q s h =>
  wpAny_bind (g A E _ s fun tok tk => wpAny_bind (wpAny_standAt (wpAny_pure (h tok tk))))
theorem put_all {d : Addr} {Q : PUnit → Shared → Prop} (pairs : List (Sem Value × Sem Value)) (tbl : List (Str × Str)) (acc : List (Str × Value)) (s : Shared) (g : GivesL prog w pairs tbl) : s.heap.DictOf (PySem.strKind prog w) d acc →
    (acc.map (·.1) ++ tbl.map (·.1)).Nodup → acc.length + tbl.length ≤ sizeLine →
    (∀ h' tk kvs, StrVals kvs tbl → h'.DictOf (PySem.strKind prog w) d (acc ++ kvs) → Heap.SameBut d s.heap h' → Q PUnit.unit { s with heap := h', toks := tk }) →
    wpAny (model prog w) A (forIn pairs PUnit.unit fun (x : Sem Value × Sem Value) (_ : PUnit) => (do
      let kv ← x.1
      let vv ← holding [kv] x.2
      holding [kv, vv] (dictSet d kv vv)
      pure (ForInStep.yield PUnit.unit) : Sem (ForInStep PUnit))) Q E s := by
  induction g generalizing acc s with
  | nil =>
    intro hm _ _ hQ
    rw [List.forIn_nil]
    exact wpAny_pure (by simpa using hQ s.heap s.toks [] .nil (by simpa using hm) (Heap.SameBut.refl _ _))
  | @cons k v r a b t gk gv gr ih =>
    intro hm hn hsz hQ
    rw [List.length_cons] at hsz
    rw [List.forIn_cons]
    refine wpAny_bind (wpAny_bind (gk _ _ _ _ fun tok tk => wpAny_bind (wpAny_holding (gv _ _ _ _ fun tok' tk' => wpAny_bind (wpAny_holding (wpAny_dictSet_pairs (k := a) (hsz := by omega) (by simp [PySem.strKind, Value.isStrOf]) hm fun h₁ hm₁ hs₁ => wpAny_pure ?_))))))
    have hnew : a ∉ acc.map (·.1) := fun h => by
      rw [List.nodup_append] at hn
      exact hn.2.2 a h a (by simp) rfl
    have hst : stored acc a (.str b tok') = acc ++ [(a, .str b tok')] := by
      rw [stored, if_neg]
      intro h
      obtain ⟨kv, hkv, he⟩ := List.any_eq_true.mp h
      exact hnew (List.mem_map.mpr ⟨kv, hkv, of_decide_eq_true he⟩)
    rw [hst] at hm₁
    refine ih (acc ++ [(a, .str b tok')]) _ hm₁ (by simpa using hn) (by simp; omega) fun h' tk'' kvs hkv hm' hs' => ?_
    exact hQ h' tk'' _ (.cons hkv) (by simpa using hm') (hs₁.trans hs')
theorem sub_long {pairs : List (Sem Value × Sem Value)} {tbl : List (Str × Str)} {Q : Addr → Shared → Prop} (hlen : ¬ pairs.length ≤ 15) (hg : GivesL prog w pairs tbl) (hn : (tbl.map (·.1)).Nodup) (hsz : tbl.length ≤ sizeLine)
    (hQ : ∀ h' tk kvs, StrVals kvs tbl → h'.DictOf (PySem.strKind prog w) s.heap.objs.size kvs → Heap.SameBut s.heap.objs.size (s.heap.push { cls := .type "dict", data := .dict #[] }) h' → Q s.heap.objs.size { s with heap := h', toks := tk }) :
    wpAny (model prog w) A (subDict pairs) Q E s := by
  unfold subDict
  refine wpAny_bind (wpAny_alloc ?_)
  refine wpAny_bind (wpAny_holding ?_)
  rw [if_neg hlen]
  refine wpAny_bind (wpAny_rule ?_)
  refine wpAny_bind (put_all pairs tbl [] _ hg (Heap.DictOf.new _) (by simpa using hn) (by simpa using hsz) fun h' tk kvs hk hm hs => wpAny_pure (wpAny_pure (hQ h' tk kvs hk (by simpa using hm) hs)))
theorem pairs_all (pairs : List (Sem Value × Sem Value)) (tbl : List (Str × Str)) (Q : List (Value × Value) → Shared → Prop) (s : Shared) (g : GivesL prog w pairs tbl)
    (h : ∀ vs kvs tk, Carries (PySem.strKind prog w) vs kvs → StrVals kvs tbl → Q vs { s with toks := tk }) : wpAny (model prog w) A (evalPairs pairs) Q E s := by
  induction g generalizing Q s with
  | nil => exact evalPairs_nil (h [] [] s.toks trivial .nil)
  | cons gk gv _ ih => exact evalPairs_cons (gk _ _ _ _ fun tok tk => gv _ _ _ _ fun tok' tk' => ih _ _ fun vs kvs tk hc hs => h _ ((_, _) :: kvs) tk ⟨by simp [PySem.strKind, Value.isStrOf], rfl, hc⟩ (.cons hs))
theorem sub_short {pairs : List (Sem Value × Sem Value)} {tbl : List (Str × Str)} {Q : Addr → Shared → Prop} (hlen : pairs.length ≤ 15) (hg : GivesL prog w pairs tbl) (hn : (tbl.map (·.1)).Nodup)
    (hQ : ∀ h' tk kvs, StrVals kvs tbl → h'.DictOf (PySem.strKind prog w) s.heap.objs.size kvs → Heap.SameBut s.heap.objs.size (s.heap.push { cls := .type "dict", data := .dict #[] }) h' → Q s.heap.objs.size { s with heap := h', toks := tk }) :
    wpAny (model prog w) A (subDict pairs) Q E s :=
  wpAny_subDict (knd := PySem.strKind prog w) hlen (pairs_all pairs tbl _ _ hg fun vs kvs tk hc hs => ⟨kvs, hc, Heap.DictOf.new _, fun h' hm hb => by
    rw [merged_nil_of_nodup kvs (by rw [hs.keys]; exact hn)] at hm
    exact hQ h' _ kvs hs hm hb⟩)
end
noncomputable abbrev someP (p : Sem Value × Sem Value) : Option (Sem Value) × Sem Value := (some p.1, p.2)
theorem gatherM (f : (Option (Sem Value) × Sem Value) → (Option Addr × List (Sem Value × Sem Value)) → Sem (ForInStep (Option Addr × List (Sem Value × Sem Value))))
    (hf : ∀ (p : Sem Value × Sem Value) (run : List (Sem Value × Sem Value)) (main : Option Addr), run.length + 1 < 17 → f (some p.1, p.2) (main, run) = pure (.yield (main, run ++ [p]))) (r : List (Option (Sem Value) × Sem Value)) (main : Option Addr) :
    ∀ (l run : List (Sem Value × Sem Value)), run.length + l.length < 17 → forIn (l.map someP ++ r) (main, run) f = forIn r (main, run ++ l) f
  | [], run, _ => by simp
  | p :: rest, run, h => by
    rw [List.map_cons, List.cons_append, List.forIn_cons, hf p run main (by simp at h; omega), pure_bind]
    have := gatherM f hf r main rest (run ++ [p]) (by simp at h ⊢; omega)
    simpa using this
theorem keeps_new {h h' : Heap} {e : Obj} (hs : Heap.SameBut h.objs.size (h.push e) h') : ∀ b o, h.get? b = some o → h'.get? b = some o := fun b o q =>
  (hs.2 b (Nat.ne_of_lt (Heap.lt_size q))).trans (Heap.get?_push_of_some _ q)
theorem dictOf_keeps {prog : Program} {w : World} {h h' : Heap} {d : Addr} {kvs : List (Str × Value)} (x : h.DictOf (PySem.strKind prog w) d kvs) (k : ∀ b o, h.get? b = some o → h'.get? b = some o) : h'.DictOf (PySem.strKind prog w) d kvs := by
  obtain ⟨o, ho, hd⟩ := Heap.dictOf_iff.mp x
  exact Heap.dictOf_iff.mpr ⟨o, k _ _ ho, hd⟩
theorem dictOf_lt {prog : Program} {w : World} {h : Heap} {d : Addr} {kvs : List (Str × Value)} (x : h.DictOf (PySem.strKind prog w) d kvs) : d < h.objs.size := by
  obtain ⟨o, ho, _⟩ := Heap.dictOf_iff.mp x
  exact Heap.lt_size ho
section
variable {prog : Program} {w : World} {A : Around} {E : Value → Shared → Prop} {s : Shared}
theorem display3 {a b c : List (Sem Value × Sem Value)} {p q : Sem Value × Sem Value} {ta tb tc : List (Str × Str)} {Q : Value → Shared → Prop} (ha : a.length = 16) (hb : b.length = 16) (hc : 0 < c.length) (hc' : c.length ≤ 15)
    (ga : GivesL prog w (a ++ [p]) ta) (gb : GivesL prog w (b ++ [q]) tb) (gc : GivesL prog w c tc) (hn : ((ta ++ tb ++ tc).map (·.1)).Nodup) (hsz : (ta ++ tb ++ tc).length ≤ sizeLine) (hlow : sysModules < s.heap.objs.size)
    (hQ : ∀ h' tk kvs, StrVals kvs (ta ++ tb ++ tc) → h'.DictOf (PySem.strKind prog w) s.heap.objs.size kvs → (∀ b o, s.heap.get? b = some o → h'.get? b = some o) → Q (.ref s.heap.objs.size) { s with heap := h', toks := tk }) :
    wpAny (model prog w) A (dictDisplay ((a ++ p :: (b ++ q :: c)).map someP)) Q E s := by
  unfold dictDisplay
  dsimp only
  have el : (a ++ p :: (b ++ q :: c)).map someP = a.map someP ++ (someP p :: (b.map someP ++ (someP q :: (c.map someP ++ [])))) := by simp
  rw [el]
  have hf : ∀ (x : Sem Value × Sem Value) (run : List (Sem Value × Sem Value)), run.length + 1 < 17 → ((run ++ [(x.1, x.2)]).length == 17) = false := fun x run h => by simp; omega
  have hg : ∀ (x : Sem Value × Sem Value) (run : List (Sem Value × Sem Value)), run.length = 16 → ((run ++ [(x.1, x.2)]).length == 17) = true := fun x run h => by simp [h]
  rw [gatherM _ (fun x run main h => by simp only [hf x run h, Bool.false_eq_true, if_false]) _ none a [] (by simp [ha]), List.nil_append, List.forIn_cons]
  simp only [someP, hg p a ha, if_true]
  have t1 : (ta.map (·.1)).Nodup := by
    simp only [List.map_append, List.nodup_append] at hn
    exact hn.1.1
  have t2 : (tb.map (·.1)).Nodup := by
    simp only [List.map_append, List.nodup_append] at hn
    exact hn.1.2.1
  have t3 : (tc.map (·.1)).Nodup := by
    simp only [List.map_append, List.nodup_append] at hn
    exact hn.2.1
  have t12 : ((ta ++ tb).map (·.1)).Nodup := by
    rw [List.map_append, List.nodup_append] at hn
    exact hn.1
  simp only [List.length_append] at hsz
  have e1 : ∀ (l : List (Sem Value × Sem Value)) x, (l ++ [x]).isEmpty = false := fun l x => by simp
  refine wpAny_bind (wpAny_bind (wpAny_bind ?_))
  rw [if_neg (by rw [e1]; exact Bool.false_ne_true)]
  refine wpAny_bind (sub_long (by simp [ha]) ga t1 (by omega) fun h₁ tk₁ k₁ v₁ d₁ s₁ => wpAny_pure (wpAny_pure ?_))
  dsimp only
  rw [gatherM _ (fun x run main h => by simp only [hf x run h, Bool.false_eq_true, if_false]) _ _ b [] (by simp [hb]), List.nil_append, List.forIn_cons]
  simp only [hg q b hb, if_true]
  have b₁ := keeps_new s₁
  have z₁ : s.heap.objs.size < h₁.objs.size := dictOf_lt d₁
  refine wpAny_bind (wpAny_bind ?_)
  rw [if_neg (by rw [e1]; exact Bool.false_ne_true)]
  refine wpAny_bind (wpAny_holding (sub_long (by simp [hb]) gb t2 (by omega) fun h₂ tk₂ k₂ v₂ d₂ s₂ => ?_))
  have b₂ := keeps_new s₂
  have z₂ : h₁.objs.size < h₂.objs.size := dictOf_lt d₂
  dsimp only at b₂ z₂ d₂ s₂
  refine wpAny_bind (wpAny_onRaise (wpAny_holding (merge_new (Nat.ne_of_lt z₁) (beq_eq_false_iff_ne.mpr (Nat.ne_of_gt (Nat.lt_trans hlow z₁))) (dictOf_keeps d₁ b₂) d₂ ?_ (by rw [List.map_append, v₁.keys, v₂.keys, ← List.map_append]; exact t12) (by rw [v₁.length, v₂.length]; omega) fun h₃ d₃ s₃ => ?_)))
  · intro z
    have := v₁.length
    have z' := ga.length
    rw [z] at this
    rw [← this] at z'
    simp at z'
  refine wpAny_pure (wpAny_pure ?_)
  dsimp only
  rw [gatherM _ (fun x run main h => by simp only [hf x run h, Bool.false_eq_true, if_false]) _ _ c [] (by simp; omega), List.nil_append, List.forIn_nil]
  refine wpAny_pure ?_
  dsimp only
  refine wpAny_bind ?_
  rw [if_neg (by
    intro z
    rw [List.isEmpty_iff.mp z] at hc
    exact Nat.lt_irrefl _ hc)]
  have n₃ : h₃.objs.size = h₂.objs.size := s₃.1
  have d₃' := d₃
  refine wpAny_bind (wpAny_holding (sub_short hc' gc t3 fun h₄ tk₄ k₄ v₄ d₄ s₄ => ?_))
  have b₄ := keeps_new s₄
  dsimp only at b₄ d₄ s₄
  have z₃ : s.heap.objs.size < h₃.objs.size := dictOf_lt d₃
  have l₃ := v₁.append v₂
  refine wpAny_bind (wpAny_onRaise (wpAny_holding (merge_new (Nat.ne_of_lt z₃) (beq_eq_false_iff_ne.mpr (Nat.ne_of_gt (Nat.lt_trans hlow z₃))) (dictOf_keeps d₃ b₄) d₄ ?_ (by rw [List.map_append, l₃.keys, v₄.keys, ← List.map_append]; exact hn) (by rw [l₃.length, v₄.length, List.length_append]; omega) fun h₅ d₅ s₅ => ?_)))
  · intro z
    have := l₃.length
    have z' := ga.length
    rw [z] at this
    simp at this z'
    omega
  refine wpAny_pure (wpAny_pure ?_)
  refine hQ h₅ _ _ (l₃.append v₄) d₅ fun x o q => ?_
  have nx : x ≠ s.heap.objs.size := Nat.ne_of_lt (Heap.lt_size q)
  exact (s₅.2 x nx).trans (b₄ x o ((s₃.2 x nx).trans (b₂ x o (b₁ x o q))))
end
theorem off_top14 : True := by w_top off; trivial
/-- a written table: the keys and the values are texts -/
inductive LitTbl : List (Option PySem.Expr) → List PySem.Expr → List (Str × Str) → Prop
  | nil : LitTbl [] [] []
  | cons {a b : Str} {k k' : Nat} {p p' : Pos} {ks : List (Option PySem.Expr)} {vs : List PySem.Expr} {t : List (Str × Str)} : LitTbl ks vs t → LitTbl (some (.Constant (.str a) k p) :: ks) (.Constant (.str b) k' p' :: vs) ((a, b) :: t)
theorem givesL_lits {prog : Program} {w : World} {env : Env} {pos : Pos} (ks : List (Option PySem.Expr)) (vs : List PySem.Expr) (t : List (Str × Str)) (h : LitTbl ks vs t) : GivesL prog w (pairTrees ks vs env pos) t := by
  induction h with
  | nil => exact .nil
  | cons _ ih => exact .cons gives_const (gives_stand gives_const) ih
theorem GivesL.take {prog : Program} {w : World} {l t} (h : GivesL prog w l t) : ∀ n, GivesL prog w (l.take n) (t.take n) := by
  induction h with
  | nil => intro n; cases n <;> exact .nil
  | cons a b _ ih => intro n; cases n with
    | zero => exact .nil
    | succ n => exact .cons a b (ih n)
theorem GivesL.drop {prog : Program} {w : World} {l t} (h : GivesL prog w l t) : ∀ n, GivesL prog w (l.drop n) (t.drop n) := by
  induction h with
  | nil => intro n; cases n <;> exact .nil
  | cons a b c ih => intro n; cases n with
    | zero => exact .cons a b c
    | succ n => exact ih n
theorem split17 {α : Type} (l : List α) (h : 17 ≤ l.length) : ∃ a p r, l = a ++ p :: r ∧ a.length = 16 ∧ a ++ [p] = l.take 17 ∧ r = l.drop 17 := by
  have h16 : 16 < l.length := h
  refine ⟨l.take 16, l[16], l.drop 17, ?_, by simp; omega, ?_, rfl⟩
  · rw [List.getElem_cons_drop h16, List.take_append_drop]
  · rw [List.take_append_getElem h16]
section
variable {prog : Program} {w : World} {A : Around} {E : Value → Shared → Prop} {s : Shared} {env : Env}
theorem dict_long {keys : List (Option PySem.Expr)} {values : List PySem.Expr} {pos : Pos} {tbl : List (Str × Str)} {Q : Value → Shared → Prop} (ht : LitTbl keys values tbl) (hall : keys.all (·.isSome) = true) (hl : keys.length = values.length) (h1 : 34 < keys.length) (h2 : keys.length ≤ 49)
    (hn : (tbl.map (·.1)).Nodup) (hlow : sysModules < s.heap.objs.size)
    (hQ : ∀ h' tk kvs, StrVals kvs tbl → h'.DictOf (PySem.strKind prog w) s.heap.objs.size kvs → (∀ b o, s.heap.get? b = some o → h'.get? b = some o) → Q (.ref s.heap.objs.size) { s with heap := h', toks := tk }) :
    wpAny (model prog w) A (eval (.Dict keys values pos) env) Q E s := by
  have g := givesL_lits (prog := prog) (w := w) (env := env) (pos := pos) keys values tbl ht
  have hp := pairTrees_length keys values env pos hall hl
  have hg := g.length
  rw [arm_eval_Dict, zip_pairTrees keys values env pos hall hl]
  refine wpAny_bind (wpAny_standAt ?_)
  obtain ⟨a, p, r, e1, la, ea, er⟩ := split17 (pairTrees keys values env pos) (by omega)
  obtain ⟨b, q, c, e2, lb, eb, ec⟩ := split17 r (by rw [er, List.length_drop]; omega)
  have tt : tbl.take 17 ++ (tbl.drop 17).take 17 ++ (tbl.drop 17).drop 17 = tbl := by rw [List.append_assoc, List.take_append_drop, List.take_append_drop]
  rw [e1, e2]
  refine display3 (ta := tbl.take 17) (tb := (tbl.drop 17).take 17) (tc := (tbl.drop 17).drop 17) la lb ?_ ?_ ?_ ?_ ?_ (by rw [tt]; exact hn) (by rw [tt, sizeLine_eq]; omega) hlow (by rw [tt]; exact hQ)
  · rw [ec, er, List.length_drop, List.length_drop]; omega
  · rw [ec, er, List.length_drop, List.length_drop]; omega
  · rw [ea]; exact g.take 17
  · rw [eb, er]; exact (g.drop 17).take 17
  · rw [ec, er]; exact (g.drop 17).drop 17
theorem dict_longK {keys : List (Option PySem.Expr)} {values : List PySem.Expr} {pos : Pos} {tbl : List (Str × Str)} {Q : Value → Shared → Prop} {h₀ : Heap} {L : Addr} {m : Str → Option Value} {news : List (Addr × Obj)} (F : Fr h₀ L s.heap m) (N : News h₀ L s.heap news) (hbig : h₀.NoLimit)
    (ht : LitTbl keys values tbl) (hall : keys.all (·.isSome) = true) (hl : keys.length = values.length) (h1 : 34 < keys.length) (h2 : keys.length ≤ 49) (hn : (tbl.map (·.1)).Nodup)
    (hQ : ∀ d o kvs h' tk, Fr h₀ L h' m → News h₀ L h' ((d, o) :: news) → (d == sysModules) = false → o.IsDictOf (PySem.strKind prog w) kvs → StrVals kvs tbl → Q (.ref d) { s with heap := h', toks := tk }) :
    wpAny (model prog w) A (eval (.Dict keys values pos) env) Q E s := by
  refine dict_long ht hall hl h1 h2 hn (Nat.lt_trans (modules_low hbig) (Nat.lt_of_le_of_lt F.above F.ns.lt)) fun h' tk kvs hv hd hk => ?_
  obtain ⟨o, ho, hd⟩ := Heap.dictOf_iff.mp hd
  exact hQ _ o kvs h' tk (F.keeps hk) (news_pushed F N hk ho rfl) (F.notModules (modules_low hbig)) hd hv
end
noncomputable def shapesT : List (Str × Str) := [(("get_variable" : Str), ("RX" : Str)), (("get_value" : Str), ("RX" : Str)), (("get_constant" : Str), ("CX" : Str)), (("get_list" : Str), ("X" : Str)), (("get_structure" : Str), ("FX" : Str)), (("unify_variable" : Str), ("R" : Str)), (("unify_value" : Str), ("R" : Str)), (("unify_local_value" : Str), ("R" : Str)), (("unify_constant" : Str), ("C" : Str)), (("unify_void" : Str), ("N" : Str)), (("put_variable" : Str), ("RX" : Str)), (("put_void" : Str), ("X" : Str)), (("put_value" : Str), ("RX" : Str)), (("put_unsafe_value" : Str), ("YX" : Str)), (("put_constant" : Str), ("CX" : Str)), (("put_list" : Str), ("X" : Str)), (("put_structure" : Str), ("FX" : Str)), (("set_variable" : Str), ("R" : Str)), (("set_value" : Str), ("R" : Str)), (("set_local_value" : Str), ("R" : Str)), (("set_constant" : Str), ("C" : Str)), (("set_void" : Str), ("N" : Str)), (("allocate" : Str), ("N" : Str)), (("deallocate" : Str), ("" : Str)), (("call" : Str), ("FN" : Str)), (("execute" : Str), ("F" : Str)), (("proceed" : Str), ("" : Str)), (("builtin" : Str), ("F" : Str)), (("neck_cut" : Str), ("" : Str)), (("get_level" : Str), ("R" : Str)), (("mark" : Str), ("R" : Str)), (("cut_to" : Str), ("R" : Str)), (("fail" : Str), ("" : Str)), (("halt" : Str), ("" : Str)), (("try" : Str), ("LN" : Str)), (("retry" : Str), ("L" : Str)), (("trust" : Str), ("L" : Str)), (("switch_on_term" : Str), ("LLLL" : Str)), (("switch_on_constant" : Str), ("TL" : Str)), (("switch_on_structure" : Str), ("UL" : Str)), (("meta_call" : Str), ("N" : Str)), (("catch_push" : Str), ("" : Str)), (("catch_exit" : Str), ("Y" : Str)), (("catch_fail" : Str), ("" : Str)), (("dyn_retry" : Str), ("" : Str))]
noncomputable def formsT : List (Str × List Str) := [(("RX" : Str), ([("get_variable" : Str), ("get_value" : Str), ("put_variable" : Str), ("put_value" : Str)] : List Str)), (("CX" : Str), ([("get_constant" : Str), ("put_constant" : Str)] : List Str)), (("FX" : Str), ([("get_structure" : Str), ("put_structure" : Str)] : List Str)), (("X" : Str), ([("get_list" : Str), ("put_list" : Str), ("put_void" : Str)] : List Str)), (("YX" : Str), ([("put_unsafe_value" : Str)] : List Str)), (("R" : Str), ([("unify_variable" : Str), ("unify_value" : Str), ("unify_local_value" : Str), ("set_variable" : Str), ("set_value" : Str), ("set_local_value" : Str), ("get_level" : Str), ("mark" : Str), ("cut_to" : Str)] : List Str)), (("C" : Str), ([("unify_constant" : Str), ("set_constant" : Str)] : List Str)), (("N" : Str), ([("unify_void" : Str), ("set_void" : Str), ("allocate" : Str), ("meta_call" : Str)] : List Str)), (("FN" : Str), ([("call" : Str)] : List Str)), (("F" : Str), ([("execute" : Str), ("builtin" : Str)] : List Str)), (("Y" : Str), ([("catch_exit" : Str)] : List Str)), (("LN" : Str), ([("try" : Str)] : List Str)), (("L" : Str), ([("retry" : Str), ("trust" : Str)] : List Str)), (("LLLL" : Str), ([("switch_on_term" : Str)] : List Str)), (("TL" : Str), ([("switch_on_constant" : Str)] : List Str)), (("UL" : Str), ([("switch_on_structure" : Str)] : List Str)), (("" : Str), ([("deallocate" : Str), ("proceed" : Str), ("neck_cut" : Str), ("fail" : Str), ("halt" : Str), ("catch_push" : Str), ("catch_fail" : Str), ("dyn_retry" : Str)] : List Str))]
theorem shapes_nodup : (shapesT.map (·.1)).Nodup := by decide +kernel
local macro_rules | `(tactic| walk_at "eval Dict") => `(tactic| (k_here; k_dflt (refine' dict_longK (tbl := shapesT) ?F ?N ?b ?t ?a ?l ?g1 ?g2 ?n ?_; (case F | N => k_asm); (case b => exact Top.nolimit (by k_asm)); (case t => with_unfolding_all (repeat (first | exact .nil | refine .cons ?_))); (case a | l => rfl); (case g1 | g2 => decide); (case n => exact shapes_nodup); k_whole); intro _ _ _ _ _ _ _ _ _ _))
/-- shapes() lays the table of the kinds -/
theorem c_shapes {prog : Program} {w : World} {p : Program} {loose : List Str} {mean : ExcName → Option Value} {mg mb : Str → Option Value} {dp un : Nat} {gd : Option (List Code)} {cn : Str} {cs : Scope} {a : Addr} {ccd : Value} {cl : List (Str × Addr)} {outer : List Env}
    {A₀ : Around} {base h₀ : Heap} {L : Addr} {m : Str → Option Value} {news} {s : Shared} {Q E : Value → Shared → Prop}
    (B : Below A₀ base outer h₀) (F : Fr h₀ L s.heap m) (X : (hd.heap_39 w.params).In h₀) (N : News h₀ L s.heap news) (T : Top p loose mean mg mb h₀) (hk : cs.kind = .function) 
    (hdp : dp + 1 < recursionLimit) (hu : un + (64 + 8 * 1) < cLine)
    (hret : ∀ d o kvs h' tk, Fr h₀ L h' m → News h₀ L h' ((d, o) :: news) → (d == sysModules) = false → o.IsDictOf (PySem.strKind prog w) kvs → StrVals kvs shapesT → Q (.ref d) { s with heap := h', toks := tk }) :
    wpAny (model prog w) (ktrTop dp un gd cn cs L a ccd cl outer) (call (.ref 54) []) Q E s := by
  refine wpAny_call ?_
  k_dflt cell_enter
  k_steps
  exact hret _ _ _ _ _ (by k_asm) (by k_asm) (by assumption) (by assumption) (by assumption)
theorem off_top15 : True := by w_top off; trivial
/-! a for over any source, on a ground that may move -/
noncomputable def SrcG (prog : Program) (w : World) (A : Around) (n : Nat) (P : Nat → Value → Prop) (src : List (Addr × Obj)) (xv : Value) (s₁ : Shared) : Prop :=
  ∀ (Q' E : Value → Shared → Prop), (∀ (fp : List Addr) (St : Nat → Heap → Prop) (oI : Obj) (tk : Nat), oI.isFreed = false → Walks prog w A s₁.heap.objs.size fp [s₁.heap.objs.size] n P St → (∀ b ∈ fp, b = s₁.heap.objs.size ∨ ∃ o, (b, o) ∈ src) → (∀ i h, St i h → ∃ o, h.get? s₁.heap.objs.size = some o) →
    St 0 (s₁.heap.push oI) → Q' (.ref s₁.heap.objs.size) { s₁ with heap := s₁.heap.push oI, toks := tk }) → wpAny (model prog w) A (pyIter xv) Q' E s₁
noncomputable def TurnG (G : Heap → Prop) (L : Addr) (s₁ : Shared) (Q : Flow → Shared → Prop) (J : (Str → Option Value) → List (Addr × Obj) → Prop) (I : Addr) (oI : Obj) (f : Flow) (s' : Shared) : Prop :=
  match f with
  | .ret r => Q (.ret r) s'
  | .brk => False
  | _ => ∃ h₀ m news h tk, s' = { s₁ with heap := h, toks := tk } ∧ G h₀ ∧ Fr h₀ L h m ∧ News h₀ L h ((I, oI) :: news) ∧ (∀ p ∈ news, p.1 ≠ I) ∧ J m news
theorem TurnG.next {G : Heap → Prop} {L : Addr} {s₁ : Shared} {Q : Flow → Shared → Prop} {J : (Str → Option Value) → List (Addr × Obj) → Prop} {I : Addr} {oI : Obj} {h₀ h : Heap} {m : Str → Option Value} {news : List (Addr × Obj)} {tk : Nat}
    (g : G h₀) (F : Fr h₀ L h m) (N : News h₀ L h ((I, oI) :: news)) (ne : ∀ p ∈ news, p.1 ≠ I) (hJ : J m news) : TurnG G L s₁ Q J I oI .next { s₁ with heap := h, toks := tk } := ⟨h₀, m, news, h, tk, rfl, g, F, N, ne, hJ⟩
theorem TurnG.ret {G : Heap → Prop} {L : Addr} {s₁ s' : Shared} {Q : Flow → Shared → Prop} {J : (Str → Option Value) → List (Addr × Obj) → Prop} {I : Addr} {oI : Obj} {r : Value} (h : Q (.ret r) s') : TurnG G L s₁ Q J I oI (.ret r) s' := h
noncomputable def LoopG (prog : Program) (w : World) (A : Around) (env : Env) (x : Str) (body : List Stmt) (Q : Flow → Shared → Prop) (E : Value → Shared → Prop) (xv : Value) (s₁ : Shared) : Prop :=
  ∃ (G : Heap → Prop) (n : Nat) (P : Nat → Value → Prop) (src : List (Addr × Obj)) (J : Nat → (Str → Option Value) → List (Addr × Obj) → Prop) (h₀ : Heap) (m : Str → Option Value) (news : List (Addr × Obj)),
    G h₀ ∧ Fr h₀ env.locals s₁.heap m ∧ News h₀ env.locals s₁.heap news ∧ (∀ i m news, J i m news → ∀ p ∈ src, p ∈ news) ∧ J 0 m news ∧ SrcG prog w A n P src xv s₁ ∧
    (∀ i v h₀ m news I oI h tk, i < n → P i v → G h₀ → J i m news → (∀ p ∈ news, p.1 ≠ I) → Fr h₀ env.locals h (fun y => if y = x then some v else m y) → News h₀ env.locals h ((I, oI) :: news) →
      wpAny (model prog w) A (execs body env) (TurnG G env.locals s₁ Q (J (i + 1)) I oI) E { s₁ with heap := h, toks := tk }) ∧
    ∀ h₀ m news h tk, G h₀ → J n m news → Fr h₀ env.locals h m → News h₀ env.locals h news → Q .next { s₁ with heap := h, toks := tk }
/-- between two turns -/
inductive AtG (St : Nat → Heap → Prop) (G : Heap → Prop) (L I : Addr) (J : Nat → (Str → Option Value) → List (Addr × Obj) → Prop) (n : Nat) (s₁ : Shared) (k : Nat) (s' : Shared) : Prop
  | mk (i : Nat) (h₀ : Heap) (m : Str → Option Value) (news : List (Addr × Obj)) (oI : Obj) (h : Heap) (tk : Nat) (e : s' = { s₁ with heap := h, toks := tk }) (st : St i h) (g : G h₀) (F : Fr h₀ L h m) (N : News h₀ L h ((I, oI) :: news)) (ne : ∀ p ∈ news, p.1 ≠ I) (hJ : J i m news) (hi : i ≤ n) (hk : k = n + 1 - i) : AtG St G L I J n s₁ k s'
theorem nat_less {n i : Nat} (h : i < n) : n + 1 - (i + 1) < n + 1 - i := by omega
section
variable {prog : Program} {w : World} {A : Around} {s : Shared} {env : Env}
theorem For_G {E : Value → Shared → Prop} {Q : Flow → Shared → Prop} {x : Str} {px pos : Pos} {iter : PySem.Expr} {body : List Stmt} (hx : env.kindOf x = some .local)
    (hp : (env.scope.kind == .class || (env.scope.kind == .module && env.locals != env.globals)) = false)
    (h : wpAny (model prog w) A (eval iter env) (LoopG prog w A env x body Q E) E s)
    (hs : ∀ x, foldedSetIterable iter env x = pure x := by intro _; rfl)
    (hE : PassesOwn (model prog w) A env E := by passes_own) :
    wpAny (model prog w) A (exec (.For (.Name x px) iter body [] pos) env) Q E s := by
  refine wpAny_For (wpAny_mono h (fun xv s₁ h₁ => ?_) fun _ _ e => e) hs
  obtain ⟨G, n, P, src, J, h₀, m, news, g, F, N, hsrc, h0, it, turn, done⟩ := h₁
  refine it _ _ fun fp St oI tk hfr W hfp live st => ?_
  have Iout : ∀ g, Fr g env.locals s₁.heap m → g.get? s₁.heap.objs.size = none := fun g F => by
    cases q : g.get? s₁.heap.objs.size with
    | none => rfl
    | some o => exact absurd (Heap.lt_size (F.keep _ _ q)) (Nat.lt_irrefl _)
  have neL : s₁.heap.objs.size ≠ env.locals := Nat.ne_of_gt F.ns.lt
  have Lfp : env.locals ∉ fp := fun hb => by
    rcases hfp _ hb with z | ⟨o, ho⟩
    · exact neL z.symm
    · exact (N _ (hsrc _ _ _ h0 _ ho)).2.1 rfl
  refine codeAny_forLoop (AtG St G env.locals s₁.heap.objs.size J n s₁) ?_ (n + 1)
    ⟨0, h₀, m, news, oI, _, tk, rfl, st, g, F.push _, (fun p hp => by
      rcases List.mem_cons.mp hp with rfl | hp
      · exact ⟨Heap.get?_push_size _ hfr, neL, Iout _ F⟩
      · exact ⟨Heap.get?_push_of_some _ (N p hp).1, (N p hp).2⟩), (fun p hp => Nat.ne_of_lt (Heap.lt_size (N p hp).1)), h0, Nat.zero_le _, rfl⟩
  rintro k s' ⟨i, h₀, m, news, oI, h, tk, rfl, st, g, F, N, ne, hJ, hi, rfl⟩
  have Inone := (N _ (.head _)).2.2
  have next : ∀ h₁ : Heap, (∀ b o, b ∉ [s₁.heap.objs.size] → h.get? b = some o → h₁.get? b = some o) → Fr h₀ env.locals h₁ m ∧ News h₀ env.locals h₁ news := fun h₁ hk =>
    ⟨⟨F.ns.at' fun o e => hk _ o (fun q => neL (List.mem_singleton.mp q).symm) e, fun b o e => hk b o (fun q => by rw [List.mem_singleton.mp q] at e; rw [Inone] at e; cases e) (F.keep b o e), F.above⟩,
      fun p hp => ⟨hk _ _ (fun q => ne p hp (List.mem_singleton.mp q)) (N p (.tail _ hp)).1, (N p (.tail _ hp)).2⟩⟩
  by_cases hlt : i < n
  · refine W.item i _ _ _ hlt st fun v h₁ tk₁ hP st₁ hk₁ => ?_
    obtain ⟨F₁, N₁⟩ := next h₁ hk₁
    refine wpAny_assign_Name (wpAny_storeName_local hx F₁.ns (fun h₂ hn₂ hs₂ => ?_) hp)
    have F₂ := F₁.set hn₂ hs₂
    have st₂ : St (i + 1) h₂ := W.frame _ _ _ st₁ fun b hb o e => (hs₂.2 b fun q => Lfp (q ▸ hb)).trans e
    obtain ⟨o₂, ho₂⟩ := live _ _ st₂
    have N₂ : News h₀ env.locals h₂ ((s₁.heap.objs.size, o₂) :: news) := fun p hp => by
      rcases List.mem_cons.mp hp with rfl | hp
      · exact ⟨ho₂, neL, Inone⟩
      · exact (N₁.set hs₂) p hp
    refine wpAny_passesOwn hE (wpAny_mono (turn i v h₀ m news _ o₂ h₂ _ hlt hP g hJ ne F₂ N₂) (fun f s₃ hf => ?_) fun _ _ e => e)
    have fin : (∃ h₀ m news h tk, s₃ = ({ s₁ with heap := h, toks := tk } : Shared) ∧ G h₀ ∧ Fr h₀ env.locals h m ∧ News h₀ env.locals h ((s₁.heap.objs.size, o₂) :: news) ∧ (∀ p ∈ news, p.1 ≠ s₁.heap.objs.size) ∧ J (i + 1) m news) →
        ∃ k, k < n + 1 - i ∧ AtG St G env.locals s₁.heap.objs.size J n s₁ k s₃ := by
      rintro ⟨h₀', m', news', h', tk', rfl, g', F', N', ne', hJ'⟩
      refine ⟨n + 1 - (i + 1), nat_less hlt, i + 1, h₀', m', news', o₂, h', tk', rfl, ?_, g', F', N', ne', hJ', hlt, rfl⟩
      refine W.frame _ _ _ st₂ fun b hb o e => ?_
      rcases hfp b hb with rfl | ⟨ob, hob⟩
      · rw [ho₂] at e; cases e; exact (N' _ (.head _)).1
      · have e₁ := (N₂ _ (.tail _ (hsrc _ _ _ hJ _ hob))).1
        rw [e] at e₁; cases e₁
        exact (N' _ (.tail _ (hsrc _ _ _ hJ' _ hob))).1
    cases f with
    | ret r => exact hf
    | brk => exact hf.elim
    | next => exact fin hf
    | cont => exact fin hf
  · have hin : i = n := Nat.le_antisymm hi (Nat.le_of_not_lt hlt)
    subst hin
    refine W.done _ _ _ st fun h₁ tk₁ hk₁ => wpAny_execs_nil ?_
    obtain ⟨F₁, N₁⟩ := next h₁ hk₁
    exact done h₀ m news h₁ tk₁ g hJ F₁ N₁
theorem srcG_list {h₀ : Heap} {L : Addr} {news : List (Addr × Obj)} {a : Addr} {vs : List Value} {k : Nat} (hh : A.handled = none) (N : News h₀ L s.heap news) (hm : (a, listOf vs.toArray k) ∈ news) :
    SrcG prog w A vs.length (fun i v => vs[i]? = some v) [(a, listOf vs.toArray k)] (.ref a) s := by
  intro Q' E hQ
  have hT := isListN N hm
  have hlt := Heap.lt_size (N _ hm).1
  refine wpAny_pyIter_list hT ?_
  have W := Walks.list (prog := prog) (w := w) hh s.heap.objs.size a (Nat.ne_of_lt hlt) vs.toArray
  refine hQ _ _ _ s.toks rfl { W with item := fun i s Q E hi st hq => W.item i s Q E (by simpa using hi) st fun v h' tk hv => hq v h' tk (by simpa using hv), done := fun s Q E st hq => W.done s Q E (by simpa using st) hq } (fun b hb => ?_) (fun i h st => by obtain ⟨o, e, _⟩ := st.1; exact ⟨o, e⟩) ⟨⟨_, Heap.get?_push_size _ rfl, rfl, rfl⟩, hT.push _⟩
  rcases List.mem_cons.mp hb with rfl | hb
  · exact .inl rfl
  · rw [List.mem_singleton.mp hb]; exact .inr ⟨_, .head _⟩
theorem srcG_dic {h₀ : Heap} {L : Addr} {news : List (Addr × Obj)} {a : Addr} {o : Obj} {kvs : List (Str × Value)} (hh : A.handled = none) (N : News h₀ L s.heap news) (hlo : (a == sysModules) = false) (hm : (a, o) ∈ news) (hd : o.IsDictOf (PySem.strKind prog w) kvs) :
    SrcG prog w A kvs.length (fun i v => ∃ k x tok, kvs[i]? = some (k, x) ∧ v = .str k tok) [(a, o)] (.ref a) s := by
  intro Q' E hQ
  obtain ⟨es, ep, hc, hdt, hk, hp, hn⟩ := hd
  have ho := (N _ hm).1
  have hlt := Heap.lt_size ho
  have hcls : o.cls = .type "dict" := hc.1
  have hl := hp.length
  refine pyIter_dictX hlo ho hcls hdt ?_
  have W := walks_dictX (prog := prog) (w := w) hh s.heap.objs.size a (Nat.ne_of_lt hlt) es ep
  rw [Array.length_toList] at hl
  refine hQ _ _ _ s.toks rfl { W with item := fun i s Q E hi st hq => W.item i s Q E (by omega) st fun v h' tk hv => hq v h' tk ?_, done := fun s Q E st hq => W.done s Q E (by have := st; rw [← hl] at this; exact this) hq } (fun b hb => ?_) (fun i h st => by obtain ⟨o, e, _⟩ := st.1; exact ⟨o, e⟩) ⟨⟨_, Heap.get?_push_size _ rfl, rfl, by simp⟩, _, Heap.get?_push_of_some _ ho, hcls, hdt⟩
  · obtain ⟨e, he, rfl⟩ := hv
    have hi' : i < kvs.length := hi
    obtain ⟨hkey, hval⟩ := hp.get? (e := e) (by simpa using he) (List.getElem?_eq_getElem hi')
    obtain ⟨tok, ht⟩ := Value.isStrOf_shape hkey
    exact ⟨kvs[i].1, kvs[i].2, tok, List.getElem?_eq_getElem hi', ht⟩
  · rcases List.mem_cons.mp hb with rfl | hb
    · exact .inl rfl
    · rw [List.mem_singleton.mp hb]; exact .inr ⟨_, .head _⟩
noncomputable abbrev rangeO (n : Int) (t u v : Tok) : Obj := { cls := .type "range", data := .fields #[.int 0 t, .int n u, .int 1 v] }
theorem srcG_range {h₀ : Heap} {L : Addr} {news : List (Addr × Obj)} {a : Addr} {n : Nat} {t u v : Tok} (hh : A.handled = none) (N : News h₀ L s.heap news) (hm : (a, rangeO n t u v) ∈ news) (hn : n ≤ 1000) :
    SrcG prog w A n (fun i v => ∃ t, v = .int (i : Nat) t) [(a, rangeO n t u v)] (.ref a) s := by
  intro Q' E hQ
  have hr : IsRange s.heap a 0 n 1 t u v := (N _ hm).1
  have hs : Builtin.Range.rangeSize 0 (n : Int) 1 = n := by
    unfold Builtin.Range.rangeSize
    rw [if_pos (by decide)]
    split
    · rw [Int.ediv_one]; omega
    · omega
  refine wpAny_pyIter_range hr (by unfold Builtin.Range.small Builtin.Range.rangeFitsLong; rw [hs]; simp; omega) ?_
  have W := Walks.range (prog := prog) (w := w) hh s.heap.objs.size 0 1 n
  refine hQ _ _ _ s.toks rfl { W with item := fun i s Q E hi st hq => W.item i s Q E hi st fun v h' tk hv => hq v h' tk (by simpa using hv) } (fun b hb => .inl (List.mem_singleton.mp hb)) (fun i h st => ⟨_, st⟩) ?_
  show IsRangeIter _ _ _ _ _
  rw [hs]
  simpa using Heap.get?_push_size _ rfl
theorem range_K {h₀ : Heap} {L : Addr} {m : Str → Option Value} {news : List (Addr × Obj)} {n : Int} {t : Tok} {E Q : Value → Shared → Prop} (F : Fr h₀ L s.heap m) (N : News h₀ L s.heap news)
    (h : ∀ a u v h' tk, Fr h₀ L h' m → News h₀ L h' ((a, rangeO n u t v) :: news) → Q (.ref a) { s with heap := h', toks := tk }) : wpAny (model prog w) A (call (.type "range") [.int n t]) Q E s :=
  call_range_1 (h _ _ _ _ _ (F.push _) (news_pushed F N (fun _ _ e => Heap.get?_push_of_some _ e) (Heap.get?_push_size _ rfl) rfl))
end
noncomputable def TurnS (s₁ : Shared) (g₀ : Heap) (L : Addr) (x : Str) (m₀ : Str → Option Value) (led : List (Addr × Obj)) (Q : Flow → Shared → Prop) (I : Addr) (oI : Obj) (ok : Bool) (f : Flow) (s' : Shared) : Prop :=
  match f with
  | .ret r => Q (.ret r) s'
  | .brk => False
  | _ => ok = true ∧ ∃ h tk m', s' = { s₁ with heap := h, toks := tk } ∧ Fr g₀ L h m' ∧ (∀ z, z ≠ x → m' z = m₀ z) ∧ News g₀ L h ((I, oI) :: led)
theorem TurnS.next {s₁ : Shared} {g₀ h : Heap} {L : Addr} {x : Str} {m₀ : Str → Option Value} {led news : List (Addr × Obj)} {Q : Flow → Shared → Prop} {I : Addr} {oI : Obj} {ok : Bool} {tk : Nat} {u : Option Value}
    (F : Fr g₀ L h (fun y => if y = x then u else m₀ y)) (N : News g₀ L h news) (hs : ∀ p ∈ (I, oI) :: led, p ∈ news) (hg : ok = true) : TurnS s₁ g₀ L x m₀ led Q I oI ok .next { s₁ with heap := h, toks := tk } :=
  ⟨hg, h, tk, _, rfl, F, fun z hz => if_neg hz, fun p hp => N p (hs p hp)⟩
theorem TurnS.ret {s₁ s' : Shared} {g₀ : Heap} {L : Addr} {x : Str} {m₀ : Str → Option Value} {led : List (Addr × Obj)} {Q : Flow → Shared → Prop} {I : Addr} {oI : Obj} {ok : Bool} {r : Value} (h : Q (.ret r) s') : TurnS s₁ g₀ L x m₀ led Q I oI ok (.ret r) s' := h
section
variable {prog : Program} {w : World} {A : Around} {E : Value → Shared → Prop} {s₁ : Shared} {env : Env} {x : Str} {body : List Stmt} {Q : Flow → Shared → Prop} {g₀ : Heap} {m₀ : Str → Option Value} {led : List (Addr × Obj)}
theorem search_src {n : Nat} {P : Nat → Value → Prop} {src : List (Addr × Obj)} {xv : Value} (F : Fr g₀ env.locals s₁.heap m₀) (N : News g₀ env.locals s₁.heap led) (hsrc : ∀ p ∈ src, p ∈ led) (it : SrcG prog w A n P src xv s₁) (ok : Nat → Bool)
    (turn : ∀ i v I oI h tk, i < n → P i v → (∀ j, j < i → ok j = true) → (∀ p ∈ led, p.1 ≠ I) → Fr g₀ env.locals h (fun y => if y = x then some v else m₀ y) → News g₀ env.locals h ((I, oI) :: led) →
      wpAny (model prog w) A (execs body env) (TurnS s₁ g₀ env.locals x m₀ led Q I oI (ok i)) E { s₁ with heap := h, toks := tk })
    (done : (∀ j, j < n → ok j = true) → ∀ h tk u, Fr g₀ env.locals h (fun z => if z = x then u else m₀ z) → News g₀ env.locals h led → Q .next { s₁ with heap := h, toks := tk }) : LoopG prog w A env x body Q E xv s₁ := by
  refine ⟨fun g => g = g₀, n, P, src, fun i m' nw => nw = led ∧ (∀ z, z ≠ x → m' z = m₀ z) ∧ ∀ j, j < i → ok j = true, g₀, m₀, led, rfl, F, N, ?_, ⟨rfl, fun _ _ => rfl, fun _ h => absurd h (Nat.not_lt_zero _)⟩, it, ?_, ?_⟩
  · rintro i m' nw ⟨rfl, _⟩ q hq
    exact hsrc q hq
  · rintro i v h₀ m₁ nw I oI h tk hi hv rfl ⟨rfl, hm₁, hP⟩ ne F₁ N₁
    rw [map_x hm₁] at F₁
    refine wpAny_mono (turn i v I oI h tk hi hv hP ne F₁ N₁) (fun f s' hf => ?_) fun _ _ e => e
    have fin : ok i = true ∧ (∃ h tk m', s' = ({ s₁ with heap := h, toks := tk } : Shared) ∧ Fr h₀ env.locals h m' ∧ (∀ z, z ≠ x → m' z = m₀ z) ∧ News h₀ env.locals h ((I, oI) :: nw)) →
        ∃ h₀' m news h tk, s' = ({ s₁ with heap := h, toks := tk } : Shared) ∧ h₀' = h₀ ∧ Fr h₀' env.locals h m ∧ News h₀' env.locals h ((I, oI) :: news) ∧ (∀ p ∈ news, p.1 ≠ I) ∧ news = nw ∧ (∀ z, z ≠ x → m z = m₀ z) ∧ ∀ j, j < i + 1 → ok j = true := by
      rintro ⟨hok, h', tk', m', rfl, F', hm', N'⟩
      refine ⟨h₀, m', nw, h', tk', rfl, rfl, F', N', ne, rfl, hm', fun j hj => ?_⟩
      rcases Nat.lt_succ_iff_lt_or_eq.mp hj with hj | rfl
      · exact hP j hj
      · exact hok
    cases f with
    | ret r => exact hf
    | brk => exact hf.elim
    | next => exact fin hf
    | cont => exact fin hf
  · rintro h₀ m' nw h tk rfl ⟨rfl, hm', hP⟩ F' N'
    exact done hP h tk (m' x) (by rw [done_x hm']; exact F') N'
end
local macro_rules | `(tactic| walk_at "m for") => `(tactic| (k_here; (with_unfolding_all refine' For_G ?k1 ?k2 ?_; (case k1 | k2 => exact rfl); k_whole)))
local macro_rules | `(tactic| walk_at "exec For Name Call cons nil") => `(tactic| walk_at "m for")
local macro_rules | `(tactic| walk_at "exec For Name Name cons nil") => `(tactic| walk_at "m for")
local macro_rules | `(tactic| walk_at "exec For Name BinOp cons nil") => `(tactic| walk_at "m for")
local macro_rules | `(tactic| walk_at "exec For Name List cons nil") => `(tactic| walk_at "m for")
local macro_rules | `(tactic| walk_at "exec For Name Subscript cons nil") => `(tactic| walk_at "m for")
theorem off_top16 : True := by w_top off; trivial
/-! rows -/
theorem seqIndex_nat {i n : Nat} (h : i < n) : seqIndex? (i : Int) n = some i := by
  unfold seqIndex?
  have h1 : ¬ ((i : Int) < 0) := by omega
  have h2 : (i : Int) < (n : Int) := by omega
  simp [h1, h2, h]
inductive DenR (news : List (Addr × Obj)) : List Value → List T → Prop
  | nil : DenR news [] []
  | cons {v : Value} {vs : List Value} {d : T} {ds : List T} : Den news v d → DenR news vs ds → DenR news (v :: vs) (d :: ds)
theorem DenR.mono {news news' : List (Addr × Obj)} (hs : ∀ p ∈ news, p ∈ news') {vs ds} (h : DenR news vs ds) : DenR news' vs ds := by
  induction h with
  | nil => exact .nil
  | cons a _ ih => exact .cons (a.mono hs) ih
theorem DenR.length {news vs ds} (h : DenR news vs ds) : vs.length = ds.length := by
  induction h with
  | nil => rfl
  | cons _ _ ih => rw [List.length_cons, List.length_cons, ih]
theorem DenR.get {news vs ds} (h : DenR news vs ds) {i : Nat} {d : T} (hd : ds[i]? = some d) : ∃ v, vs[i]? = some v ∧ Den news v d := by
  induction h generalizing i with
  | nil => cases hd
  | cons a _ ih => cases i with
    | zero => cases hd; exact ⟨_, rfl, a⟩
    | succ i => exact ih hd
noncomputable def RowAt (news : List (Addr × Obj)) (a : Addr) (nm : Str) (ds : List T) : Prop := ∃ t ops n, (a, tupO (.str nm t :: ops) n) ∈ news ∧ DenR news ops ds ∧ ds.length ≤ 8
theorem RowAt.mono {news news' : List (Addr × Obj)} (hs : ∀ p ∈ news, p ∈ news') {a nm ds} (h : RowAt news a nm ds) : RowAt news' a nm ds := by
  obtain ⟨t, ops, n, hm, hd, hl⟩ := h
  exact ⟨t, ops, n, hs _ hm, hd.mono hs, hl⟩
section
variable {prog : Program} {w : World} {A : Around} {E : Value → Shared → Prop} {s : Shared} {h₀ : Heap} {L : Addr} {m : Str → Option Value} {news n₁ : List (Addr × Obj)} {Q : Value → Shared → Prop} {a : Addr} {nm : Str} {ds : List T}
theorem isi_row (N : News h₀ L s.heap news) (R : RowAt n₁ a nm ds) (hs : ∀ p ∈ n₁, p ∈ news) (h : Q (.bool true) s) : wpAny (model prog w) A (call (.builtin "isinstance") [.ref a, .type "tuple"]) Q E s := by
  obtain ⟨t, ops, n, hm, _⟩ := R
  have hT := isTuple N (hs _ hm)
  exact call_isinstance_yes (Tx := "tuple") hT.typeIs (by kernel_rfl) (by rw [isSubtype_type]; kernel_rfl) h
theorem len_row (N : News h₀ L s.heap news) (R : RowAt n₁ a nm ds) (hs : ∀ p ∈ n₁, p ∈ news) (h : ∀ tk tk', Q (.int (ds.length + 1 : Nat) tk) { s with toks := tk' }) : wpAny (model prog w) A (call (.builtin "len") [.ref a]) Q E s := by
  obtain ⟨t, ops, n, hm, hd, hl⟩ := R
  have e := hd.length
  refine len_tuple (News.isTup N (hs _ hm)) (by simp; omega) ?_
  have := h (s.toks + 1) (s.toks + 1 + 1)
  rw [← e] at this
  simpa using this
theorem item0_row {value slice : PySem.Expr} {k : Tok} (N : News h₀ L s.heap news) (R : RowAt n₁ a nm ds) (hs : ∀ p ∈ n₁, p ∈ news) (h : ∀ t, Q (.str nm t) s)
    (hsub : ∀ a, subscripted slice false (.ref a) (.int 0 k) = operate [.ref a, .int 0 k] (getItem (.ref a) (.int 0 k)) := by intro a; with_unfolding_all rfl) :
    wpAny (model prog w) A (subscriptTail value slice (.ref a) (.int 0 k)) Q E s := by
  obtain ⟨t, ops, n, hm, hd, hl⟩ := R
  exact item_tupleT (News.isTup N (hs _ hm)) (by decide) (by decide) (j := 0) (seqIndex_nat (i := 0) (by simp)) rfl (h t) (hsub a)
theorem item_row {value slice : PySem.Expr} {k : Tok} {i : Nat} {d : T} (N : News h₀ L s.heap news) (R : RowAt n₁ a nm ds) (hs : ∀ p ∈ n₁, p ∈ news) (hi : ds[i]? = some d) (h : ∀ v, Den n₁ v d → Q v s)
    (hsub : ∀ a, subscripted slice false (.ref a) (.int ((i : Int) + 1) k) = operate [.ref a, .int ((i : Int) + 1) k] (getItem (.ref a) (.int ((i : Int) + 1) k)) := by intro a; with_unfolding_all rfl) :
    wpAny (model prog w) A (subscriptTail value slice (.ref a) (.int ((i : Int) + 1) k)) Q E s := by
  obtain ⟨t, ops, n, hm, hd, hl⟩ := R
  obtain ⟨v, hv, hd'⟩ := hd.get hi
  have hi8 : i < 8 := Nat.lt_of_lt_of_le (List.getElem?_eq_some_iff.mp hi).1 hl
  have e := hd.length
  have hio := (List.getElem?_eq_some_iff.mp hv).1
  exact item_tupleT (News.isTup N (hs _ hm)) (by omega) (by omega) (j := i + 1) (by have := seqIndex_nat (i := i + 1) (n := (Value.str nm t :: ops).length) (by simp; exact hio); simpa using this) (by simpa using hv) (h v hd') (hsub a)
theorem item_ch {value slice : PySem.Expr} {ks : Str} {t k : Tok} {i : Nat} {c : Nat} (hi : ks.cps[i]? = some c) (hl : ks.length ≤ 100) (h : ∀ t', Q (.str ⟨#[c]⟩ t') { s with toks := s.toks + 1 })
    (hsub : subscripted slice false (.str ks t) (.int i k) = operate [.str ks t, .int i k] (getItem (.str ks t) (.int i k)) := by with_unfolding_all rfl) (hg : ∀ r, letTemporaryGo value (.str ks t) r = pure () := by intro _; with_unfolding_all rfl) :
    wpAny (model prog w) A (subscriptTail value slice (.str ks t) (.int i k)) Q E s := by
  have hi' : i < ks.cps.size := (Array.getElem?_eq_some_iff.mp hi).1
  have hl' : ks.cps.size ≤ 100 := hl
  refine subscriptTail_builtin (typeIs_str s ks t) F.slot_str_getitem.lookup (P.getItem_str (by simp; omega) ?_ (h _)) hsub hg
  rw [seqIndex_nat (show i < ks.length from hi')]
  exact hi
end
section
variable {prog : Program} {w : World} {A : Around} {E : Value → Shared → Prop} {s : Shared} {h₀ : Heap} {L : Addr} {m : Str → Option Value} {news : List (Addr × Obj)} {Q : Value → Shared → Prop} {tb : Addr} {o : Obj} {kvs : List (Str × Value)} {tbl : List (Str × Str)} {nm ks : Str} {t : Tok}
theorem notin_no (N : News h₀ L s.heap news) (hm : (tb, o) ∈ news) (hd : o.IsDictOf (PySem.strKind prog w) kvs) (hv : StrVals kvs tbl) (lo : (tb == sysModules) = false) (hk : tbl.lookup nm = none) (h : ∀ tk, Q (.bool true) { s with toks := tk }) :
    wpAny (model prog w) A (compareOp .NotIn (.str nm t) (.ref tb)) Q E s := by
  rcases hv.at nm with ⟨b, tok, e, _⟩ | ⟨_, e⟩
  · rw [hk] at e; cases e
  · exact kdg_notin (k := nm) N hm hd lo (by simp [PySem.strKind, Value.isStrOf]) false (by rw [e]; rfl) (h _)
theorem notin_yes (N : News h₀ L s.heap news) (hm : (tb, o) ∈ news) (hd : o.IsDictOf (PySem.strKind prog w) kvs) (hv : StrVals kvs tbl) (lo : (tb == sysModules) = false) (hk : tbl.lookup nm = some ks) (h : ∀ tk, Q (.bool false) { s with toks := tk }) :
    wpAny (model prog w) A (compareOp .NotIn (.str nm t) (.ref tb)) Q E s := by
  rcases hv.at nm with ⟨b, tok, _, e⟩ | ⟨e, _⟩
  · exact kdg_notin (k := nm) N hm hd lo (by simp [PySem.strKind, Value.isStrOf]) true (by rw [e]; rfl) (h _)
  · rw [hk] at e; cases e
theorem item_tbl {value slice : PySem.Expr} (N : News h₀ L s.heap news) (hm : (tb, o) ∈ news) (hd : o.IsDictOf (PySem.strKind prog w) kvs) (hv : StrVals kvs tbl) (hk : tbl.lookup nm = some ks) (h : ∀ t' tk, Q (.str ks t') { s with toks := tk })
    (hs : ∀ d, subscripted slice false (.ref d) (.str nm t) = operate [.ref d, .str nm t] (getItem (.ref d) (.str nm t)) := by intro d; with_unfolding_all rfl) (hg : ∀ d r, letTemporaryGo value (.ref d) r = pure () := by intro _ _; with_unfolding_all rfl) :
    wpAny (model prog w) A (subscriptTail value slice (.ref tb) (.str nm t)) Q E s := by
  rcases hv.at nm with ⟨b, tok, e1, e⟩ | ⟨e, _⟩
  · rw [hk] at e1
    cases e1
    exact kda_item (k := nm) N hm hd (by simp [PySem.strKind, Value.isStrOf]) e (h _ _) (hs _) (hg _)
  · rw [hk] at e; cases e
end
noncomputable def RaiseTo (w : World) (E : Value → Shared → Prop) (s : Shared) (base h₀ : Heap) (L : Addr) (m : Str → Option Value) (l : List Env) (news : List (Addr × Obj)) (msg : Str) : Prop :=
  ∀ e dx t1 t h' tk g, Fr h₀ L g m → RaisedD base g l e dx ((dx, lfDict w t1 msg t) :: news) h' → g.UpToSlots h' → E (.ref e) { s with heap := h', toks := tk }
noncomputable def okAt (q : Str → T → Bool) (ks : Str) (ds : List T) (i : Nat) : Bool := match ks.cps[i]?, ds[i]? with
  | some c, some d => q ⟨#[c]⟩ d
  | _, _ => false
noncomputable def digit : Nat → Str
  | 0 => "1"
  | 1 => "2"
  | 2 => "3"
  | _ => "4"
noncomputable def wrongAt (nm : Str) (i : Nat) : Str := Str.empty ++ ("wrong operand " : Str) ++ digit i ++ (" of " : Str) ++ nm
noncomputable def rowSays (q : Str → T → Bool) (k : Option Str) (nm : Str) (ds : List T) : Str := match k with
  | none => ("unknown instruction: " : Str) ++ nm
  | some ks => if ds.length = ks.length then (match (List.range ks.length).find? (fun i => !okAt q ks ds i) with | none => "" | some i => wrongAt nm i) else ("wrong number of operands: " : Str) ++ nm
theorem RaisedD.less {base G : Heap} {l : List Env} {e dx : Addr} {news led : List (Addr × Obj)} {h : Heap} (R : RaisedD base G l e dx led h) (hs : ∀ p ∈ news, p ∈ led) : RaisedD base G l e dx news h :=
  let ⟨B, a, b, c, d⟩ := R; ⟨B, a, b, fun q hq => c q (hs q hq), d⟩
theorem raised {prog : Program} {w : World} {A : Around} {E ek : Value → Shared → Prop} {s s' : Shared} {base h₀ g : Heap} {l : List Env} {env : Env} {L L' : Addr} {m m' : Str → Option Value} {news led : List (Addr × Obj)} {msg : Str} {t1 t : Tok} {e dx : Addr}
    (Z : NewLF g s.heap e dx ((dx, lfDict w t1 msg t) :: led)) (F : Fr g L' s.heap m') (N : News g L' s.heap ((dx, lfDict w t1 msg t) :: led)) (hsub : ∀ p ∈ news, p ∈ led) (B : Below A base l g) (X : (hd.heap_39 w.params).In g) (FG : Fr h₀ L g m)
    (hraise : RaiseTo w E s' base h₀ L m l news msg) (hf : env.frame = some L') (hk : env.scope.kind = .function) (hfr : A.frames = some l) (hs : s.gens = s'.gens ∧ s.drawn = s'.drawn ∧ s.os = s'.os)
    (hek : ∀ s₂, wpAny (model prog w) (A.deeper env) (leaving env (.ref e)) (fun _ s'' => E (.ref e) s'') (fun e' s'' => E e' s'') s₂ → ek (.ref e) s₂) : RaisableD w.params ek (.ref e) s := by
  obtain ⟨h7, h6, oe, vs, h5, h4, h3, h2, h1⟩ := Z
  refine ⟨_, _, _, rfl, X.keeps F.keep, h5, h4, h2, h1, hek _ (leave_madeD hf hk B F N h7 h6 h5 h4 h3 h2 h1 hfr fun h' R' U' => ?_)⟩
  have z : ({ s with heap := h' } : Shared) = { s' with heap := h', toks := s.toks } := by rw [hs.1, hs.2.1, hs.2.2]
  rw [z]; exact hraise _ _ _ _ _ _ _ FG (R'.less fun q hq => (List.mem_cons.mp hq).elim (fun e => e ▸ .head _) fun hq => .tail _ (hsub q hq)) U'
local macro_rules | `(tactic| walk_at "exec Raise some none") => `(tactic| (k_here; k_dflt (refine' Raise_D ?h ?_; (case h => exact rfl); k_whole)))
local macro_rules | `(tactic| walk_at "call ref") => `(tactic| (k_here; k_dflt ((with_reducible show wpAny _ _ (call (Value.ref 45) _) _ _ _); refine' c_LF ?A ?d ?u ?F ?X ?N ?_; (case A => exact rfl); (case F | X | N => k_asm); (case d => ktr_room); (case u => ktr_units); k_whole); intro _ _ _ _ _ _ _ _))
local macro_rules | `(tactic| walk_at "call builtin:isinstance") => `(tactic| (k_here; k_dflt ((with_reducible show wpAny _ _ (call (Value.builtin "isinstance") [Value.ref _, Value.type "tuple"]) _ _ _); refine' isi_row ?N ?R ?s ?_; (case N => k_asm); (case R => with_reducible assumption); (case s => walk_at "m s"); k_whole)))
local macro_rules | `(tactic| walk_at "call builtin:len") => `(tactic| (k_here; k_dflt ((with_reducible show wpAny _ _ (call (Value.builtin "len") [Value.ref _]) _ _ _); refine' len_row ?N ?R ?s ?_; (case N => k_asm); (case R => with_reducible assumption); (case s => walk_at "m s"); k_whole); intro _ _))
local macro_rules | `(tactic| walk_at "subscriptTail") => `(tactic| (k_here; k_dflt (first
  | ((with_reducible show wpAny _ _ (subscriptTail _ _ (Value.ref _) (Value.int 0 _)) _ _ _); refine' item0_row ?N ?R ?s ?_ ?q; (case N => k_asm); (case R => with_reducible assumption); (case s => walk_at "m s"); (case q => walk_at "m q"); k_whole; intro _)
  | ((with_reducible show wpAny _ _ (subscriptTail _ _ (Value.ref _) (Value.str _ _)) _ _ _); refine' item_tbl ?N ?m ?d ?v ?k ?_ ?q ?g; (case N => k_asm); (case m => k_mem); (case d | v | k => with_reducible assumption); (case q => walk_at "m q"); (case g => walk_at "m r"); k_whole; intro _ _))))
local macro_rules | `(tactic| walk_at "compareOp NotIn") => `(tactic| (k_here; k_dflt (first
  | ((with_reducible show wpAny _ _ (compareOp CmpOp.NotIn (Value.str _ _) (Value.ref _)) _ _ _); refine' notin_no ?N ?m ?d ?v ?l ?k ?_; (case N => k_asm); (case m => k_mem); (case d | v | l | k => with_reducible assumption); k_whole)
  | ((with_reducible show wpAny _ _ (compareOp CmpOp.NotIn (Value.str _ _) (Value.ref _)) _ _ _); refine' notin_yes ?N ?m ?d ?v ?l ?k ?_; (case N => k_asm); (case m => k_mem); (case d | v | l | k => with_reducible assumption); k_whole)); intro _))
theorem off_top17 : True := by w_top off; trivial
noncomputable def Few (ks : Str) : Prop := ks.length ≤ 4
theorem len_ks {prog : Program} {w : World} {A : Around} {E Q : Value → Shared → Prop} {s : Shared} {ks : Str} {t : Tok} (hf : Few ks) (h : ∀ tk tk', Q (.int ks.length tk) { s with toks := tk' }) : wpAny (model prog w) A (call (.builtin "len") [.str ks t]) Q E s := by
  have : ks.length ≤ 4 := hf
  exact P.len_str (by omega) (h _ _)
theorem fmt_digit {prog : Program} {w : World} {A : Around} {E Q : Value → Shared → Prop} {s : Shared} {i : Nat} {t : Tok} (hi : i < 4) (h : ∀ t' tk, Q (.str (digit i) t') { s with toks := tk }) : wpAny (model prog w) A (formatField (.int ((i : Int) + 1) t) Str.empty) Q E s := by
  have e : ((toString ((i : Int) + 1) : String) : Str) = digit i := by
    rcases i with _ | _ | _ | _ | i
    · decide +kernel
    · decide +kernel
    · decide +kernel
    · decide +kernel
    · omega
  refine wpAny_formatField_int ?_ (e ▸ h _ _)
  have : ((i : Int) + 1).natAbs ≤ 4 := by omega
  exact Nat.lt_of_le_of_lt (Nat.log2_le_self _) (by omega)
theorem len_app (x y : Str) : (x ++ y).length = x.length + y.length := by
  show (x.cps ++ y.cps).size = _
  rw [Array.size_append]; rfl
theorem len_digit (i : Nat) : (digit i).length = 1 := by
  unfold digit
  split <;> rfl
theorem len_w : (Str.ofString "wrong operand ").length = 14 := by decide +kernel
theorem len_o : (Str.ofString " of ").length = 4 := by decide +kernel
theorem len_e : Str.empty.length = 0 := rfl
theorem joinE {M : Model} {A : Around} {E : Value → Shared → Prop} {s : Shared} {env : Env} {out : Str} {Q : Value → Shared → Prop} (hsz : out.length ≤ sizeLine) (h : ∀ t tk, Q (.str out t) { s with toks := tk }) : wpAny M A (joinParts out (evalEach [] env)) Q E s :=
  joinParts_nilE (joinParts_nil (h _ _) hsz)
theorem item_eq {ks : Str} {i c : Nat} (h : ks.cps[i]? = some c) : Txt.item ks (i : Int) = ⟨#[c]⟩ := by
  have hi : i < ks.length := (Array.getElem?_eq_some_iff.mp h).1
  unfold Txt.item Txt.charAt
  rw [seqIndex_nat hi]
  simp [h]
theorem okAt_eq {q : Str → T → Bool} {ks : Str} {ds : List T} {i c : Nat} {d : T} (hc : ks.cps[i]? = some c) (hd : ds[i]? = some d) : okAt q ks ds i = q ⟨#[c]⟩ d := by simp only [okAt, hc, hd]
theorem says_wrong {q : Str → T → Bool} {ks nm : Str} {ds : List T} {i : Nat} (hl : ds.length = ks.length) (hi : i < ks.length) (hP : ∀ j, j < i → okAt q ks ds j = true) (hno : okAt q ks ds i = false) : rowSays q (some ks) nm ds = wrongAt nm i := by
  have : (List.range ks.length).find? (fun i => !okAt q ks ds i) = some i := List.find?_range_eq_some.mpr ⟨by rw [hno]; rfl, List.mem_range.mpr hi, fun j hj => by rw [hP j hj]; rfl⟩
  simp only [rowSays, if_pos hl, this]
theorem says_none {q : Str → T → Bool} {ks nm : Str} {ds : List T} (hl : ds.length = ks.length) (hP : ∀ j, j < ks.length → okAt q ks ds j = true) : rowSays q (some ks) nm ds = "" := by
  have : (List.range ks.length).find? (fun i => !okAt q ks ds i) = none := List.find?_eq_none.mpr fun j hj => by rw [hP j (List.mem_range.mp hj)]; simp
  simp only [rowSays, if_pos hl, this]
theorem says_num {q : Str → T → Bool} {ks nm : Str} {ds : List T} (hl : ¬ ds.length = ks.length) : rowSays q (some ks) nm ds = ("wrong number of operands: " : Str) ++ nm := by simp only [rowSays, if_neg hl]
theorem ne_of_len {x : Str} (h : 0 < x.length) : x ≠ "" := fun e => by rw [e] at h; exact absurd h (by decide)
theorem wrong_ne (nm : Str) (i : Nat) : wrongAt nm i ≠ "" := ne_of_len (by unfold wrongAt; simp only [len_app, len_digit, len_w]; omega)
theorem num_ne (nm : Str) : ("wrong number of operands: " : Str) ++ nm ≠ "" := ne_of_len (by rw [len_app]; exact Nat.lt_of_lt_of_le (by decide +kernel : 0 < (Str.ofString "wrong number of operands: ").length) (Nat.le_add_right _ _))
local macro_rules | `(tactic| walk_at "joinParts") => `(tactic| (k_here; (with_reducible show wpAny _ _ (joinParts _ (evalEach [] _)) _ _ _); k_dflt (refine' joinE ?z ?_; (case z => (refine Nat.le_trans (?_ : _ ≤ 1000) (by decide); simp only [len_app, len_digit, len_w, len_o, len_e]; omega)); k_whole); intro _ _))
local macro_rules | `(tactic| walk_at "formatField int") => `(tactic| (k_here; k_dflt ((with_reducible show wpAny _ _ (formatField (Value.int (_ + 1) _) Str.empty) _ _ _); refine' fmt_digit ?i ?_; (case i => with_reducible assumption); k_whole); intro _ _))
local macro_rules | `(tactic| walk_at "call ref") => `(tactic| (k_here; k_dflt ((with_reducible show wpAny _ _ (call (Value.ref 117) _) _ _ _); refine' c_is_operand _ ?_ ?_ ?_ ?_ ?_ ?_ ?_ ?_ ?_ ?_; walk_at "m t"); intro _ _ _ _; (try k_fold)))
local macro_rules | `(tactic| walk_at "subscriptTail") => `(tactic| (k_here; k_dflt (first
  | ((with_reducible show wpAny _ _ (subscriptTail _ _ (Value.ref _) (Value.int (_ + 1) _)) _ _ _); refine' item_row ?N ?R ?s ?i ?_ ?q; (case N => k_asm); (case R | i => with_reducible assumption); (case s => walk_at "m s"); (case q => walk_at "m q"); k_whole; intro _ _)
  | ((with_reducible show wpAny _ _ (subscriptTail _ _ (Value.str _ _) (Value.int _ _)) _ _ _); refine' item_ch ?i ?l ?_ ?q ?g; (case i => with_reducible assumption); (case l => exact Nat.le_trans (by with_reducible assumption : Few _) (by decide)); (case q => with_unfolding_all rfl); (case g => walk_at "m q"); k_whole; intro _))))
local macro_rules | `(tactic| walk_at "call builtin:len") => `(tactic| (k_here; k_dflt ((with_reducible show wpAny _ _ (call (Value.builtin "len") [Value.str _ _]) _ _ _); refine' len_ks ?f ?_; (case f => with_reducible assumption); k_whole); intro _ _))
local macro_rules | `(tactic| walk_at "call type:range") => `(tactic| (k_here; k_dflt ((with_reducible show wpAny _ _ (call (Value.type "range") [Value.int _ _]) _ _ _); refine' range_K ?F ?N ?_; (case F | N => k_asm); k_whole); intro _ _ _ _ _ _ _))
section
variable {prog : Program} {w : World} {p : Program} {loose : List Str} {mean : ExcName → Option Value} {mg mb : Str → Option Value} 
   {dp un : Nat} {gd : Option (List Code)} {cn : Str} {cs : Scope} {a : Addr} {ccd : Value} {cl : List (Str × Addr)} {outer : List Env} {A₀ : Around} {base h₀ : Heap} {L : Addr} {m : Str → Option Value} {news : List (Addr × Obj)} {s : Shared} {Q E : Value → Shared → Prop}
   {v tb : Addr} {o : Obj} {nm : Str} {ds : List T} {kvs : List (Str × Value)} {tbl : List (Str × Str)} {l : Bool}
theorem c_check_row_un (R : RowAt news v nm ds) (hm : (tb, o) ∈ news) (hkv : o.IsDictOf (PySem.strKind prog w) kvs) (hv : StrVals kvs tbl) (hlo : (tb == sysModules) = false) (hlk : tbl.lookup nm = none) (hnm : nm.length ≤ 100)
    (B : Below A₀ base outer h₀) (F : Fr h₀ L s.heap m) (X : (hd.heap_39 w.params).In h₀) (N : News h₀ L s.heap news) (T : Top p loose mean mg mb h₀) (hk : cs.kind = .function) 
    (hdp : dp + 20 < recursionLimit) (hu : un + 400 < cLine)
    (hraise : RaiseTo w E s base h₀ L m (envX cn cs L a ccd cl :: outer) news (rowSays (fun k d => isOp k l d) none nm ds)) :
    wpAny (model prog w) (ktrTop dp un gd cn cs L a ccd cl outer) (call (.ref 124) [.ref tb, .ref v, .bool l]) Q E s := by
  refine wpAny_call ?_
  k_dflt cell_enter
  k_steps
  · rename _ = (0 : Int) => hz
    omega
  · rename NewLF _ _ _ _ _ => lZ
    rename RaiseTo _ _ _ _ _ _ _ _ _ _ => lR
    rename Below _ _ _ _ => lB
    with_unfolding_all exact raised lZ (by k_asm) (by k_asm) (fun _ h => h) lB (by k_asm) (by k_asm) lR rfl rfl rfl ⟨rfl, rfl, rfl⟩ fun _ x => x
theorem c_check_row_kn {ks : Str} (R : RowAt news v nm ds) (hm : (tb, o) ∈ news) (hkv : o.IsDictOf (PySem.strKind prog w) kvs) (hv : StrVals kvs tbl) (hlo : (tb == sysModules) = false) (hlk : tbl.lookup nm = some ks) (hnm : nm.length ≤ 100) (hks : Few ks)
    (B : Below A₀ base outer h₀) (F : Fr h₀ L s.heap m) (X : (hd.heap_39 w.params).In h₀) (N : News h₀ L s.heap news) (T : Top p loose mean mg mb h₀) (hk : cs.kind = .function) 
    (hdp : dp + 20 < recursionLimit) (hu : un + 400 < cLine)
    (hret : rowSays (fun k d => isOp k l d) (some ks) nm ds = "" → ∀ h' tk, Fr h₀ L h' m → News h₀ L h' news → Q .none { s with heap := h', toks := tk })
    (hraise : rowSays (fun k d => isOp k l d) (some ks) nm ds ≠ "" → RaiseTo w E s base h₀ L m (envX cn cs L a ccd cl :: outer) news (rowSays (fun k d => isOp k l d) (some ks) nm ds)) :
    wpAny (model prog w) (ktrTop dp un gd cn cs L a ccd cl outer) (call (.ref 124) [.ref tb, .ref v, .bool l]) Q E s := by
  refine wpAny_call ?_
  k_dflt cell_enter
  k_steps
  · rename _ = (0 : Int) => hz
    omega
  · rename NewLF _ _ _ _ _ => lZ
    rename Below _ _ _ _ => lB
    rename ¬ _ = (_ : Int) + 1 => hz
    have e := says_num (q := fun k d => isOp k l d) (nm := nm) (ds := ds) (ks := ks) (by omega)
    rw [e] at hraise
    with_unfolding_all exact raised lZ (by k_asm) (by k_asm) (fun _ h => h) lB (by k_asm) (by k_asm) (hraise (num_ne nm)) rfl rfl rfl ⟨rfl, rfl, rfl⟩ fun _ x => x
  · rename Fr _ _ _ _ => lF
    rename News _ _ _ _ => lN
    rename _ = (_ : Int) + 1 => hz
    have hl : ds.length = ks.length := by omega
    refine search_src lF lN (fun q hq => by rw [List.mem_singleton.mp hq]; exact .head _) (srcG_range rfl lN (.head _) (Nat.le_trans (show ks.length ≤ 4 from hks) (by decide))) (okAt (fun k d => isOp k l d) ks ds) ?_ ?_
    · rintro i u I oI h tk hi ⟨t, rfl⟩ hP ne F₁ N₁
      obtain ⟨c, hc⟩ : ∃ c, ks.cps[i]? = some c := ⟨_, Array.getElem?_eq_getElem (by exact hi)⟩
      obtain ⟨d, hd⟩ : ∃ d, ds[i]? = some d := ⟨_, List.getElem?_eq_getElem (by omega)⟩
      have hi4 : i < 4 := Nat.lt_of_lt_of_le hi hks
      k_steps
      · with_unfolding_all refine TurnS.next (by k_asm) (by k_asm) (fun _ h => h) ?_
        rw [okAt_eq hc hd, ← item_eq hc]
        assumption
      iterate 3 (refine Nat.le_trans (?_ : _ ≤ 1000) (by decide); simp only [len_app, len_digit, len_w, len_o, len_e]; omega)
      rename NewLF _ _ _ _ _ => lZ
      rename Below _ _ _ _ => lB
      rename isOp _ _ _ = false => hno
      rw [item_eq hc] at hno
      have e := says_wrong (q := fun k d => isOp k l d) (nm := nm) hl hi hP (by rw [okAt_eq hc hd]; exact hno)
      rw [e] at hraise
      with_unfolding_all exact raised lZ (by k_asm) (by k_asm) (fun q hq => by k_mem) lB (by k_asm) (by k_asm) (hraise (wrong_ne nm i)) rfl rfl rfl ⟨rfl, rfl, rfl⟩ fun _ x => x
    · intro hall h tk u F' N'
      k_steps
      rename News _ _ _ _ => lN2
      exact hret (says_none hl hall) _ _ (by k_asm) (fun q hq => lN2 q (by k_mem))
end
theorem off_top18 : True := by w_top off; trivial
noncomputable def isInstr : T → Bool
  | .el (.tup (.str _ :: _)) => true
  | _ => false
theorem instr_no {d : T} (h : isInstr d = false) (h1 : isStr (.el (fst d)) = true) : False := by
  rcases d with (_|_|_|_|ds)|_|_ <;> try cases h1
  rcases ds with _ | ⟨_|_|_|_|_, r⟩ <;> first | (cases h1; done) | exact Bool.noConfusion (show true = false from h)
section
variable {prog : Program} {w : World} {A : Around} {E : Value → Shared → Prop} {s : Shared} {h₀ : Heap} {L : Addr} {m : Str → Option Value} {news n₁ : List (Addr × Obj)} {Q : Value → Shared → Prop} {v : Value} {d : T}
theorem item0_tup {value slice : PySem.Expr} {k : Tok} (N : News h₀ L s.heap news) (H₁ : Den n₁ v d) (hs : ∀ p ∈ n₁, p ∈ news) (ht : isTupT d = true) (hne : ¬ (lenT d : Int) = 0) (h : ∀ v0, Den n₁ v0 (.el (fst d)) → Q v0 s)
    (hsub : ∀ a, subscripted slice false (.ref a) (.int 0 k) = operate [.ref a, .int 0 k] (getItem (.ref a) (.int 0 k)) := by intro a; with_unfolding_all rfl) :
    wpAny (model prog w) A (subscriptTail value slice v (.int 0 k)) Q E s := by
  obtain ⟨a, vs, n, ds, rfl, rfl, hm, hl, hD⟩ := isTupT_inv H₁ ht
  cases hD with
  | nil => exact absurd rfl hne
  | cons h0 hr => exact item_tupleT (News.isTup N (hs _ hm)) (by decide) (by decide) (j := 0) (seqIndex_nat (i := 0) (by simp)) rfl (h _ (.el h0)) (hsub a)
end
local macro_rules | `(tactic| walk_at "subscriptTail") => `(tactic| (k_here; k_dflt (
  ((with_reducible show wpAny _ _ (subscriptTail _ _ _ (Value.int 0 _)) _ _ _); refine' item0_tup ?N ?H ?s ?t ?n ?_ ?q; (case N => k_asm); (case H => with_reducible assumption); (case s => walk_at "m s"); (case t | n => with_reducible assumption); (case q => walk_at "m q"); k_whole)); intro _ _))
section
variable {prog : Program} {w : World} {p : Program} {loose : List Str} {mean : ExcName → Option Value} {mg mb : Str → Option Value} 
   {dp un : Nat} {gd : Option (List Code)} {cn : Str} {cs : Scope} {a : Addr} {ccd : Value} {cl : List (Str × Addr)} {outer : List Env} {A₀ : Around} {base h₀ : Heap} {L : Addr} {m : Str → Option Value} {news : List (Addr × Obj)} {s : Shared} {Q E : Value → Shared → Prop}
   {v : Value} {tb : Addr} {d : T} {l : Bool}
theorem c_check_row_bad (h : Den news v d) (hb : isInstr d = false)
    (B : Below A₀ base outer h₀) (F : Fr h₀ L s.heap m) (X : (hd.heap_39 w.params).In h₀) (N : News h₀ L s.heap news) (T : Top p loose mean mg mb h₀) (hk : cs.kind = .function) 
    (hdp : dp + 20 < recursionLimit) (hu : un + 400 < cLine)
    (hraise : RaiseTo w E s base h₀ L m (envX cn cs L a ccd cl :: outer) news "not an instruction") :
    wpAny (model prog w) (ktrTop dp un gd cn cs L a ccd cl outer) (call (.ref 124) [.ref tb, v, .bool l]) Q E s := by
  refine wpAny_call ?_
  k_dflt cell_enter
  k_steps
  all_goals try (rename isStr _ = true => hz; exact (instr_no hb hz).elim)
  all_goals
    rename NewLF _ _ _ _ _ => lZ
    rename Below _ _ _ _ => lB
    with_unfolding_all exact raised lZ (by k_asm) (by k_asm) (fun _ h => h) lB (by k_asm) (by k_asm) hraise rfl rfl rfl ⟨rfl, rfl, rfl⟩ fun _ x => x
end
theorem off_top19 : True := by w_top off; trivial
/-- what a check of the row tells -/
inductive Says (tbl : List (Str × Str)) (l : Bool) (news : List (Addr × Obj)) : Value → Str → Prop
  | bad {v : Value} {d : T} : Den news v d → isInstr d = false → Says tbl l news v "not an instruction"
  | un {v : Addr} {nm : Str} {ds : List T} : RowAt news v nm ds → tbl.lookup nm = none → nm.length ≤ 100 → Says tbl l news (.ref v) (rowSays (fun k d => isOp k l d) none nm ds)
  | kn {v : Addr} {nm ks : Str} {ds : List T} : RowAt news v nm ds → tbl.lookup nm = some ks → nm.length ≤ 100 → Few ks → Says tbl l news (.ref v) (rowSays (fun k d => isOp k l d) (some ks) nm ds)
theorem Says.mono {tbl l news news' v x} (hs : ∀ p ∈ news, p ∈ news') (h : Says tbl l news v x) : Says tbl l news' v x := by
  cases h with
  | bad h b => exact .bad (h.mono hs) b
  | un R a b => exact .un (R.mono hs) a b
  | kn R a b c => exact .kn (R.mono hs) a b c
theorem bad_ne : ("not an instruction" : Str) ≠ "" := ne_of_len (by decide +kernel)
theorem un_ne (nm : Str) : ("unknown instruction: " : Str) ++ nm ≠ "" := ne_of_len (by rw [len_app]; exact Nat.lt_of_lt_of_le (by decide +kernel : 0 < (Str.ofString "unknown instruction: ").length) (Nat.le_add_right _ _))
theorem RaiseTo.on {prog : Program} {w : World} {A : Around} {E ek : Value → Shared → Prop} {s s₁ : Shared} {base h₀ g : Heap} {l : List Env} {env : Env} {L L' : Addr} {m m' : Str → Option Value} {news led : List (Addr × Obj)} {msg : Str} (FG : Fr h₀ L g m)
    (hraise : RaiseTo w E s base h₀ L m l news msg) (hsub : ∀ p ∈ news, p ∈ led) (hf : env.frame = some L') (hfr : A.frames = some l) (hs : s₁.gens = s.gens ∧ s₁.drawn = s.drawn ∧ s₁.os = s.os)
    (hek : ∀ e s₂, wpAny (model prog w) (A.deeper env) (leaving env (.ref e)) (fun _ s'' => E (.ref e) s'') (fun e' s'' => E e' s'') s₂ → ek (.ref e) s₂) : RaiseTo w ek s₁ base g L' m' (env :: l) led msg := by
  intro e dx t1 t h' tk g₂ F R U
  refine hek _ _ (leave_onD hf F R U hfr fun h'' R' U' => ?_)
  have z : ({ s₁ with heap := h'', toks := tk } : Shared) = { s with heap := h'', toks := tk } := by rw [hs.1, hs.2.1, hs.2.2]
  show E _ ({ s₁ with heap := h'', toks := tk } : Shared)
  rw [z]
  exact hraise _ _ _ _ _ _ _ FG (R'.less fun q hq => (List.mem_cons.mp hq).elim (fun e => e ▸ .head _) fun hq => .tail _ (hsub q hq)) U'
section
variable {prog : Program} {w : World} {p : Program} {loose : List Str} {mean : ExcName → Option Value} {mg mb : Str → Option Value} 
   {dp un : Nat} {gd : Option (List Code)} {cn : Str} {cs : Scope} {a : Addr} {ccd : Value} {cl : List (Str × Addr)} {outer : List Env} {A₀ : Around} {base h₀ : Heap} {L : Addr} {m : Str → Option Value} {news : List (Addr × Obj)} {s : Shared} {Q E : Value → Shared → Prop}
   {v : Value} {tb : Addr} {o : Obj} {kvs : List (Str × Value)} {tbl : List (Str × Str)} {l : Bool} {msg : Str}
theorem c_check_row (S : Says tbl l news v msg) (hm : (tb, o) ∈ news) (hkv : o.IsDictOf (PySem.strKind prog w) kvs) (hv : StrVals kvs tbl) (hlo : (tb == sysModules) = false)
    (B : Below A₀ base outer h₀) (F : Fr h₀ L s.heap m) (X : (hd.heap_39 w.params).In h₀) (N : News h₀ L s.heap news) (T : Top p loose mean mg mb h₀) (hk : cs.kind = .function) 
    (hdp : dp + 20 < recursionLimit) (hu : un + 400 < cLine)
    (hraise : msg ≠ "" → RaiseTo w E s base h₀ L m (envX cn cs L a ccd cl :: outer) news msg)
    (hret : msg = "" → ∀ h' tk, Fr h₀ L h' m → News h₀ L h' news → Q .none { s with heap := h', toks := tk }) :
    wpAny (model prog w) (ktrTop dp un gd cn cs L a ccd cl outer) (call (.ref 124) [.ref tb, v, .bool l]) Q E s := by
  cases S with
  | bad h b => exact c_check_row_bad h b B F X N T hk hdp hu (hraise bad_ne)
  | un R e1 e2 => exact c_check_row_un R hm hkv hv hlo e1 e2 B F X N T hk hdp hu (hraise (un_ne _))
  | kn R e1 e2 e3 => exact c_check_row_kn R hm hkv hv hlo e1 e2 e3 B F X N T hk hdp hu hret hraise
end
local macro_rules | `(tactic| walk_at "call ref") => `(tactic| (k_here; k_dflt ((with_reducible show wpAny _ _ (call (Value.ref 54) _) _ _ _); refine' c_shapes ?B ?F ?X ?N ?T ?k ?d ?u ?_; (case B | F | X | N | T => k_asm); (case k => walk_at "m k"); (case d => ktr_room); (case u => ktr_units); k_whole); intro _ _ _ _ _ _ _ _ _ _; (try k_fold)))
local macro_rules | `(tactic| walk_at "call ref") => `(tactic| (k_here; k_dflt ((with_reducible show wpAny _ _ (call (Value.ref 124) _) _ _ _); refine' c_check_row ?S ?m ?kv ?v ?lo ?B ?F ?X ?N ?T ?k ?d ?u ?raise ?_; (case F | N => k_asm); (case S => first | with_reducible assumption | (refine Says.mono ?_ (by with_reducible assumption); intro _ _; k_mem)); (case kv => with_reducible assumption); (case m => k_mem); (case v | lo => with_reducible assumption); (case B | X | T => k_asm); (case k => walk_at "m k"); (case d => ktr_room); (case u => ktr_units)); (rotate_left); intro _ _ _ _ _; (try k_fold); (rotate_right)))
section
variable {prog : Program} {w : World} {p : Program} {loose : List Str} {mean : ExcName → Option Value} {mg mb : Str → Option Value} 
   {dp un : Nat} {gd : Option (List Code)} {cn : Str} {cs : Scope} {a : Addr} {ccd : Value} {cl : List (Str × Addr)} {outer : List Env} {A₀ : Around} {base h₀ : Heap} {L : Addr} {m : Str → Option Value} {news : List (Addr × Obj)} {s : Shared} {Q E : Value → Shared → Prop}
   {v : Value} {l : Bool} {msg : Str}
theorem c_check_instruction (S : Says shapesT l news v msg)
    (B : Below A₀ base outer h₀) (F : Fr h₀ L s.heap m) (X : (hd.heap_39 w.params).In h₀) (N : News h₀ L s.heap news) (T : Top p loose mean mg mb h₀) (hk : cs.kind = .function) 
    (hdp : dp + 21 < recursionLimit) (hu : un + 500 < cLine)
    (hraise : msg ≠ "" → RaiseTo w E s base h₀ L m (envX cn cs L a ccd cl :: outer) news msg)
    (hret : msg = "" → ∀ h' tk, Fr h₀ L h' m → News h₀ L h' news → Q .none { s with heap := h', toks := tk }) :
    wpAny (model prog w) (ktrTop dp un gd cn cs L a ccd cl outer) (call (.ref 132) [v, .bool l]) Q E s := by
  refine wpAny_call ?_
  k_dflt (refine' code_def ?k1 ?k2 ?k3 ?k4 ?k5 ?kA ?kF ?kK ?k6 ?k7 ?k8 ?k9 ?kB ?_ ?c2 ?c3 ?c4 ?c5; (case kA => exact rfl); (case kF => exact rfl); (case kK => assumption); (case k1 => k_asm); (case k2 => k_asm); (case k3 => k_asm); (case k4 => k_asm); (case k5 => k_asm); (case k6 => k_is); (case k7 => k_is); (case k8 => ktr_room); (case k9 => (refine' kp_binds ?kx ?ke; (case kx => k_in); (case ke => exact fun _ => rfl))); (case c5 => decide); (case kB => exact locs rfl); (case c2 => exact rfl); (case c3 => exact rfl); (case c4 => exact rfl); k_whole; intro g' L' h' FG' F' N' B' X' T'; (try dsimp only); (try k_lift B'); (try k_fold))
  k_steps
  · rename msg ≠ _ => hne
    rename Fr h₀ L _ _ => lFG
    with_unfolding_all exact RaiseTo.on lFG (hraise hne) (fun q hq => .tail _ hq) rfl rfl ⟨rfl, rfl, rfl⟩ fun _ _ x => x
  · rename msg = _ => he
    rename News _ _ _ _ => lN2
    exact hret he _ _ (by k_asm) (fun q hq => lN2 q (by k_mem))
end
theorem off_top20 : True := by w_top off; trivial
section
variable {prog : Program} {w : World} {A₀ : Around} {E : Value → Shared → Prop} {s' : Shared} {base g g₀ G : Heap} {outer : List Env} {L a e dx : Addr} {m : Str → Option Value} {name : Str} {scope : Scope} {cd : Value}
  {n : Str} {b₀ : Stmt} {suite : List Stmt} {pos np : Pos} {rest : List ExceptHandler} {Q : Flow → Shared → Prop} {news : List (Addr × Obj)} {KF : Frag}
  {p : Program} {loose : List Str} {mean : ExcName → Option Value} {mg mb : Str → Option Value} {x : Str}
theorem caughtD (R : RaisedD base G (envOf name scope L a cd :: outer) e dx news s'.heap) (F : Fr g L G m) (K : Below A₀ base outer g) (hsm : G.UpToSlots s'.heap) (XB : KF.In base) (TB : Top p loose mean mg mb base)
    (D : KtsDicts (outer.filterMap (·.frame)) g) (T0 : KtsTurn (outer.filterMap (·.frame)) g₀ g)
    (ex : nsIn KF mainGlobals x = some (some (.ref 45))) (q : ktsIn KF 45 "BaseException" = true)
    (k : ∀ h' g' tk oe vs, KtsTurn (outer.filterMap (·.frame)) g₀ g' → Fr g' L h' (fun y => if y = n then some (.ref e) else m y) → News g' L h' ((e, oe) :: news) → oe.cls = .ref 45 → oe.dict = some dx → oe.data = .fields vs → Below A₀ base outer g' → KF.In g' → Top p loose mean mg mb g' → KtsDicts (outer.filterMap (·.frame)) g' →
      wpAny (model prog w) ((A₀.deeper (envOf name scope L a cd)).mark (some (.ref e))) (execs (b₀ :: suite) (envOf name scope L a cd))
        (fun f s₄ => wpAny (model prog w) (A₀.deeper (envOf name scope L a cd)) (do bindName (envOf name scope L a cd) n .none; unbindBehindTheSuite (envOf name scope L a cd) n pos) (fun _ s₅ => Q f s₅) E s₄)
        (AsSuiteRaised (model prog w) ((A₀.deeper (envOf name scope L a cd)).mark (some (.ref e))) (envOf name scope L a cd) n pos (notedBy (model prog w) ((A₀.deeper (envOf name scope L a cd)).mark (some (.ref e))) (envOf name scope L a cd) (cameBackBy (model prog w) (A₀.deeper (envOf name scope L a cd)) (envOf name scope L a cd) E)))
        { s' with heap := h', toks := tk })
    (hk : scope.kind = .function := by rfl) (hlo : (envOf name scope L a cd).kindOf n = some .local := by rfl) (hx : (envOf name scope L a cd).kindOf x = some .globalImplicit := by rfl) (hd : (x == ("__debug__" : Str)) = false := by decide) :
    wpAny (model prog w) (A₀.deeper (envOf name scope L a cd)) (noteFrame (.ref e) (envOf name scope L a cd))
      (fun _ s₂ => wpAny (model prog w) (A₀.deeper (envOf name scope L a cd)) (setFlight (.ref e) none) (fun _ s₃ =>
        wpAny (model prog w) (A₀.deeper (envOf name scope L a cd)) (handleBy (.ref e) (envOf name scope L a cd) (.ExceptHandler (some (.Name x np)) (some n) (b₀ :: suite) pos :: rest)) Q E s₃) E s₂) E s' := by
  obtain ⟨B, hB, hBG, hl, hfl⟩ := R
  have hL : B.get? L = none := by
    obtain ⟨_, ⟨L', _, hf, hn', _⟩, _⟩ := hfl.2.2.1
    obtain rfl : L = L' := Option.some.inj hf
    exact hn'
  refine noteD (Around.frames_deeper K.stack) rfl hfl (.inr rfl) fun h₄ f₄ u₄ => ?_
  refine landD f₄ fun h₅ f₅ u₅' => ?_
  have u₅ := u₄.trans u₅'
  obtain ⟨g₅, T₅, F₅, K₅⟩ := kts_ground K F hBG f₅.1 (hsm.trans u₅)
  have X₅ : KF.In g₅ := XB.keeps K₅.stays
  have P₅ : TopRead p loose mg mb g₅ := topRead_of (TB.keeps K₅.stays)
  have f₅' := f₅
  obtain ⟨_, _, _, ob, vs₅, hob, hobc, _⟩ := f₅'
  obtain ⟨nm, q', N, bs, bm, hdct, sn, sub, ab, col, dd, k0, k1, k2, k3, k5, newId, hC, hbase, hbT⟩ := kts_cls X₅ q
  have hC₅ := F₅.keep _ _ hC
  refine wpAny_handleBy_cons (codeAny_handlers_test (name_K F₅ X₅ P₅ ex ?_ hk hx hd)) (by intro q; cases q)
  refine wpAny_excMatches_sub_self hC₅ hob hobc hbase (codeAny_handlers_suite_as ?_)
  refine landD f₅ fun h₆ f₆ u₆ => ?_
  obtain ⟨g₆, T₆, F₆, K₆⟩ := kts_ground K F hBG f₆.1 ((hsm.trans u₅).trans u₆)
  have f₆' := f₆
  obtain ⟨_, be, _, oe, ws, hoe, hoec, hoex, hoed, _⟩ := f₆'
  have ne₆ : g₆.get? e = none := T₆.none_ _ (kts_fresh F hBG be fun o ho m => by
    obtain ⟨_, o', ho', hd⟩ := K.frames.mem m
    rw [ho] at ho'
    cases ho'
    obtain ⟨sl, hs⟩ := ((hsm.trans u₅).trans u₆) _ _ (F.keep _ _ ho) hd
    rw [hoe] at hs
    cases hs
    exact hd _ hoed)
  have N₆ : News g₆ L h₆ ((e, oe) :: news) := by
    intro r hr
    rcases List.mem_cons.mp hr with rfl | hr
    · refine ⟨hoe, fun z => ?_, ne₆⟩
      obtain ⟨oL, es, ep, hLo, hLd, _⟩ := F₆.ns
      have z : e = L := z
      rw [z, hLo] at hoe
      cases hoe
      rw [hLd] at hoed
      cases hoed
    · exact ⟨f₆.1 _ _ (hl r hr).1, (fun z => by have := (hl r hr).1; rw [z, hL] at this; cases this), T₆.none_ _ (kts_none F.keep (hl r hr).2.1)⟩
  have X₆ : KF.In g₆ := XB.keeps K₆.stays
  have P₆ : Top p loose mean mg mb g₆ := TB.keeps K₆.stays
  have D₆ : KtsDicts (outer.filterMap (·.frame)) g₆ := D.turn T₆
  refine stN F₆ N₆ (fun h₇ F₇ N₇ => ?_) hk hlo
  exact k h₇ g₆ _ oe ws (T0.trans T₆) F₇ N₇ hoec hoex hoed K₆ X₆ P₆ D₆
end
theorem off_top21 : True := by w_top off; trivial
noncomputable def LeftS (A₀ : Around) (base : Heap) (env : Env) (outer : List Env) (K : Frag) (p : Program) (loose : List Str) (mean : ExcName → Option Value) (mg mb : Str → Option Value) (h₀ : Heap) (L : Addr) (m : Str → Option Value) (g : Heap) (R : Result → Shared → Prop) (v : Value) (s' : Shared) : Prop :=
  ∃ g' L' m' news', KtsTurn ((env :: outer).filterMap (·.frame)) g g' ∧ Fr g' L' s'.heap m' ∧ News g' L' s'.heap news' ∧ ∀ h₀', KtsTurn (outer.filterMap (·.frame)) h₀ h₀' → Fr h₀' L s'.heap m → News h₀' L s'.heap news' → Below A₀ base outer h₀' → K.In h₀' → Top p loose mean mg mb h₀' →
    KtsDicts (outer.filterMap (·.frame)) h₀' → R (.ok (.ret v)) s'
section
variable {prog : Program} {w : World} {A₀ A : Around} {s : Shared} {base h₀ : Heap} {env : Env} {outer : List Env} {L : Addr} {m : Str → Option Value} {news : List (Addr × Obj)} {K : Frag} {p : Program} {loose : List Str} {mean : ExcName → Option Value} {mg mb : Str → Option Value}
    {R : Result → Shared → Prop} {name qual : Str} {params : Arguments} {body : List Stmt} {scope : Scope} {dV kV doc pm cdv ct oc : Value} {an od : Option Addr} {osl : Array (Option Value)} {f : Addr} {args : Args} {binds : List (Str × Value)}
theorem enterS (B : Below A₀ base outer h₀) (F : Fr h₀ L s.heap m) (X₀ : K.In h₀) (N : News h₀ L s.heap news) (T : Top p loose mean mg mb h₀) (XB : K.In base) (TB : Top p loose mean mg mb base) (D : KtsDicts (outer.filterMap (·.frame)) h₀)
    (hA : A.frames = some (env :: outer)) (hf : env.frame = some L) (hke : env.scope.kind = .function)
    (ho : K.lookup f = some ⟨oc, od, .func (fnOf name qual params body scope dV kV doc pm an cdv ct), osl⟩) (hcd : codeIn K cdv qual = true) (hroom : A.depth < recursionLimit)
    (hbind : BindsTo s (fnOf name qual params body scope dV kV doc pm an cdv ct) args binds) (hloc : ∀ y ∈ binds, scope.names.lookup y.1 = some .local)
    (h : ∀ g L' h₁, Fr h₀ L g m → Fr g L' h₁ (fun y => binds.reverse.lookup y) → News g L' h₁ news → Below A base (env :: outer) g → K.In g → Top p loose mean mg mb g → KtsDicts ((env :: outer).filterMap (·.frame)) g →
      wpAny (model prog w) (A.deeper (envOf qual scope L' f cdv)) (execs body (envOf qual scope L' f cdv))
        (fun fl s' => LeftS A₀ base env outer K p loose mean mg mb h₀ L m g R (match fl with | .ret v => v | _ => .none) s')
        (fun e s' => wpAny (model prog w) (A.deeper (envOf qual scope L' f cdv)) (leaving (envOf qual scope L' f cdv) e) (fun _ s'' => R (.error e) s'') (fun e' s'' => R (.error e') s'') s')
        { s with heap := h₁, toks := s.toks + binds.length })
    (hco : scope.isCoroutine = false) (hgen : scope.isGenerator = false) (hk : scope.kind = .function)
    (hcell : ∀ x ∈ scope.names, x.2 ≠ .cell) : codeAny (model prog w) A (.call (.ref f) args) R s := by
  have X := X₀.keeps F.keep
  have nL₀ : h₀.get? L = none := kts_self F
  refine codeAny_call_def (fd := fnOf name qual params body scope dV kV doc pm an cdv ct) (body := body) (binds := binds) hroom (X _ _ ho) rfl (T.nolimit.keeps F.keep) (codeRec_of X hcd) rfl hbind hcell hloc (fun h₁ hns hk₁ => ?_) hco hgen hk
  have nm : ∀ b o, h₀.get? b = some o → b ∉ news.map (·.1) := fun b o e q => by
    obtain ⟨p, hp, rfl⟩ := List.mem_map.mp q
    rw [(N p hp).2.2] at e; cases e
  have st : h₀.StaysIn (hideAll s.heap (news.map (·.1))) := fun b o e => hideAll_get _ (F.keep b o e) (nm b o e)
  obtain ⟨oL, es, ep, hL, hLd, hLk, hLf⟩ := F.ns
  have nL : L ∉ news.map (·.1) := fun q => by
    obtain ⟨p, hp, e⟩ := List.mem_map.mp q
    exact (N p hp).2.1 e
  have hLg := hideAll_get (news.map (·.1)) hL nL
  have hNs : ∀ (sl : Array (Option Value)) h', h'.get? L = some { oL with slots := sl } → Heap.Ns h' L m := fun sl h' e => ⟨_, es, ep, e, hLd, hLk, hLf⟩
  have bL : base.get? L = none := fresh_of_stays B.stays nL₀
  have B₂ : Below A base (env :: outer) (hideAll s.heap (news.map (·.1))) := ⟨hA, fun b o e => st b o (B.stays b o e), by rw [hke]; decide, ⟨L, oL, hf, bL, hLg, fun vs q => by rw [hLd] at q; cases q⟩, B.frames.of_keeps fun b o e _ => ⟨o, st b o e, rfl⟩⟩
  refine wpAny_mono (h _ s.heap.objs.size h₁ ⟨hNs oL.slots _ hLg, st, F.above⟩ ⟨hns, fun b o e => hk₁ b o (of_hideAll _ e), Nat.le_of_eq (hideAll_size _ _)⟩
    (fun p hp => ⟨hk₁ _ _ (N p hp).1, Nat.ne_of_lt (Heap.lt_size (N p hp).1), hideAll_none _ (List.mem_map_of_mem hp)⟩) B₂ (X₀.keeps st) (T.keeps st) (fun b hb => by
      rcases mem_frames hf hb with rfl | hb
      · exact ⟨oL, es, ep, hLg, hLd⟩
      · obtain ⟨o, es', n', ho', hd'⟩ := D b hb
        exact ⟨o, es', n', st b o ho', hd'⟩)) (fun fl s' hl => ?_) fun _ _ y => y
  obtain ⟨g', L', m', news', T', F', N', k⟩ := hl
  obtain ⟨sl, hs⟩ := T'.up hLg
  obtain ⟨T₁, S₁⟩ := kts_turn_at (h := s'.heap) (fs := outer.filterMap (·.frame)) (g := h₀)
    (fun b hb => by
      obtain ⟨_, o, ho', _⟩ := B.frames.mem hb
      exact ⟨o, ho'⟩)
    (fun b o e nmem => F'.keep b o (T'.other b o (st b o e) (fun q => by
      rcases mem_frames hf q with z | z
      · rw [z, nL₀] at e
        cases e
      · exact nmem z)))
    (fun b o e hm => by
      obtain ⟨sl', hs'⟩ := T'.up (st b o e)
      exact ⟨sl', F'.keep _ _ hs'⟩)
  have B₃ : Below A₀ base outer (ktsHeap s'.heap (outer.filterMap (·.frame)) h₀) := ⟨B.stack, fun b o e => T₁.other b o (B.stays b o e) (fun hm => by
    rw [(B.frames.mem hm).1] at e
    cases e), B.frames.of_keeps fun b o e _ => by
    obtain ⟨sl', hs'⟩ := T₁.up e
    exact ⟨_, hs', rfl⟩⟩
  refine k _ T₁ ⟨hNs sl _ (F'.keep _ _ hs), S₁, by rw [T₁.size]; exact F.above⟩ (fun p hp => ⟨(N' p hp).1, fun q => ?_, ?_⟩) B₃ (XB.keeps B₃.stays) (TB.keeps B₃.stays) (D.turn T₁)
  · have := (N' p hp).2.2; rw [q, hs] at this; cases this
  · refine T₁.none_ _ ?_
    cases q : h₀.get? p.1 with
    | none => rfl
    | some o =>
      obtain ⟨sl', hs'⟩ := T'.up (st _ _ q)
      have := (N' p hp).2.2
      rw [hs'] at this
      cases this
end
theorem off_top22 : True := by w_top off; trivial
local macro_rules | `(tactic| walk_at "call ref") => `(tactic| (k_here; k_dflt ((with_reducible show wpAny _ _ (call (Value.ref 132) _) _ _ _); refine' c_check_instruction ?S ?B ?F ?X ?N ?T ?k ?d ?u ?raise ?_; (case F | N => k_asm); (case S => first | with_reducible assumption | (refine Says.mono ?_ (by with_reducible assumption); intro _ _; k_mem)); (case B | X | T => k_asm); (case k => walk_at "m k"); (case d => ktr_room); (case u => ktr_units)); (rotate_left); intro _ _ _ _ _; (try k_fold); (rotate_right)))
section
variable {prog : Program} {w : World} {p : Program} {loose : List Str} {mean : ExcName → Option Value} {mg mb : Str → Option Value} 
   {dp un : Nat} {gd : Option (List Code)} {cn : Str} {cs : Scope} {a : Addr} {ccd : Value} {cl : List (Str × Addr)} {outer : List Env} {A₀ : Around} {base h₀ : Heap} {L : Addr} {m : Str → Option Value} {news : List (Addr × Obj)} {s : Shared} {Q E : Value → Shared → Prop}
   {v : Value} {l : Bool} {msg : Str}
theorem c_law_said (S : Says shapesT l news v msg) (XB : (hd.heap_39 w.params).In base) (TB : Top p loose mean mg mb base) (D : KtsDicts (outer.filterMap (·.frame)) h₀)
    (B : Below A₀ base outer h₀) (F : Fr h₀ L s.heap m) (X : (hd.heap_39 w.params).In h₀) (N : News h₀ L s.heap news) (T : Top p loose mean mg mb h₀) (hk : cs.kind = .function) 
    (hdp : dp + 22 < recursionLimit) (hu : un + 600 < cLine)
    (hret : ∀ h₀' h' tk tok, KtsTurn (outer.filterMap (·.frame)) h₀ h₀' → Fr h₀' L h' m → News h₀' L h' news → Below A₀ base outer h₀' → (hd.heap_39 w.params).In h₀' → Top p loose mean mg mb h₀' → KtsDicts (outer.filterMap (·.frame)) h₀' → Q (.str msg tok) { s with heap := h', toks := tk }) :
    wpAny (model prog w) (ktrTop dp un gd cn cs L a ccd cl outer) (call (.ref 193) [v, .bool l]) Q E s := by
  refine wpAny_call ?_
  k_dflt (refine' enterS B F X N T XB TB D ?kA ?kF ?kK ?k6 ?k7 ?k8 ?k9 ?kB ?_ ?c2 ?c3 ?c4 ?c5)
  case kA => exact rfl
  case kF => exact rfl
  case kK => assumption
  case k6 => k_is
  case k7 => k_is
  case k8 => ktr_room
  case k9 => exact BindsTo.of_eq rfl
  case kB => exact locs rfl
  case c2 => exact rfl
  case c3 => exact rfl
  case c4 => exact rfl
  case c5 => decide
  intro g' L' h' FG' F' N' B' X' T' D'
  (try dsimp only)
  (try k_lift B')
  k_steps
  · rename msg ≠ _ => hne
    rename KtsDicts _ _ => lD
    rename Below _ _ _ _ => lB
    intro e dx t1 t h₂ tk₂ g₂ F₂ R U
    with_unfolding_all refine caughtD R F₂ lB U XB TB lD KtsTurn.refl (by kernel_rfl) (by kernel_rfl) ?_
    intro h₃ g₃ tk₃ oe vs T₃ F₃ N₃ hc hx hdt B₃ X₃ P₃ D₃
    clear F₂ U lB
    k_steps
    refine get_what (X₃.keeps F₃.keep) (N₃ _ (.head _)).1 hc hx hdt (N₃ _ (.tail _ (.head _))).1 ?_
    intro tk₄
    dsimp only
    k_steps
    exact ⟨_, _, _, _, T₃, (by k_asm), (by k_asm), fun h₀' T F N B X Tp D => hret h₀' _ _ _ T F (fun q hq => N q (.tail _ (.tail _ hq))) B X Tp D⟩
  · rename msg = _ => he
    subst he
    show LeftS _ _ _ _ _ _ _ _ _ _ _ _ _ _ _ _ _
    exact ⟨_, _, _, _, .refl, (by k_asm), (by k_asm), fun h₀' T F N B X Tp D => hret h₀' _ _ _ T F N B X Tp D⟩
end
theorem off_top23 : True := by w_top off; trivial
noncomputable def fits (k : Str) (l : Bool) (d : T) : Bool :=
  bif k == "R" then isReg ["x", "y"] d else bif k == "X" then isReg ["x"] d else bif k == "Y" then isReg ["y"] d else bif k == "C" then lKey true d else
  bif k == "F" then geD 0 d else bif k == "N" then geD 0 d else bif k == "L" then isTgt l d else lTab (k == "T") l d
noncomputable def letters : List Str := [("R" : Str), ("X" : Str), ("Y" : Str), ("C" : Str), ("F" : Str), ("N" : Str), ("L" : Str), ("T" : Str), ("U" : Str)]
theorem Spec.up {lv lv' : Nat} {f news vs b} (hl : lv ≤ lv') (h : Spec lv f news vs b) : Spec lv' f news vs b := by
  intro prog w p loose mean mg mb dp un gd cn cs a ccd cl outer A₀ base h₀ L m s Q E B F X N T hk hd hu hret
  exact h B F X N T hk (by omega) (by omega) hret
theorem fits_R {l d} : isReg ["x", "y"] d = fits "R" l d := rfl
theorem fits_X {l d} : isReg ["x"] d = fits "X" l d := by unfold fits; rw [show ((("X" : Str) == "R") = false) by decide +kernel, show ((("X" : Str) == "X") = true) by decide +kernel]; rfl
theorem fits_Y {l d} : isReg ["y"] d = fits "Y" l d := by unfold fits; rw [show ((("Y" : Str) == "R") = false) by decide +kernel, show ((("Y" : Str) == "X") = false) by decide +kernel, show ((("Y" : Str) == "Y") = true) by decide +kernel]; rfl
theorem fits_C {l d} : lKey true d = fits "C" l d := by unfold fits; rw [show ((("C" : Str) == "R") = false) by decide +kernel, show ((("C" : Str) == "X") = false) by decide +kernel, show ((("C" : Str) == "Y") = false) by decide +kernel, show ((("C" : Str) == "C") = true) by decide +kernel]; rfl
theorem fits_F {l d} : geD 0 d = fits "F" l d := by unfold fits; rw [show ((("F" : Str) == "R") = false) by decide +kernel, show ((("F" : Str) == "X") = false) by decide +kernel, show ((("F" : Str) == "Y") = false) by decide +kernel, show ((("F" : Str) == "C") = false) by decide +kernel, show ((("F" : Str) == "F") = true) by decide +kernel]; rfl
theorem fits_N {l d} : geD 0 d = fits "N" l d := by unfold fits; rw [show ((("N" : Str) == "R") = false) by decide +kernel, show ((("N" : Str) == "X") = false) by decide +kernel, show ((("N" : Str) == "Y") = false) by decide +kernel, show ((("N" : Str) == "C") = false) by decide +kernel, show ((("N" : Str) == "F") = false) by decide +kernel, show ((("N" : Str) == "N") = true) by decide +kernel]; rfl
theorem fits_L {l d} : isTgt l d = fits "L" l d := by unfold fits; rw [show ((("L" : Str) == "R") = false) by decide +kernel, show ((("L" : Str) == "X") = false) by decide +kernel, show ((("L" : Str) == "Y") = false) by decide +kernel, show ((("L" : Str) == "C") = false) by decide +kernel, show ((("L" : Str) == "F") = false) by decide +kernel, show ((("L" : Str) == "N") = false) by decide +kernel, show ((("L" : Str) == "L") = true) by decide +kernel]; rfl
theorem fits_T {l d} : lTab (("T" : Str) == "T") l d = fits "T" l d := by unfold fits; rw [show ((("T" : Str) == "R") = false) by decide +kernel, show ((("T" : Str) == "X") = false) by decide +kernel, show ((("T" : Str) == "Y") = false) by decide +kernel, show ((("T" : Str) == "C") = false) by decide +kernel, show ((("T" : Str) == "F") = false) by decide +kernel, show ((("T" : Str) == "N") = false) by decide +kernel, show ((("T" : Str) == "L") = false) by decide +kernel]; rfl
theorem fits_U {l d} : lTab (("U" : Str) == "T") l d = fits "U" l d := by unfold fits; rw [show ((("U" : Str) == "R") = false) by decide +kernel, show ((("U" : Str) == "X") = false) by decide +kernel, show ((("U" : Str) == "Y") = false) by decide +kernel, show ((("U" : Str) == "C") = false) by decide +kernel, show ((("U" : Str) == "F") = false) by decide +kernel, show ((("U" : Str) == "N") = false) by decide +kernel, show ((("U" : Str) == "L") = false) by decide +kernel]; rfl
theorem c_law_fits {news} {v} {d} {k : Str} {t : Tok} {l : Bool} (hk : k ∈ letters) (h : Den news v d) : Spec 3 186 news [v, .str k t, .bool l] (fits k l d) := by
  simp only [letters, List.mem_cons, List.not_mem_nil, or_false] at hk
  rcases hk with rfl | rfl | rfl | rfl | rfl | rfl | rfl | rfl | rfl
  · exact fits_R ▸ (Spec.up (by decide) (c_law_fitsR h))
  · exact fits_X ▸ (Spec.up (by decide) (c_law_fitsX h))
  · exact fits_Y ▸ (Spec.up (by decide) (c_law_fitsY h))
  · exact fits_C ▸ (Spec.up (by decide) (c_law_fitsC h))
  · exact fits_F ▸ (Spec.up (by decide) (c_law_fitsF h))
  · exact fits_N ▸ (Spec.up (by decide) (c_law_fitsN h))
  · exact fits_L ▸ (Spec.up (by decide) (c_law_fitsL h))
  · exact fits_T ▸ (c_law_fitsT h)
  · exact fits_U ▸ (c_law_fitsU h)
theorem off_top24 : True := by w_top off; trivial
noncomputable def Lets (ks : Str) : Prop := ∀ (i c : Nat), ks.cps[i]? = some c → (⟨#[c]⟩ : Str) ∈ letters
theorem empty_app (x : Str) : Str.empty ++ x = x := by
  show (⟨#[] ++ x.cps⟩ : Str) = x
  rw [Array.empty_append]
theorem item_digit {i : Nat} (h : i < 4) : Txt.item (Str.ofString "1234") (i : Int) = digit i := by
  rcases i with _ | _ | _ | _ | i
  · decide +kernel
  · decide +kernel
  · decide +kernel
  · decide +kernel
  · omega
theorem wrong_text (nm : Str) {i : Nat} (h : i < 4) : Str.ofString "wrong operand " ++ Txt.item (Str.ofString "1234") (i : Int) ++ Str.ofString " of " ++ nm = wrongAt nm i := by
  unfold wrongAt
  rw [item_digit h, empty_app]
local macro_rules | `(tactic| walk_at "call ref") => `(tactic| (k_here; k_dflt ((with_reducible show wpAny _ _ (call (Value.ref 186) _) _ _ _); refine' c_law_fits ?hk ?H ?B ?F ?X ?N ?T ?k ?d ?u ?_; (case hk => with_reducible assumption); (case B | F | X | N | T => k_asm); (case H => walk_at "m H"); (case k => walk_at "m k"); (case d => ktr_room); (case u => ktr_units); k_whole); intro _ _ _ _; (try k_fold)))
section
variable {prog : Program} {w : World} {p : Program} {loose : List Str} {mean : ExcName → Option Value} {mg mb : Str → Option Value} 
   {dp un : Nat} {gd : Option (List Code)} {cn : Str} {cs : Scope} {a : Addr} {ccd : Value} {cl : List (Str × Addr)} {outer : List Env} {A₀ : Around} {base h₀ : Heap} {L : Addr} {m : Str → Option Value} {news : List (Addr × Obj)} {s : Shared} {Q E : Value → Shared → Prop}
   {v : Addr} {nm ks : Str} {ds : List T} {l : Bool} {t : Tok}
theorem c_law_due (R : RowAt news v nm ds) (hnm : nm.length ≤ 100) (hks : Few ks) (hls : Lets ks)
    (B : Below A₀ base outer h₀) (F : Fr h₀ L s.heap m) (X : (hd.heap_39 w.params).In h₀) (N : News h₀ L s.heap news) (T : Top p loose mean mg mb h₀) (hk : cs.kind = .function) 
    (hdp : dp + 20 < recursionLimit) (hu : un + 400 < cLine)
    (hret : ∀ h' tk tok, Fr h₀ L h' m → News h₀ L h' news → Q (.str (rowSays (fun k d => fits k l d) (some ks) nm ds) tok) { s with heap := h', toks := tk }) :
    wpAny (model prog w) (ktrTop dp un gd cn cs L a ccd cl outer) (call (.ref 200) [.ref v, .str ks t, .bool l]) Q E s := by
  refine wpAny_call ?_
  k_dflt cell_enter
  k_steps
  · rename ¬ _ = (_ : Int) + 1 => hz
    rw [says_num (by omega)] at hret
    exact hret _ _ _ (by k_asm) (by k_asm)
  · rename Fr _ _ _ _ => lF
    rename News _ _ _ _ => lN
    rename _ = (_ : Int) + 1 => hz
    have hl : ds.length = ks.length := by omega
    refine search_src lF lN (fun q hq => by rw [List.mem_singleton.mp hq]; exact .head _) (srcG_range rfl lN (.head _) (Nat.le_trans (show ks.length ≤ 4 from hks) (by decide))) (okAt (fun k d => fits k l d) ks ds) ?_ ?_
    · rintro i u I oI h tk hi ⟨t, rfl⟩ hP ne F₁ N₁
      obtain ⟨c, hc⟩ : ∃ c, ks.cps[i]? = some c := ⟨_, Array.getElem?_eq_getElem (by exact hi)⟩
      obtain ⟨d, hd⟩ : ∃ d, ds[i]? = some d := ⟨_, List.getElem?_eq_getElem (by omega)⟩
      have hi4 : i < 4 := Nat.lt_of_lt_of_le hi hks
      have hlt := hls i c hc
      rw [← item_eq hc] at hlt
      k_steps
      · with_unfolding_all refine TurnS.next (by k_asm) (by k_asm) (fun _ h => h) ?_
        rw [okAt_eq hc hd, ← item_eq hc]
        assumption
      · rename fits _ _ _ = false => hno
        rw [item_eq hc] at hno
        rw [says_wrong hl hi hP (by rw [okAt_eq hc hd]; exact hno)] at hret
        refine TurnS.ret ?_
        k_steps
        rename News _ _ _ _ => lN2
        rw [wrong_text nm hi4]
        exact hret _ _ _ (by k_asm) (fun q hq => lN2 q (by k_mem))
    · intro hall h tk u F' N'
      k_steps
      rename News _ _ _ _ => lN2
      rw [says_none hl hall] at hret
      exact hret _ _ _ (by k_asm) (fun q hq => lN2 q (by k_mem))
end
theorem off_top25 : True := by w_top off; trivial
/-! the mill -/
noncomputable abbrev millO (sc : Addr) (i : Int) (t : Tok) (n : Nat) : Obj := listOf #[.ref sc, .int i t] n
section
variable {prog : Program} {w : World} {A : Around} {E Q : Value → Shared → Prop} {s : Shared} {h₀ : Heap} {L sc : Addr} {news : List (Addr × Obj)} {vs : List Value} {ns : List Int} {k : Nat}
theorem len_sc (N : News h₀ L s.heap news) (hm : (sc, listOf vs.toArray k) ∈ news) (hi : IntsAre vs ns) (hl : ns.length ≤ 63) (h : ∀ tk tk', Q (.int ns.length tk) { s with toks := tk' }) : wpAny (model prog w) A (call (.builtin "len") [.ref sc]) Q E s := by
  have e := hi.length
  refine call_len_list (isListN N hm) (by simp; omega) ?_
  have := h (s.toks + 1) (s.toks + 1 + 1)
  rw [← e] at this
  simpa using this
end
local macro_rules | `(tactic| walk_at "call builtin:len") => `(tactic| (k_here; k_dflt ((with_reducible show wpAny _ _ (call (Value.builtin "len") [Value.ref _]) _ _ _); refine' len_sc ?N ?m ?i ?l ?_; (case N => k_asm); (case i => with_reducible assumption); (case m => k_mem); (case l => with_reducible assumption); k_whole); intro _ _))
local macro_rules | `(tactic| k_all) => `(tactic| with_reducible assumption)
section
variable {prog : Program} {w : World} {p : Program} {loose : List Str} {mean : ExcName → Option Value} {mg mb : Str → Option Value} 
   {dp un : Nat} {gd : Option (List Code)} {cn : Str} {cs : Scope} {a : Addr} {ccd : Value} {cl : List (Str × Addr)} {outer : List Env} {A₀ : Around} {base h₀ : Heap} {L : Addr} {m : Str → Option Value} {news : List (Addr × Obj)} {s : Shared} {Q E : Value → Shared → Prop}
   {ml sc : Addr} {n k : Nat} {t tl : Tok} {i lim : Int} {vs : List Value} {ns : List Int}
theorem c_law_grain (off : ∀ p ∈ news, p.1 ≠ ml) (hsc : (sc, listOf vs.toArray k) ∈ news) (hi : IntsAre vs ns) (hlen : ns.length ≤ 63) (hi0 : 0 ≤ i) (h0 : 0 < lim) (h1 : lim ≤ 1000)
    (B : Below A₀ base outer h₀) (F : Fr h₀ L s.heap m) (X : (hd.heap_39 w.params).In h₀) (N : News h₀ L s.heap ((ml, millO sc i t n) :: news)) (T : Top p loose mean mg mb h₀) (hk : cs.kind = .function) 
    (hdp : dp + 20 < recursionLimit) (hu : un + 400 < cLine)
    (hret : ∀ r tok h' tk i' t' n', 0 ≤ r → r < lim → 0 ≤ i' → Fr h₀ L h' m → News h₀ L h' ((ml, millO sc i' t' n') :: news) → Q (.int r tok) { s with heap := h', toks := tk }) :
    wpAny (model prog w) (ktrTop dp un gd cn cs L a ccd cl outer) (call (.ref 146) [.ref ml, .int lim tl]) Q E s := by
  refine wpAny_call ?_
  k_dflt cell_enter
  k_steps
  · exact hret _ _ _ _ _ _ _ (Int.le_refl 0) h0 (by omega : 0 ≤ i + 1) (by k_asm) (by k_asm)
  · refine hret _ _ _ _ _ _ _ ?_ ?_ (by omega : 0 ≤ i + 1) (by k_asm) (by k_asm)
    · rw [Int.fmod_eq_emod_of_nonneg _ (Int.le_of_lt h0)]; exact Int.emod_nonneg _ (Int.ne_of_gt h0)
    · rw [Int.fmod_eq_emod_of_nonneg _ (Int.le_of_lt h0)]; exact Int.emod_lt_of_pos _ h0
end
theorem off_top26 : True := by w_top off; trivial
local macro_rules | `(tactic| walk_at "call ref") => `(tactic| (k_here; k_dflt ((with_reducible show wpAny _ _ (call (Value.ref 146) _) _ _ _); refine' c_law_grain ?off ?sc ?hi ?hl ?hi0 ?h0 ?h1 ?B ?F ?X ?N ?T ?k ?d ?u ?_; (case F | N => k_asm); (case off | hi => with_reducible assumption); (case sc => k_mem); (case hl | hi0 => with_reducible assumption); (case h0 | h1 => omega); (case B | X | T => k_asm); (case k => walk_at "m k"); (case d => ktr_room); (case u => ktr_units); k_whole); intro _ _ _ _ _ _ _ _ _ _ _ _; (try k_fold)))
theorem par2 (r : Int) : r.fmod 2 = 0 ∨ r.fmod 2 = 1 := by
  rw [Int.fmod_eq_emod_of_nonneg _ (by decide)]
  omega
section
variable {prog : Program} {w : World} {A : Around} {E Q : Value → Shared → Prop} {s : Shared} {h₀ : Heap} {L : Addr} {news : List (Addr × Obj)}
theorem item_xy {value slice : PySem.Expr} {r : Int} {t u : Tok} (h0 : ∀ t' tk, Q (.str "x" t') { s with toks := tk }) (h1 : ∀ t' tk, Q (.str "y" t') { s with toks := tk })
    (hsub : ∀ x, subscripted slice false (.str (Str.ofString "xy") t) (.int x u) = operate [.str (Str.ofString "xy") t, .int x u] (getItem (.str (Str.ofString "xy") t) (.int x u)) := by intro x; with_unfolding_all rfl) (hg : ∀ r, letTemporaryGo value (.str (Str.ofString "xy") t) r = pure () := by intro _; with_unfolding_all rfl) :
    wpAny (model prog w) A (subscriptTail value slice (.str (Str.ofString "xy") t) (.int (r.fmod 2) u)) Q E s := by
  rcases par2 r with e | e
  · rw [e]
    exact item_ch (ks := Str.ofString "xy") (i := 0) (c := 120) (by decide +kernel) (by decide +kernel) (fun t' => h0 t' _) (hsub _) hg
  · rw [e]
    exact item_ch (ks := Str.ofString "xy") (i := 1) (c := 121) (by decide +kernel) (by decide +kernel) (fun t' => h1 t' _) (hsub _) hg
theorem item_two {value slice : PySem.Expr} {a : Addr} {x y : Value} {n : Nat} {r : Int} {u : Tok} (N : News h₀ L s.heap news) (hm : (a, listOf #[x, y] n) ∈ news) (h0 : Q x s) (h1 : Q y s)
    (hsub : ∀ i, subscripted slice false (.ref a) (.int i u) = operate [.ref a, .int i u] (getItem (.ref a) (.int i u)) := by intro i; with_unfolding_all rfl) (hg : ∀ r, letTemporaryGo value (.ref a) r = pure () := by intro _; with_unfolding_all rfl) :
    wpAny (model prog w) A (subscriptTail value slice (.ref a) (.int (r.fmod 2) u)) Q E s := by
  have hl : s.heap.IsList a #[x, y] := ⟨_, (N _ hm).1, rfl, n, rfl⟩
  rcases par2 r with e | e
  · rw [e]
    exact subscriptTail_builtin hl.typeIs slot_list_getitem.lookup (wpAny_getItem_list hl (by decide) (by decide) rfl h0) (hsub _) hg
  · rw [e]
    exact subscriptTail_builtin hl.typeIs slot_list_getitem.lookup (wpAny_getItem_list hl (by decide) (by decide) rfl h1) (hsub _) hg
theorem news_ne {h : Heap} {a b : Addr} {oa ob : Obj} (N : News h₀ L h news) (ha : (a, oa) ∈ news) (hb : (b, ob) ∈ news) (hc : oa.cls ≠ ob.cls) : a ≠ b := by
  rintro rfl
  have := (N _ ha).1
  rw [(N _ hb).1] at this
  cases this
  exact hc rfl
end
local macro_rules | `(tactic| walk_at "subscriptTail Name BinOp ref int") => `(tactic| (k_here; k_dflt ((with_reducible show wpAny _ _ (subscriptTail _ _ (Value.ref _) (Value.int (Int.fmod _ 2) _)) _ _ _); refine' item_two ?N ?m ?_ ?_ ?q ?g; (case N => k_asm); (case m => k_mem); (case q | g => walk_at "m q"))))
local macro_rules | `(tactic| walk_at "subscriptTail") => `(tactic| (k_here; k_dflt (first
  | ((with_reducible show wpAny _ _ (subscriptTail _ _ (Value.ref _) (Value.int (Int.fmod _ _) _)) _ _ _); refine' item_two ?N ?m ?_ ?_ ?q ?g; (case N => k_asm); (case m => k_mem); (case q | g => walk_at "m q"))
  | ((with_reducible show wpAny _ _ (subscriptTail _ _ (Value.str _ _) (Value.int (Int.fmod _ _) _)) _ _ _); refine' item_xy ?_ ?_ ?q ?g; (case q | g => walk_at "m q"); all_goals intro _ _))))
/-- what the maker of a fitting operand gives back: it lies in what was newly made -/
noncomputable abbrev GoodTo (h₀ : Heap) (L : Addr) (m : Str → Option Value) (news : List (Addr × Obj)) (ml sc : Addr) (k : Str) (l : Bool) (s : Shared) (Q : Value → Shared → Prop) : Prop :=
  ∀ r d h' tk i' t' n' made, 0 ≤ i' → Fr h₀ L h' m → News h₀ L h' ((ml, millO sc i' t' n') :: (made ++ news)) → (∀ p ∈ made, p.1 ≠ ml ∧ ∀ q ∈ news, p.1 ≠ q.1) → Den made r d → isOp k l d = true → fits k l d = true → Q r { s with heap := h', toks := tk }
theorem isOp_R {l d} : isOp "R" l d = isReg ["x", "y"] d := rfl
theorem isOp_X {l d} : isOp "X" l d = isReg ["x"] d := by unfold isOp; rw [show ((("X" : Str) == "R") = false) by decide +kernel, show ((("X" : Str) == "X") = true) by decide +kernel]; rfl
theorem isOp_Y {l d} : isOp "Y" l d = isReg ["y"] d := by unfold isOp; rw [show ((("Y" : Str) == "R") = false) by decide +kernel, show ((("Y" : Str) == "X") = false) by decide +kernel, show ((("Y" : Str) == "Y") = true) by decide +kernel]; rfl
theorem isOp_C {l d} : isOp "C" l d = isConst d := by unfold isOp; rw [show ((("C" : Str) == "R") = false) by decide +kernel, show ((("C" : Str) == "X") = false) by decide +kernel, show ((("C" : Str) == "Y") = false) by decide +kernel, show ((("C" : Str) == "C") = true) by decide +kernel]; rfl
theorem reg_ok {names : List Str} {x : Str} {z : Int} (hn : inStrs names (.str x) = true) (h : 1 ≤ z) : isReg names (.el (.tup [.str x, .int z])) = true := by
  have h1 : geD 1 (.el (.int z)) = true := decide_eq_true h
  show (true && inStrs names (.str x) && geD 1 (.el (.int z))) = true
  rw [hn, h1]; rfl
theorem con4_ok {z : Int} (h : 0 ≤ z) : isConst (.el (.tup [.int 4, .int z])) = true := by
  have h1 : geD 0 (.el (.int z)) = true := decide_eq_true h
  show (true && true && (false || (true && geD 0 (.el (.int z))))) = true
  rw [h1]; rfl
theorem con5_ok {z : Int} : isConst (.el (.tup [.int 5, .int z])) = true := rfl
theorem good_pair {h₀ h' : Heap} {L aD ml sc : Addr} {m : Str → Option Value} {news all : List (Addr × Obj)} {k : Str} {l : Bool} {s : Shared} {Q : Value → Shared → Prop} {a b : Value} {da db : D} {n n' tk : Nat} {i' : Int} {t' : Tok}
    (hret : GoodTo h₀ L m news ml sc k l s Q) (F' : Fr h₀ L h' m) (N' : News h₀ L h' all) (hD : (aD, tupO [a, b] n) ∈ all) (hm : (ml, millO sc i' t' n') ∈ all) (hs : ∀ p ∈ news, p ∈ all) (hf : AllLt aD news) (i0 : 0 ≤ i')
    (ha : ∀ led, DenD led a da) (hb : ∀ led, DenD led b db) (o1 : isOp k l (.el (.tup [da, db])) = true) (o2 : fits k l (.el (.tup [da, db])) = true) : Q (.ref aD) { s with heap := h', toks := tk } := by
  refine hret (.ref aD) (.el (.tup [da, db])) h' tk i' t' n' [(aD, tupO [a, b] n)] i0 F' (fun p hp => ?_) (fun p hp => ?_) (.el (.tup (.head _) (show 2 ≤ 8 by decide) (.cons (ha _) (.cons (hb _) .nil)))) o1 o2
  · rcases List.mem_cons.mp hp with rfl | hp
    · exact N' _ hm
    · rcases List.mem_cons.mp hp with rfl | hp
      · exact N' _ hD
      · exact N' _ (hs _ hp)
  · rw [List.mem_singleton.mp hp]
    exact ⟨news_ne N' hD hm (by simp), fun q hq => Nat.ne_of_gt (ktn_ltOf hf q hq)⟩
theorem isOp_F {l d} : isOp "F" l d = geD 0 d := by unfold isOp; rw [show ((("F" : Str) == "R") = false) by decide +kernel, show ((("F" : Str) == "X") = false) by decide +kernel, show ((("F" : Str) == "Y") = false) by decide +kernel, show ((("F" : Str) == "C") = false) by decide +kernel, show ((("F" : Str) == "F") = true) by decide +kernel]; rfl
theorem isOp_N {l d} : isOp "N" l d = geD 0 d := by unfold isOp; rw [show ((("N" : Str) == "R") = false) by decide +kernel, show ((("N" : Str) == "X") = false) by decide +kernel, show ((("N" : Str) == "Y") = false) by decide +kernel, show ((("N" : Str) == "C") = false) by decide +kernel, show ((("N" : Str) == "F") = false) by decide +kernel, show ((("N" : Str) == "N") = true) by decide +kernel]; rfl
theorem isOp_L {l d} : isOp "L" l d = isTgt l d := by unfold isOp; rw [show ((("L" : Str) == "R") = false) by decide +kernel, show ((("L" : Str) == "X") = false) by decide +kernel, show ((("L" : Str) == "Y") = false) by decide +kernel, show ((("L" : Str) == "C") = false) by decide +kernel, show ((("L" : Str) == "F") = false) by decide +kernel, show ((("L" : Str) == "N") = false) by decide +kernel, show ((("L" : Str) == "L") = true) by decide +kernel]; rfl
theorem geD_ok {c r : Int} (h : c ≤ r) : geD c (.el (.int r)) = true := decide_eq_true h
section
variable {prog : Program} {w : World} {p : Program} {loose : List Str} {mean : ExcName → Option Value} {mg mb : Str → Option Value} 
   {dp un : Nat} {gd : Option (List Code)} {cn : Str} {cs : Scope} {a : Addr} {ccd : Value} {cl : List (Str × Addr)} {outer : List Env} {A₀ : Around} {base h₀ : Heap} {L : Addr} {m : Str → Option Value} {news : List (Addr × Obj)} {s : Shared} {Q E : Value → Shared → Prop}
   {ml sc : Addr} {n k : Nat} {t tl : Tok} {i : Int} {vs : List Value} {ns : List Int} {l : Bool}
theorem c_law_goodF (off : ∀ p ∈ news, p.1 ≠ ml) (hsc : (sc, listOf vs.toArray k) ∈ news) (hi : IntsAre vs ns) (hlen : ns.length ≤ 63) (hi0 : 0 ≤ i)
    (B : Below A₀ base outer h₀) (F : Fr h₀ L s.heap m) (X : (hd.heap_39 w.params).In h₀) (N : News h₀ L s.heap ((ml, millO sc i t n) :: news)) (T : Top p loose mean mg mb h₀) (hk : cs.kind = .function) 
    (hdp : dp + 22 < recursionLimit) (hu : un + 500 < cLine) (hret : GoodTo h₀ L m news ml sc "F" l s Q) :
    wpAny (model prog w) (ktrTop dp un gd cn cs L a ccd cl outer) (call (.ref 153) [.ref ml, .str "F" tl, .bool l]) Q E s := by
  refine wpAny_call ?_
  k_dflt cell_enter
  k_steps
  exact hret _ (.el (.int _)) _ _ _ _ _ [] (by assumption) (by k_asm) (by k_asm) (fun _ h => nomatch h) (.el (.int _ _)) (by rw [isOp_F]; exact geD_ok (by omega)) (by rw [← fits_F]; exact geD_ok (by omega))
theorem c_law_goodN (off : ∀ p ∈ news, p.1 ≠ ml) (hsc : (sc, listOf vs.toArray k) ∈ news) (hi : IntsAre vs ns) (hlen : ns.length ≤ 63) (hi0 : 0 ≤ i)
    (B : Below A₀ base outer h₀) (F : Fr h₀ L s.heap m) (X : (hd.heap_39 w.params).In h₀) (N : News h₀ L s.heap ((ml, millO sc i t n) :: news)) (T : Top p loose mean mg mb h₀) (hk : cs.kind = .function) 
    (hdp : dp + 22 < recursionLimit) (hu : un + 500 < cLine) (hret : GoodTo h₀ L m news ml sc "N" l s Q) :
    wpAny (model prog w) (ktrTop dp un gd cn cs L a ccd cl outer) (call (.ref 153) [.ref ml, .str "N" tl, .bool l]) Q E s := by
  refine wpAny_call ?_
  k_dflt cell_enter
  k_steps
  exact hret _ (.el (.int _)) _ _ _ _ _ [] (by assumption) (by k_asm) (by k_asm) (fun _ h => nomatch h) (.el (.int _ _)) (by rw [isOp_N]; exact geD_ok (by omega)) (by rw [← fits_N]; exact geD_ok (by omega))
theorem c_law_goodL (off : ∀ p ∈ news, p.1 ≠ ml) (hsc : (sc, listOf vs.toArray k) ∈ news) (hi : IntsAre vs ns) (hlen : ns.length ≤ 63) (hi0 : 0 ≤ i)
    (B : Below A₀ base outer h₀) (F : Fr h₀ L s.heap m) (X : (hd.heap_39 w.params).In h₀) (N : News h₀ L s.heap ((ml, millO sc i t n) :: news)) (T : Top p loose mean mg mb h₀) (hk : cs.kind = .function) 
    (hdp : dp + 22 < recursionLimit) (hu : un + 500 < cLine) (hret : GoodTo h₀ L m news ml sc "L" l s Q) :
    wpAny (model prog w) (ktrTop dp un gd cn cs L a ccd cl outer) (call (.ref 153) [.ref ml, .str "L" tl, .bool l]) Q E s := by
  refine wpAny_call ?_
  k_dflt cell_enter
  k_steps
  · rename l = true => hl
    refine hret _ (.el (.int _)) _ _ _ _ _ [] (by assumption) (by k_asm) (by k_asm) (fun _ h => nomatch h) (.el (.int _ _)) ?_ ?_
    · rw [isOp_L, hl]; exact geD_ok (by omega)
    · rw [← fits_L, hl]; exact geD_ok (by omega)
  · rename l = false => hl
    refine hret _ (.el (.int _)) _ _ _ _ _ [] (by assumption) (by k_asm) (by k_asm) (fun _ h => nomatch h) (.el (.int _ _)) ?_ ?_
    · rw [isOp_L, hl]; exact geD_ok (by omega)
    · rw [← fits_L, hl]; exact geD_ok (by omega)
theorem c_law_goodR (off : ∀ p ∈ news, p.1 ≠ ml) (hsc : (sc, listOf vs.toArray k) ∈ news) (hi : IntsAre vs ns) (hlen : ns.length ≤ 63) (hi0 : 0 ≤ i)
    (B : Below A₀ base outer h₀) (F : Fr h₀ L s.heap m) (X : (hd.heap_39 w.params).In h₀) (N : News h₀ L s.heap ((ml, millO sc i t n) :: news)) (T : Top p loose mean mg mb h₀) (hk : cs.kind = .function) 
    (hdp : dp + 22 < recursionLimit) (hu : un + 500 < cLine) (hret : GoodTo h₀ L m news ml sc "R" l s Q) :
    wpAny (model prog w) (ktrTop dp un gd cn cs L a ccd cl outer) (call (.ref 153) [.ref ml, .str "R" tl, .bool l]) Q E s := by
  refine wpAny_call ?_
  k_dflt cell_enter
  k_steps
  all_goals
    rename News _ _ _ _ => lN2
    refine good_pair hret (by k_asm) lN2 (by k_mem) (by k_mem) (fun q hq => by k_mem) (by first | exact And.right (by with_reducible assumption) | exact And.right (And.right (by with_reducible assumption)) | exact And.right (And.right (And.right (by with_reducible assumption))) | exact And.right (And.right (And.right (And.right (by with_reducible assumption))))) (by assumption) (fun _ => .str _ _) (fun _ => .int _ _) ?_ ?_
  all_goals first | rw [isOp_R] | rw [← fits_R]
  all_goals exact reg_ok (by decide +kernel) (by omega)
theorem c_law_goodX (off : ∀ p ∈ news, p.1 ≠ ml) (hsc : (sc, listOf vs.toArray k) ∈ news) (hi : IntsAre vs ns) (hlen : ns.length ≤ 63) (hi0 : 0 ≤ i)
    (B : Below A₀ base outer h₀) (F : Fr h₀ L s.heap m) (X : (hd.heap_39 w.params).In h₀) (N : News h₀ L s.heap ((ml, millO sc i t n) :: news)) (T : Top p loose mean mg mb h₀) (hk : cs.kind = .function) 
    (hdp : dp + 22 < recursionLimit) (hu : un + 500 < cLine) (hret : GoodTo h₀ L m news ml sc "X" l s Q) :
    wpAny (model prog w) (ktrTop dp un gd cn cs L a ccd cl outer) (call (.ref 153) [.ref ml, .str "X" tl, .bool l]) Q E s := by
  refine wpAny_call ?_
  k_dflt cell_enter
  k_steps
  all_goals
    rename News _ _ _ _ => lN2
    refine good_pair hret (by k_asm) lN2 (by k_mem) (by k_mem) (fun q hq => by k_mem) (by first | exact And.right (by with_reducible assumption) | exact And.right (And.right (by with_reducible assumption)) | exact And.right (And.right (And.right (by with_reducible assumption))) | exact And.right (And.right (And.right (And.right (by with_reducible assumption))))) (by assumption) (fun _ => .str _ _) (fun _ => .int _ _) ?_ ?_
  all_goals first | rw [isOp_X] | rw [← fits_X]
  all_goals exact reg_ok (by decide +kernel) (by omega)
theorem c_law_goodY (off : ∀ p ∈ news, p.1 ≠ ml) (hsc : (sc, listOf vs.toArray k) ∈ news) (hi : IntsAre vs ns) (hlen : ns.length ≤ 63) (hi0 : 0 ≤ i)
    (B : Below A₀ base outer h₀) (F : Fr h₀ L s.heap m) (X : (hd.heap_39 w.params).In h₀) (N : News h₀ L s.heap ((ml, millO sc i t n) :: news)) (T : Top p loose mean mg mb h₀) (hk : cs.kind = .function) 
    (hdp : dp + 22 < recursionLimit) (hu : un + 500 < cLine) (hret : GoodTo h₀ L m news ml sc "Y" l s Q) :
    wpAny (model prog w) (ktrTop dp un gd cn cs L a ccd cl outer) (call (.ref 153) [.ref ml, .str "Y" tl, .bool l]) Q E s := by
  refine wpAny_call ?_
  k_dflt cell_enter
  k_steps
  all_goals
    rename News _ _ _ _ => lN2
    refine good_pair hret (by k_asm) lN2 (by k_mem) (by k_mem) (fun q hq => by k_mem) (by first | exact And.right (by with_reducible assumption) | exact And.right (And.right (by with_reducible assumption)) | exact And.right (And.right (And.right (by with_reducible assumption))) | exact And.right (And.right (And.right (And.right (by with_reducible assumption))))) (by assumption) (fun _ => .str _ _) (fun _ => .int _ _) ?_ ?_
  all_goals first | rw [isOp_Y] | rw [← fits_Y]
  all_goals exact reg_ok (by decide +kernel) (by omega)
theorem c_law_goodC (off : ∀ p ∈ news, p.1 ≠ ml) (hsc : (sc, listOf vs.toArray k) ∈ news) (hi : IntsAre vs ns) (hlen : ns.length ≤ 63) (hi0 : 0 ≤ i)
    (B : Below A₀ base outer h₀) (F : Fr h₀ L s.heap m) (X : (hd.heap_39 w.params).In h₀) (N : News h₀ L s.heap ((ml, millO sc i t n) :: news)) (T : Top p loose mean mg mb h₀) (hk : cs.kind = .function) 
    (hdp : dp + 22 < recursionLimit) (hu : un + 500 < cLine) (hret : GoodTo h₀ L m news ml sc "C" l s Q) :
    wpAny (model prog w) (ktrTop dp un gd cn cs L a ccd cl outer) (call (.ref 153) [.ref ml, .str "C" tl, .bool l]) Q E s := by
  refine wpAny_call ?_
  k_dflt cell_enter
  k_steps
  · rename News _ _ _ _ => lN2
    refine good_pair hret (by k_asm) lN2 (by k_mem) (by k_mem) (fun q hq => by k_mem) (by first | exact And.right (by with_reducible assumption) | exact And.right (And.right (by with_reducible assumption)) | exact And.right (And.right (And.right (by with_reducible assumption))) | exact And.right (And.right (And.right (And.right (by with_reducible assumption))))) (by assumption) (fun _ => .int _ _) (fun _ => .int _ _) ?_ ?_
    · rw [isOp_C]; exact con4_ok (by omega)
    · rw [← fits_C]; rfl
  · rename News _ _ _ _ => lN2
    refine good_pair hret (by k_asm) lN2 (by k_mem) (by k_mem) (fun q hq => by k_mem) (by first | exact And.right (by with_reducible assumption) | exact And.right (And.right (by with_reducible assumption)) | exact And.right (And.right (And.right (by with_reducible assumption))) | exact And.right (And.right (And.right (And.right (by with_reducible assumption))))) (by assumption) (fun _ => .int _ _) (fun _ => .int _ _) ?_ ?_
    · rw [isOp_C]; exact con5_ok
    · rw [← fits_C]; rfl
end
theorem off_top27 : True := by w_top off; trivial
/-! a display of one pair: the key an int or a pair of ints -/
section
variable {prog : Program} {w : World} {A : Around} {E : Value → Shared → Prop} {s : Shared} {h₀ : Heap} {L : Addr} {m : Str → Option Value} {news : List (Addr × Obj)}
theorem hash_D {kv : Value} {k : D} {Q : Int → Shared → Prop} (hu : A.units < cLine) (N : News h₀ L s.heap news) (ok : keyOk k = true) (H : DenD news kv k) (h : ∀ tk, Q (hashD k) { s with toks := tk }) : wpAny (model prog w) A (pyHash kv) Q E s := by
  rcases key_cases ok with ⟨i, rfl⟩ | ⟨x, y, rfl⟩
  · obtain ⟨t, rfl⟩ := key_int H
    exact wpAny_pyHash_int (h _)
  · obtain ⟨b, tx, ty, nb, rfl, hb⟩ := key_tup H
    exact wpAny_pyHash_tuple hu (key_at N hb) (h _)
theorem find_none {aD : Addr} {kv : Value} {k : D} {n : Nat} {Q : Option Nat → Shared → Prop} (hu : (tupleKind (intKind prog w)).room A) (N : News h₀ L s.heap news) (hm : (aD, dictOf [] n) ∈ news) (ok : keyOk k = true) (H : DenD news kv k) (h : Q none s) : wpAny (model prog w) A (dictFind aD kv (hashD k)) Q E s := by
  have ho := (N _ hm).1
  rcases key_cases ok with ⟨i, rfl⟩ | ⟨x, y, rfl⟩
  · obtain ⟨t, rfl⟩ := key_int H
    exact wpAny_dictFind_int ho rfl (fun e he => by simp at he) (by simpa using h)
  · obtain ⟨b, tx, ty, nb, rfl, hb⟩ := key_tup H
    exact wpAny_dictFind_heap (knd := tupleKind (intKind prog w)) (k := [x, y]) (xs := []) hu (key_at N hb) ho rfl rfl (fun x hx => by simp at hx) (by simp) (fun _ => h) (fun j p hp => by simp at hp)
theorem set_one {aD : Addr} {kv vv : Value} {k : D} {n : Nat} {Q : Unit → Shared → Prop} (hu : A.units < cLine) (hr : (tupleKind (intKind prog w)).room A) (N : News h₀ L s.heap news) (F : Fr h₀ L s.heap m) (hm : (aD, dictOf [] n) ∈ news) (ok : keyOk k = true) (H : DenD news kv k)
    (h : ∀ h' tk n', Fr h₀ L h' m → Heap.SameBut aD s.heap h' → h'.get? aD = some (dictOf [⟨hashD k, kv, vv⟩] n') → Q () { s with heap := h', toks := tk }) : wpAny (model prog w) A (dictSet aD kv vv) Q E s := by
  have ho := (N _ hm).1
  unfold dictSet
  refine wpAny_holding (wpAny_bind (hash_D hu N ok H fun tk => ?_))
  unfold dictSetHashed
  refine wpAny_holding (wpAny_bind (find_none hr N hm ok H ?_))
  dsimp only
  refine wpAny_bind (wpAny_rule (wpAny_updateDictKeys ho rfl (h _ _ (n + 1) (F.change (Heap.SameBut.update ..) (N _ hm).2.1 (N _ hm).2.2) (Heap.SameBut.update ..) ?_) (by decide) (by simp)))
  rw [Heap.get?_update_self _ ho rfl]
  rfl
end
noncomputable def PutOne (prog : Program) (w : World) (h₀ : Heap) (L : Addr) (A : Around) (aD : Addr) (n : Nat) (Q : Value → Shared → Prop) (kv vv : Value) (s : Shared) : Prop :=
  ∃ m led rest k, A.units < cLine ∧ (tupleKind (intKind prog w)).room A ∧ Fr h₀ L s.heap m ∧ News h₀ L s.heap led ∧ (aD, dictOf [] n) ∈ led ∧ (∀ p ∈ rest, p ∈ led ∧ p.1 ≠ aD) ∧ keyOk k = true ∧ DenD led kv k ∧
    ∀ h' tk n', Fr h₀ L h' m → News h₀ L h' ((aD, dictOf [⟨hashD k, kv, vv⟩] n') :: rest) → Q (.ref aD) { s with heap := h', toks := tk }
section
variable {prog : Program} {w : World} {A : Around} {E Q : Value → Shared → Prop} {s : Shared} {env : Env} {h₀ : Heap} {L : Addr} {m : Str → Option Value} {news : List (Addr × Obj)}
theorem dict_one {ke ve : PySem.Expr} {pos : Pos} (F : Fr h₀ L s.heap m) (N : News h₀ L s.heap news) (hbig : h₀.NoLimit)
    (h : ∀ aD h', Fr h₀ L h' m → News h₀ L h' ((aD, dictOf [] 0) :: news) → (∀ p ∈ news, p.1 ≠ aD) → (aD == sysModules) = false →
      wpAny (model prog w) A (eval ke env) (fun kv s₁ => wpAny (model prog w) A (eval ve env) (fun vv s₂ => PutOne prog w h₀ L A aD 0 Q kv vv s₂) E s₁) E { s with heap := h' }) :
    wpAny (model prog w) A (eval (.Dict [some ke] [ve] pos) env) Q E s := by
  refine wpAny_Dict_any rfl rfl (List.cons_ne_nil _ _) (by simp) ?_
  show wpAny _ _ (evalPairs [(eval ke env, do let x ← eval ve env; standAt pos; pure x)]) _ _ _
  have ho : (s.heap.push { cls := .type "dict", data := .dict #[] }).get? s.heap.objs.size = some (dictOf [] 0) := Heap.get?_push_size _ rfl
  refine evalPairs_cons (wpAny_mono (h _ _ (F.push _) (news_pushed F N (fun b o e => Heap.get?_push_of_some _ e) ho rfl) (fun p hp => Nat.ne_of_lt (Heap.lt_size (N p hp).1)) (F.notModules (modules_low hbig))) (fun kv s₁ h₁ => ?_) fun _ _ e => e)
  refine wpAny_bind (wpAny_mono h₁ (fun vv s₂ h₂ => wpAny_bind (wpAny_standAt (wpAny_pure (evalPairs_nil ?_)))) fun _ _ e => e)
  obtain ⟨m₂, led, rest, k, hu, hr, F₂, N₂, hm, hrest, ok, H, hQ⟩ := h₂
  unfold storeAll
  rw [List.forIn_cons]
  refine wpAny_bind (wpAny_bind (set_one hu hr N₂ F₂ hm ok H fun h' tk n' F' hs hg => wpAny_pure ?_))
  dsimp only
  rw [List.forIn_nil]
  refine wpAny_pure (hQ h' tk n' F' fun p hp => ?_)
  rcases List.mem_cons.mp hp with rfl | hp
  · exact ⟨hg, (N₂ _ hm).2⟩
  · obtain ⟨hl, hne⟩ := hrest p hp
    exact ⟨(hs.2 _ hne).trans (N₂ p hl).1, (N₂ p hl).2⟩
end
local macro_rules | `(tactic| walk_at "eval Dict cons cons") => `(tactic| (k_here; k_dflt ((with_reducible show wpAny _ _ (eval (Expr.Dict [some _] [_] _) _) _ _ _); refine' dict_one ?F ?N ?b ?_; (case F | N => k_asm); (case b => exact Top.nolimit (by k_asm)); k_whole); intro _ _ _ _ _ _))
local macro_rules | `(tactic| walk_at "eval Dict") => `(tactic| (k_here; k_dflt ((with_reducible show wpAny _ _ (eval (Expr.Dict [some _] [_] _) _) _ _ _); refine' dict_one ?F ?N ?b ?_; (case F | N => k_asm); (case b => exact Top.nolimit (by k_asm)); k_whole); intro _ _ _ _ _ _))
theorem off_top28 : True := by w_top off; trivial
mutual
theorem DenD.monoC {news news' : List (Addr × Obj)} (hs : ∀ p ∈ news, p.2.cls ≠ .type "list" → p ∈ news') : ∀ {v : Value} {d : D}, DenD news v d → DenD news' v d
  | _, _, .none => .none
  | _, _, .bool b => .bool b
  | _, _, .int i t => .int i t
  | _, _, .str x t => .str x t
  | _, _, .tup h l r => .tup (hs _ h (by simp)) l (DenL.monoC hs r)
theorem DenL.monoC {news news' : List (Addr × Obj)} (hs : ∀ p ∈ news, p.2.cls ≠ .type "list" → p ∈ news') : ∀ {vs : List Value} {ds : List D}, DenL news vs ds → DenL news' vs ds
  | _, _, .nil => .nil
  | _, _, .cons h r => .cons (DenD.monoC hs h) (DenL.monoC hs r)
end
/-- the end of a maker: what it made lies ahead of the mill -/
theorem good_end {h₀ h' : Heap} {L ml sc : Addr} {m : Str → Option Value} {news : List (Addr × Obj)} {k : Str} {l : Bool} {s : Shared} {Q : Value → Shared → Prop} {r : Value} {d : T} {n' tk : Nat} {i' : Int} {t' : Tok} (made : List (Addr × Obj))
    (hret : GoodTo h₀ L m news ml sc k l s Q) (F' : Fr h₀ L h' m) (N' : News h₀ L h' (made ++ (ml, millO sc i' t' n') :: news)) (hc : ∀ p ∈ made, p.2.cls ≠ .type "list") (hfr : ∀ p ∈ made, ∀ q ∈ news, p.1 ≠ q.1) (i0 : 0 ≤ i')
    (H : Den made r d) (o1 : isOp k l d = true) (o2 : fits k l d = true) : Q r { s with heap := h', toks := tk } := by
  refine hret r d h' tk i' t' n' made i0 F' (fun p hp => N' p ?_) (fun p hp => ⟨?_, hfr p hp⟩) H o1 o2
  · rcases List.mem_cons.mp hp with rfl | hp
    · exact List.mem_append_right _ (.head _)
    · rcases List.mem_append.mp hp with hp | hp
      · exact List.mem_append_left _ hp
      · exact List.mem_append_right _ (.tail _ hp)
  · exact news_ne N' (show (p.1, p.2) ∈ _ from List.mem_append_left _ hp) (List.mem_append_right _ (.head _)) (hc p hp)
theorem isOp_T {l d} : isOp "T" l d = isTab true l d := by unfold isOp; rw [show ((("T" : Str) == "R") = false) by decide +kernel, show ((("T" : Str) == "X") = false) by decide +kernel, show ((("T" : Str) == "Y") = false) by decide +kernel, show ((("T" : Str) == "C") = false) by decide +kernel, show ((("T" : Str) == "F") = false) by decide +kernel, show ((("T" : Str) == "N") = false) by decide +kernel, show ((("T" : Str) == "L") = false) by decide +kernel, show ((("T" : Str) == "T") = true) by decide +kernel]; rfl
theorem isOp_U {l d} : isOp "U" l d = isTab false l d := by unfold isOp; rw [show ((("U" : Str) == "R") = false) by decide +kernel, show ((("U" : Str) == "X") = false) by decide +kernel, show ((("U" : Str) == "Y") = false) by decide +kernel, show ((("U" : Str) == "C") = false) by decide +kernel, show ((("U" : Str) == "F") = false) by decide +kernel, show ((("U" : Str) == "N") = false) by decide +kernel, show ((("U" : Str) == "L") = false) by decide +kernel, show ((("U" : Str) == "T") = false) by decide +kernel]; rfl
theorem fits_T' {l d} : fits "T" l d = lTab true l d := by rw [← fits_T, show ((("T" : Str) == "T") = true) by decide +kernel]
theorem fits_U' {l d} : fits "U" l d = lTab false l d := by rw [← fits_U, show ((("U" : Str) == "T") = false) by decide +kernel]
theorem goodU1 {r : Int} (h : 0 ≤ r) : isTab false true (.dic [(.int r, .int r)]) = true := by
  simp [isTab, isDic, ents, entOk, isKey, isTgt, geD, h]
theorem goodU2 {r : Int} (h : 0 ≤ r) : lTab false true (.dic [(.int r, .int r)]) = true := by
  simp [lTab, isDic, ents, lEnt, lKey, isTgt, geD, h]
theorem goodU3 {r : Int} (h : 0 ≤ r) : isTab false false (.el (.tup [.tup [.int r, .int r], .tup [.int r, .int (-1)]])) = true := by
  have h1 : -1 ≤ r := by omega
  simp [isTab, isTupT, items, pairOk, isPair, fst, snd, isKey, isTgt, geD, h, h1]
theorem goodU4 {r : Int} (h : 0 ≤ r) : lTab false false (.el (.tup [.tup [.int r, .int r], .tup [.int r, .int (-1)]])) = true := by
  have h1 : -1 ≤ r := by omega
  simp [lTab, isTupT, items, lPair, isPair, fst, snd, lKey, isTgt, geD, h, h1]
theorem goodT1 {r : Int} (h : 0 ≤ r) : isTab true true (.dic [(.tup [.int 5, .int r], .int r)]) = true := by
  simp [isTab, isDic, ents, entOk, isKey, isConst, isPair, isInt, fst, snd, eqI, isTgt, geD, h]
theorem goodT2 {r : Int} (h : 0 ≤ r) : lTab true true (.dic [(.tup [.int 5, .int r], .int r)]) = true := by
  simp [lTab, isDic, ents, lEnt, lKey, inInts, isPair, isInt, fst, snd, eqI, isTgt, geD, h]
theorem goodT3 {r : Int} (h : 0 ≤ r) : isTab true false (.el (.tup [.tup [.tup [.int 5, .int r], .int r], .tup [.tup [.int 5, .int r], .int (-1)]])) = true := by
  have h1 : -1 ≤ r := by omega
  simp [isTab, isTupT, items, pairOk, isKey, isConst, isPair, isInt, fst, snd, eqI, isTgt, geD, h, h1]
theorem goodT4 {r : Int} (h : 0 ≤ r) : lTab true false (.el (.tup [.tup [.tup [.int 5, .int r], .int r], .tup [.tup [.int 5, .int r], .int (-1)]])) = true := by
  have h1 : -1 ≤ r := by omega
  simp [lTab, isTupT, items, lPair, lKey, inInts, isPair, isInt, fst, snd, eqI, isTgt, geD, h, h1]
section
variable {prog : Program} {w : World} {p : Program} {loose : List Str} {mean : ExcName → Option Value} {mg mb : Str → Option Value} 
   {dp un : Nat} {gd : Option (List Code)} {cn : Str} {cs : Scope} {a : Addr} {ccd : Value} {cl : List (Str × Addr)} {outer : List Env} {A₀ : Around} {base h₀ : Heap} {L : Addr} {m : Str → Option Value} {news : List (Addr × Obj)} {s : Shared} {Q E : Value → Shared → Prop}
   {ml sc : Addr} {n k : Nat} {t tl : Tok} {i : Int} {vs : List Value} {ns : List Int} {l : Bool}
theorem c_law_goodT (off : ∀ p ∈ news, p.1 ≠ ml) (hsc : (sc, listOf vs.toArray k) ∈ news) (hi : IntsAre vs ns) (hlen : ns.length ≤ 63) (hi0 : 0 ≤ i)
    (B : Below A₀ base outer h₀) (F : Fr h₀ L s.heap m) (X : (hd.heap_39 w.params).In h₀) (N : News h₀ L s.heap ((ml, millO sc i t n) :: news)) (T : Top p loose mean mg mb h₀) (hk : cs.kind = .function) 
    (hdp : dp + 22 < recursionLimit) (hu : un + 500 < cLine) (hret : GoodTo h₀ L m news ml sc "T" l s Q) :
    wpAny (model prog w) (ktrTop dp un gd cn cs L a ccd cl outer) (call (.ref 153) [.ref ml, .str "T" tl, .bool l]) Q E s := by
  refine wpAny_call ?_
  k_dflt cell_enter
  k_steps
  · rename l = true => hl
    rename ∀ p : Addr × Obj, p ∈ _ → p.1 ≠ _ => lne
    rename News _ _ _ _ => lN2
    refine ⟨_, _, (_, tupO _ _) :: (ml, millO sc _ _ _) :: news, .tup [.int 5, .int _], by ktr_units, by show _ + 1 < cLine; ktr_units, (by k_asm), lN2, (by k_mem), fun q hq => ⟨.tail _ hq, lne q hq⟩, rfl, .tup (by k_mem) (by simp) (.cons (.int _ _) (.cons (.int _ _) .nil)), ?_⟩
    intro h₂ tk₂ n₂ F₂ N₂
    k_steps
    rename News _ _ _ _ => lN3
    refine good_end (d := .dic [(.tup [.int 5, .int _], .int _)]) (_ :: _ :: []) hret (by k_asm) lN3 (by intro p hp; (iterate 6 (try (rcases List.mem_cons.mp hp with rfl | hp; rotate_left))); all_goals first | exact absurd hp List.not_mem_nil | simp) (by intro p hp; (iterate 6 (try (rcases List.mem_cons.mp hp with rfl | hp; rotate_left))); all_goals first | exact absurd hp List.not_mem_nil | exact fun q hq => Nat.ne_of_gt (ktn_ltOf (by first | exact And.right (by with_reducible assumption) | exact And.right (And.right (by with_reducible assumption)) | exact And.right (And.right (And.right (by with_reducible assumption))) | exact And.right (And.right (And.right (And.right (by with_reducible assumption)))) | exact And.right (And.right (And.right (And.right (And.right (by with_reducible assumption)))))) q hq) | exact fun q hq => Ne.symm (lne q (by k_mem))) (by assumption) (.dic1 (by assumption) (by repeat (first | exact List.Mem.head _ | refine List.Mem.tail _ ?_)) rfl (.tup (by repeat (first | exact List.Mem.head _ | refine List.Mem.tail _ ?_)) (by simp) (.cons (.int _ _) (.cons (.int _ _) .nil))) (.int _ _)) ?_ ?_
    · rw [isOp_T, hl]; exact goodT1 (by omega)
    · rw [fits_T', hl]; exact goodT2 (by omega)
  · rename l = false => hl
    rename News _ _ _ _ => lN3
    refine good_end (_ :: _ :: _ :: _ :: []) hret (by k_asm) lN3 (by intro p hp; (iterate 6 (try (rcases List.mem_cons.mp hp with rfl | hp; rotate_left))); all_goals first | exact absurd hp List.not_mem_nil | simp) (by intro p hp; (iterate 6 (try (rcases List.mem_cons.mp hp with rfl | hp; rotate_left))); all_goals first | exact absurd hp List.not_mem_nil | exact fun q hq => Nat.ne_of_gt (ktn_ltOf (by first | exact And.right (by with_reducible assumption) | exact And.right (And.right (by with_reducible assumption)) | exact And.right (And.right (And.right (by with_reducible assumption))) | exact And.right (And.right (And.right (And.right (by with_reducible assumption)))) | exact And.right (And.right (And.right (And.right (And.right (by with_reducible assumption)))))) q hq) | exact fun q hq => Ne.symm (lne q (by k_mem))) (by assumption) (.el (.tup (by repeat (first | exact List.Mem.head _ | refine List.Mem.tail _ ?_)) (by simp) (.cons (.tup (by repeat (first | exact List.Mem.head _ | refine List.Mem.tail _ ?_)) (by simp) (.cons (.tup (by repeat (first | exact List.Mem.head _ | refine List.Mem.tail _ ?_)) (by simp) (.cons (.int _ _) (.cons (.int _ _) .nil))) (.cons (.int _ _) .nil))) (.cons (.tup (by repeat (first | exact List.Mem.head _ | refine List.Mem.tail _ ?_)) (by simp) (.cons (.tup (by repeat (first | exact List.Mem.head _ | refine List.Mem.tail _ ?_)) (by simp) (.cons (.int _ _) (.cons (.int _ _) .nil))) (.cons (.int _ _) .nil))) .nil)))) ?_ ?_
    · rw [isOp_T, hl]; exact goodT3 (by omega)
    · rw [fits_T', hl]; exact goodT4 (by omega)
theorem c_law_goodU (off : ∀ p ∈ news, p.1 ≠ ml) (hsc : (sc, listOf vs.toArray k) ∈ news) (hi : IntsAre vs ns) (hlen : ns.length ≤ 63) (hi0 : 0 ≤ i)
    (B : Below A₀ base outer h₀) (F : Fr h₀ L s.heap m) (X : (hd.heap_39 w.params).In h₀) (N : News h₀ L s.heap ((ml, millO sc i t n) :: news)) (T : Top p loose mean mg mb h₀) (hk : cs.kind = .function) 
    (hdp : dp + 22 < recursionLimit) (hu : un + 500 < cLine) (hret : GoodTo h₀ L m news ml sc "U" l s Q) :
    wpAny (model prog w) (ktrTop dp un gd cn cs L a ccd cl outer) (call (.ref 153) [.ref ml, .str "U" tl, .bool l]) Q E s := by
  refine wpAny_call ?_
  k_dflt cell_enter
  k_steps
  · rename l = true => hl
    rename ∀ p : Addr × Obj, p ∈ _ → p.1 ≠ _ => lne
    rename News _ _ _ _ => lN2
    refine ⟨_, _, (ml, millO sc _ _ _) :: news, .int _, by ktr_units, by show _ + 1 < cLine; ktr_units, (by k_asm), lN2, (by k_mem), fun q hq => ⟨.tail _ hq, lne q hq⟩, rfl, .int _ _, ?_⟩
    intro h₂ tk₂ n₂ F₂ N₂
    k_steps
    rename News _ _ _ _ => lN3
    refine good_end (d := .dic [(.int _, .int _)]) (_ :: []) hret (by k_asm) lN3 (by intro p hp; (iterate 6 (try (rcases List.mem_cons.mp hp with rfl | hp; rotate_left))); all_goals first | exact absurd hp List.not_mem_nil | simp) (by intro p hp; (iterate 6 (try (rcases List.mem_cons.mp hp with rfl | hp; rotate_left))); all_goals first | exact absurd hp List.not_mem_nil | exact fun q hq => Nat.ne_of_gt (ktn_ltOf (by first | exact And.right (by with_reducible assumption) | exact And.right (And.right (by with_reducible assumption)) | exact And.right (And.right (And.right (by with_reducible assumption))) | exact And.right (And.right (And.right (And.right (by with_reducible assumption)))) | exact And.right (And.right (And.right (And.right (And.right (by with_reducible assumption)))))) q hq) | exact fun q hq => Ne.symm (lne q (by k_mem))) (by assumption) (.dic1 (by assumption) (by repeat (first | exact List.Mem.head _ | refine List.Mem.tail _ ?_)) rfl (.int _ _) (.int _ _)) ?_ ?_
    · rw [isOp_U, hl]; exact goodU1 (by omega)
    · rw [fits_U', hl]; exact goodU2 (by omega)
  · rename l = false => hl
    rename News _ _ _ _ => lN3
    refine good_end (_ :: _ :: _ :: []) hret (by k_asm) lN3 (by intro p hp; (iterate 6 (try (rcases List.mem_cons.mp hp with rfl | hp; rotate_left))); all_goals first | exact absurd hp List.not_mem_nil | simp) (by intro p hp; (iterate 6 (try (rcases List.mem_cons.mp hp with rfl | hp; rotate_left))); all_goals first | exact absurd hp List.not_mem_nil | exact fun q hq => Nat.ne_of_gt (ktn_ltOf (by first | exact And.right (by with_reducible assumption) | exact And.right (And.right (by with_reducible assumption)) | exact And.right (And.right (And.right (by with_reducible assumption))) | exact And.right (And.right (And.right (And.right (by with_reducible assumption)))) | exact And.right (And.right (And.right (And.right (And.right (by with_reducible assumption)))))) q hq) | exact fun q hq => Ne.symm (lne q (by k_mem))) (by assumption) (.el (.tup (by repeat (first | exact List.Mem.head _ | refine List.Mem.tail _ ?_)) (by simp) (.cons (.tup (by repeat (first | exact List.Mem.head _ | refine List.Mem.tail _ ?_)) (by simp) (.cons (.int _ _) (.cons (.int _ _) .nil))) (.cons (.tup (by repeat (first | exact List.Mem.head _ | refine List.Mem.tail _ ?_)) (by simp) (.cons (.int _ _) (.cons (.int _ _) .nil))) .nil)))) ?_ ?_
    · rw [isOp_U, hl]; exact goodU3 (by omega)
    · rw [fits_U', hl]; exact goodU4 (by omega)
end
theorem off_top29 : True := by w_top off; trivial
section
variable {prog : Program} {w : World} {p : Program} {loose : List Str} {mean : ExcName → Option Value} {mg mb : Str → Option Value} 
   {dp un : Nat} {gd : Option (List Code)} {cn : Str} {cs : Scope} {a : Addr} {ccd : Value} {cl : List (Str × Addr)} {outer : List Env} {A₀ : Around} {base h₀ : Heap} {L : Addr} {m : Str → Option Value} {news : List (Addr × Obj)} {s : Shared} {Q E : Value → Shared → Prop}
   {ml sc : Addr} {n k : Nat} {t tl : Tok} {i : Int} {vs : List Value} {ns : List Int} {l : Bool} {c : Str}
theorem c_law_good (hc : c ∈ letters) (off : ∀ p ∈ news, p.1 ≠ ml) (hsc : (sc, listOf vs.toArray k) ∈ news) (hi : IntsAre vs ns) (hlen : ns.length ≤ 63) (hi0 : 0 ≤ i)
    (B : Below A₀ base outer h₀) (F : Fr h₀ L s.heap m) (X : (hd.heap_39 w.params).In h₀) (N : News h₀ L s.heap ((ml, millO sc i t n) :: news)) (T : Top p loose mean mg mb h₀) (hk : cs.kind = .function) 
    (hdp : dp + 22 < recursionLimit) (hu : un + 500 < cLine) (hret : GoodTo h₀ L m news ml sc c l s Q) :
    wpAny (model prog w) (ktrTop dp un gd cn cs L a ccd cl outer) (call (.ref 153) [.ref ml, .str c tl, .bool l]) Q E s := by
  simp only [letters, List.mem_cons, List.not_mem_nil, or_false] at hc
  rcases hc with rfl | rfl | rfl | rfl | rfl | rfl | rfl | rfl | rfl
  · exact c_law_goodR off hsc hi hlen hi0 B F X N T hk hdp hu hret
  · exact c_law_goodX off hsc hi hlen hi0 B F X N T hk hdp hu hret
  · exact c_law_goodY off hsc hi hlen hi0 B F X N T hk hdp hu hret
  · exact c_law_goodC off hsc hi hlen hi0 B F X N T hk hdp hu hret
  · exact c_law_goodF off hsc hi hlen hi0 B F X N T hk hdp hu hret
  · exact c_law_goodN off hsc hi hlen hi0 B F X N T hk hdp hu hret
  · exact c_law_goodL off hsc hi hlen hi0 B F X N T hk hdp hu hret
  · exact c_law_goodT off hsc hi hlen hi0 B F X N T hk hdp hu hret
  · exact c_law_goodU off hsc hi hlen hi0 B F X N T hk hdp hu hret
end
theorem off_top30 : True := by w_top off; trivial
/-- a fact that the walk is not to look into; a stop of the walk -/
noncomputable def HoldS (P : Prop) : Prop := P
theorem HoldS.go {P : Prop} (h : HoldS P) : P := h
theorem HoldS.mk {P : Prop} (h : P) : HoldS P := h
section
variable {prog : Program} {w : World} {A : Around} {E Q : Value → Shared → Prop} {s : Shared} {env : Env} {h₀ : Heap} {L : Addr} {m : Str → Option Value} {news : List (Addr × Obj)}
theorem dict_nil {pos : Pos} (F : Fr h₀ L s.heap m) (N : News h₀ L s.heap news) (hbig : h₀.NoLimit)
    (h : ∀ aD h', Fr h₀ L h' m → News h₀ L h' ((aD, dictOf [] 0) :: news) → (∀ p ∈ news, p.1 ≠ aD) → (aD == sysModules) = false → Q (.ref aD) { s with heap := h' }) : wpAny (model prog w) A (eval (.Dict [] [] pos) env) Q E s :=
  wpAny_Dict_empty (h _ _ (F.push _) (news_pushed F N (fun b o e => Heap.get?_push_of_some _ e) (Heap.get?_push_size _ rfl) rfl) (fun p hp => Nat.ne_of_lt (Heap.lt_size (N p hp).1)) (F.notModules (modules_low hbig)))
end
local macro_rules | `(tactic| walk_at "eval Dict nil nil") => `(tactic| (k_here; k_dflt (refine' dict_nil ?F ?N ?b ?_; (case F | N => k_asm); (case b => exact Top.nolimit (by k_asm)); k_whole); intro _ _ _ _ _ _))
noncomputable def thingsL : List T := [
  .el (.tup [.str "x", .int 1]), .el (.tup [.str "y", .int 2]), .el (.tup [.str "x", .int 0]), .el (.tup [.str "y", .bool true]), .el (.tup [.str "z", .int 1]), .el (.tup [.str "x", .int 1, .int 2]), .lst,
  .el (.tup [.int 4, .int 3]), .el (.tup [.int 5, .int (-4)]), .el (.tup [.int 5, .bool true]), .el (.tup [.int 2, .int 3]), .el (.int 0), .el (.int 5), .el (.int (-1)), .el (.int (-2)), .el (.bool true), .el (.bool false), .el .none, .el (.str "x"),
  .el (.tup []), .dic [], .el (.tup [.tup [.tup [.int 4, .int 1], .int 2]]), .el (.tup [.tup [.int 3, .int (-1)]]), .el (.tup [.tup [.int 3, .int (-2)]]), .el (.tup [.tup [.int (-3), .int 1]]), .lst,
  .dic [(.int 3, .int 1)], .dic [(.tup [.int 4, .int 1], .int 4)], .dic [(.int 3, .int (-1))], .dic [(.tup [.int 4, .int 1], .bool true)], .el (.tup [.tup [.str "a", .int 1], .int 2]), .el (.tup [.int 3, .int 1])]
noncomputable def offMill (o : Obj) : Bool := o.cls == .type "tuple" || match o.data with
  | .seq its _ => (match its.toList with
    | [.ref _, .int _ _] => false
    | _ => true)
  | _ => true
theorem off_mill {h₀ h : Heap} {L ml sc : Addr} {i : Int} {t : Tok} {n : Nat} {made news : List (Addr × Obj)} (N : News h₀ L h (made ++ (ml, millO sc i t n) :: news)) (hd : made.all (fun p => offMill p.2) = true) (off : ∀ p ∈ news, p.1 ≠ ml) :
    News h₀ L h ((ml, millO sc i t n) :: (made ++ news)) ∧ ∀ p ∈ made ++ news, p.1 ≠ ml := by
  refine ⟨fun p hp => N p ?_, fun p hp => ?_⟩
  · rcases List.mem_cons.mp hp with rfl | hp
    · exact List.mem_append_right _ (.head _)
    · rcases List.mem_append.mp hp with hp | hp
      · exact List.mem_append_left _ hp
      · exact List.mem_append_right _ (.tail _ hp)
  rcases List.mem_append.mp hp with hp | hp
  · intro e
    have h1 := (N p (List.mem_append_left _ hp)).1
    have h2 := (N (ml, millO sc i t n) (List.mem_append_right _ (.head _))).1
    rw [e] at h1
    rw [h1] at h2
    have h3 := List.all_eq_true.mp hd p hp
    rw [Option.some.inj h2] at h3
    have : ((Value.type "list") == Value.type "tuple") = false := by decide +kernel
    unfold offMill at h3
    rw [show (millO sc i t n).cls = Value.type "list" from rfl, this] at h3
    simp at h3
  · exact off p hp
theorem off_mill' {h₀ h : Heap} {L ml sc : Addr} {i : Int} {t : Tok} {n : Nat} {q : Addr × Obj} {made news : List (Addr × Obj)} (N : News h₀ L h (q :: (made ++ (ml, millO sc i t n) :: news))) (hd : (q :: made).all (fun p => offMill p.2) = true) (off : ∀ p ∈ news, p.1 ≠ ml) :
    News h₀ L h ((ml, millO sc i t n) :: q :: (made ++ news)) ∧ ∀ p ∈ q :: (made ++ news), p.1 ≠ ml := off_mill (made := q :: made) N hd off
/-! a display of written things, told once for any state -/
noncomputable def Makes (prog : Program) (w : World) (A : Around) (E : Value → Shared → Prop) (h₀ : Heap) (L : Addr) (m : Str → Option Value) {α : Type} (t : Sem α) (R : List (Addr × Obj) → α → Prop) : Prop :=
  ∀ (s : Shared) (led : List (Addr × Obj)) (Q : α → Shared → Prop), Fr h₀ L s.heap m → News h₀ L s.heap led →
    (∀ v made h' tk, Fr h₀ L h' m → News h₀ L h' (made ++ led) → (∀ p ∈ made, offMill p.2 = true ∧ ∀ q ∈ led, p.1 ≠ q.1) → R made v → Q v { s with heap := h', toks := tk }) → wpAny (model prog w) A t Q E s
section
variable {prog : Program} {w : World} {A : Around} {E : Value → Shared → Prop} {env : Env} {h₀ : Heap} {L : Addr} {m : Str → Option Value}
theorem mk_int {i : Int} {k : Nat} {pos : Pos} : Makes prog w A E h₀ L m (eval (.Constant (.int i) k pos) env) (fun g v => DenD g v (.int i)) :=
  fun s _ _ F N h => wpAny_Constant_int (h _ [] s.heap _ F N (fun _ hp => nomatch hp) (.int _ _))
theorem mk_str {x : Str} {k : Nat} {pos : Pos} : Makes prog w A E h₀ L m (eval (.Constant (.str x) k pos) env) (fun g v => DenD g v (.str x)) :=
  fun s _ _ F N h => wpAny_Constant_str (h _ [] s.heap _ F N (fun _ hp => nomatch hp) (.str _ _))
theorem mk_bool {b : Bool} {k : Nat} {pos : Pos} : Makes prog w A E h₀ L m (eval (.Constant (.bool b) k pos) env) (fun g v => DenD g v (.bool b)) :=
  fun s _ _ F N h => wpAny_Constant_bool (h _ [] s.heap s.toks F N (fun _ hp => nomatch hp) (.bool _))
theorem mk_none {k : Nat} {pos : Pos} : Makes prog w A E h₀ L m (eval (.Constant .none k pos) env) (fun g v => DenD g v .none) :=
  fun s _ _ F N h => wpAny_Constant_none (h _ [] s.heap s.toks F N (fun _ hp => nomatch hp) .none)
theorem mk_neg {i : Int} {k : Nat} {pos pos' : Pos} : Makes prog w A E h₀ L m (eval (.UnaryOp .USub (.Constant (.int i) k pos) pos') env) (fun g v => DenD g v (.int (-i))) :=
  fun s _ _ F N h => UnaryOp_ (wpAny_Constant_int (neg_int (h _ [] s.heap _ F N (fun _ hp => nomatch hp) (.int _ _))))
theorem mk_map {α : Type} {t : Sem α} {R S : List (Addr × Obj) → α → Prop} (j : ∀ g v, R g v → S g v) (h : Makes prog w A E h₀ L m t R) : Makes prog w A E h₀ L m t S :=
  fun s led Q F N hQ => h s led Q F N fun v g h' tk F' N' hg H => hQ v g h' tk F' N' hg (j _ _ H)
theorem mk_el {d : D} {e : PySem.Expr} (h : Makes prog w A E h₀ L m (eval e env) (fun g v => DenD g v d)) : Makes prog w A E h₀ L m (eval e env) (fun g v => Den g v (.el d)) := mk_map (fun _ _ => .el) h
theorem both_made {g g' led : List (Addr × Obj)} (h1 : ∀ p ∈ g, offMill p.2 = true ∧ ∀ q ∈ led, p.1 ≠ q.1) (h2 : ∀ p ∈ g', offMill p.2 = true ∧ ∀ q ∈ g ++ led, p.1 ≠ q.1) :
    ∀ p ∈ g' ++ g, offMill p.2 = true ∧ ∀ q ∈ led, p.1 ≠ q.1 := fun p hp => (List.mem_append.mp hp).elim (fun hp => ⟨(h2 p hp).1, fun q hq => (h2 p hp).2 q (List.mem_append_right _ hq)⟩) (h1 p)
theorem mk_two {e : PySem.Expr} {rest : List PySem.Expr} {pos : Pos} {R : List (Addr × Obj) → Value → Prop} {S S' : List (Addr × Obj) → List Value → Prop} (mR : ∀ g g' v, (∀ p ∈ g, p ∈ g') → R g v → R g' v) (mS : ∀ g g' v, (∀ p ∈ g, p ∈ g') → S g v → S g' v) (j : ∀ g v vs, R g v → S g vs → S' g (v :: vs))
    (he : starEach (e :: rest) env = (false, eval e env) :: starEach rest env) (h1 : Makes prog w A E h₀ L m (eval e env) R) (h2 : Makes prog w A E h₀ L m (spliced (backTo pos (starEach rest env))) S) : Makes prog w A E h₀ L m (spliced (backTo pos (starEach (e :: rest) env))) S' :=
  fun s led Q F N hQ => spliced_more (h1 s led _ F N fun v g h' tk F' N' hg H => h2 _ (g ++ led) _ F' N' fun vs g' h'' tk' F'' N'' hg' H' =>
    hQ (v :: vs) (g' ++ g) h'' tk' F'' (by rw [List.append_assoc]; exact N'') (both_made hg hg') (j _ _ _ (mR _ _ _ (fun _ => List.mem_append_right _) H) (mS _ _ _ (fun _ => List.mem_append_left _) H'))) he
theorem mk_nil {pos : Pos} : Makes prog w A E h₀ L m (spliced (backTo pos (starEach [] env))) (fun g vs => DenL g vs []) :=
  fun s _ _ F N h => spliced_none (h _ [] s.heap s.toks F N (fun _ hp => nomatch hp) .nil)
theorem mk_cons {e : PySem.Expr} {rest : List PySem.Expr} {pos : Pos} {d : D} {ds : List D} (he : starEach (e :: rest) env = (false, eval e env) :: starEach rest env) (h1 : Makes prog w A E h₀ L m (eval e env) (fun g v => DenD g v d)) (h2 : Makes prog w A E h₀ L m (spliced (backTo pos (starEach rest env))) (fun g vs => DenL g vs ds)) :
    Makes prog w A E h₀ L m (spliced (backTo pos (starEach (e :: rest) env))) (fun g vs => DenL g vs (d :: ds)) := mk_two (R := fun g v => DenD g v d) (S := fun g vs => DenL g vs ds) (S' := fun g vs => DenL g vs (d :: ds)) (fun _ _ _ hs => DenD.mono hs) (fun _ _ _ hs => DenL.mono hs) (fun _ _ _ => .cons) he h1 h2
theorem mk_nilR {pos : Pos} : Makes prog w A E h₀ L m (spliced (backTo pos (starEach [] env))) (fun g vs => DenR g vs []) :=
  fun s _ _ F N h => spliced_none (h _ [] s.heap s.toks F N (fun _ hp => nomatch hp) .nil)
theorem mk_consR {e : PySem.Expr} {rest : List PySem.Expr} {pos : Pos} {d : T} {ds : List T} (he : starEach (e :: rest) env = (false, eval e env) :: starEach rest env) (h1 : Makes prog w A E h₀ L m (eval e env) (fun g v => Den g v d)) (h2 : Makes prog w A E h₀ L m (spliced (backTo pos (starEach rest env))) (fun g vs => DenR g vs ds)) :
    Makes prog w A E h₀ L m (spliced (backTo pos (starEach (e :: rest) env))) (fun g vs => DenR g vs (d :: ds)) := mk_two (R := fun g v => Den g v d) (S := fun g vs => DenR g vs ds) (S' := fun g vs => DenR g vs (d :: ds)) (fun _ _ _ hs => Den.mono hs) (fun _ _ _ hs => DenR.mono hs) (fun _ _ _ => .cons) he h1 h2
theorem one_made {D : Addr} {o : Obj} {g led : List (Addr × Obj)} (ho : offMill o = true) (lt : ∀ q ∈ led, D ≠ q.1) (hg : ∀ p ∈ g, offMill p.2 = true ∧ ∀ q ∈ led, p.1 ≠ q.1) : ∀ p ∈ (D, o) :: g, offMill p.2 = true ∧ ∀ q ∈ led, p.1 ≠ q.1 := fun p hp => by
  rcases List.mem_cons.mp hp with rfl | hp
  · exact ⟨ho, lt⟩
  · exact hg p hp
theorem mk_tup {elts : List PySem.Expr} {k : Nat} {pos : Pos} {ds : List D} (hl : ds.length ≤ 8) (h1 : Makes prog w A E h₀ L m (spliced (backTo pos (starEach elts env))) (fun g vs => DenL g vs ds)) : Makes prog w A E h₀ L m (eval (.Tuple elts k pos) env) (fun g v => DenD g v (.tup ds)) :=
  fun s led Q F N hQ => Tuple_ (h1 s led _ F N fun vs g h' tk F' N' hg H => kup_newTuple F' N' (fun D h'' F'' N'' lt =>
    hQ (.ref D) ((D, tupO vs 0) :: g) h'' tk F'' N'' (one_made (by rfl) (fun q hq => Nat.ne_of_gt (lt q (List.mem_append_right _ hq))) hg) (.tup (.head _) (by rw [H.length]; exact hl) (H.mono fun _ => .tail _))) (by rw [H.length, sizeLine_eq]; omega))
theorem mk_lst {elts : List PySem.Expr} {pos : Pos} {ds : List D} (hl : ds.length ≤ 8) (ho : ∀ g vs, DenL g vs ds → offMill (listOf vs.toArray 0) = true) (h1 : Makes prog w A E h₀ L m (spliced (backTo pos (starEach elts env))) (fun g vs => DenL g vs ds)) : Makes prog w A E h₀ L m (eval (.List elts pos) env) (fun g v => Den g v .lst) :=
  fun s led Q F N hQ => List_ (h1 s led _ F N fun vs g h' tk F' N' hg H => newList_K F' N' (fun D h'' F'' N'' lt =>
    hQ (.ref D) ((D, listOf vs.toArray 0) :: g) h'' tk F'' N'' (one_made (ho _ _ H) (fun q hq => Nat.ne_of_gt (lt q (List.mem_append_right _ hq))) hg) (.lst (.head _))) (by rw [H.length, sizeLine_eq]; omega))
theorem mk_dic0 {pos : Pos} (hbig : h₀.NoLimit) : Makes prog w A E h₀ L m (eval (.Dict [] [] pos) env) (fun g v => Den g v (.dic [])) :=
  fun s led Q F N hQ => dict_nil F N hbig fun aD h' F' N' ne nm => hQ (.ref aD) [(aD, dictOf [] 0)] h' s.toks F' N' (one_made (by rfl) (fun q hq => (ne q hq).symm) (fun _ hp => nomatch hp)) (.dic0 nm (.head _))
theorem mk_dic1 {ke ve : PySem.Expr} {pos : Pos} {k d : D} (hbig : h₀.NoLimit) (hu : A.units < cLine) (hr : (tupleKind (intKind prog w)).room A) (ok : keyOk k = true) (h1 : Makes prog w A E h₀ L m (eval ke env) (fun g v => DenD g v k)) (h2 : Makes prog w A E h₀ L m (eval ve env) (fun g v => DenD g v d)) :
    Makes prog w A E h₀ L m (eval (.Dict [some ke] [ve] pos) env) (fun g v => Den g v (.dic [(k, d)])) :=
  fun s led Q F N hQ => dict_one F N hbig fun aD h' F' N' ne nm => h1 _ ((aD, dictOf [] 0) :: led) _ F' N' fun kv g h'' tk F'' N'' hg H => h2 _ (g ++ (aD, dictOf [] 0) :: led) _ F'' N'' fun vv g' h3 tk3 F3 N3 hg' H' =>
    ⟨m, g' ++ (g ++ (aD, dictOf [] 0) :: led), g' ++ (g ++ led), k, hu, hr, F3, N3, List.mem_append_right _ (List.mem_append_right _ (.head _)), fun p hp => by
      rcases List.mem_append.mp hp with hp | hp
      · exact ⟨List.mem_append_left _ hp, (hg' p hp).2 _ (List.mem_append_right _ (.head _))⟩
      · rcases List.mem_append.mp hp with hp | hp
        · exact ⟨List.mem_append_right _ (List.mem_append_left _ hp), (hg p hp).2 _ (.head _)⟩
        · exact ⟨List.mem_append_right _ (List.mem_append_right _ (.tail _ hp)), ne p hp⟩, ok, H.mono fun p hp => List.mem_append_right _ (List.mem_append_left _ hp), fun h4 tk4 n4 F4 N4 =>
      hQ (.ref aD) ((aD, dictOf [⟨hashD k, kv, vv⟩] n4) :: (g' ++ g)) h4 tk4 F4 (by rw [List.cons_append, List.append_assoc]; exact N4)
        (one_made (by rfl) (fun q hq => (ne q hq).symm) (both_made (fun p hp => ⟨(hg p hp).1, fun q hq => (hg p hp).2 q (.tail _ hq)⟩) fun p hp => ⟨(hg' p hp).1, fun q hq => (hg' p hp).2 q ((List.mem_append.mp hq).elim (List.mem_append_left _) fun hq => List.mem_append_right _ (.tail _ hq))⟩))
        (.dic1 nm (.head _) ok (H.mono fun p hp => .tail _ (List.mem_append_right _ hp)) (H'.mono fun p hp => .tail _ (List.mem_append_left _ hp)))⟩
theorem mk_list {s : Shared} {news : List (Addr × Obj)} {Q : Value → Shared → Prop} {elts : List PySem.Expr} {pos : Pos} {ds : List T} {c₁ c₂ : Str} {i₁ i₂ : Int} (F : Fr h₀ L s.heap m) (N : News h₀ L s.heap news) (hl : ds.length ≤ 100)
    (h1 : ∀ pos, Makes prog w A E h₀ L m (eval (.Name c₁ pos) env) (fun g v => DenD g v (.int i₁))) (h2 : ∀ pos, Makes prog w A E h₀ L m (eval (.Name c₂ pos) env) (fun g v => DenD g v (.int i₂)))
    (h3 : (∀ pos, Makes prog w A E h₀ L m (eval (.Name c₁ pos) env) (fun g v => DenD g v (.int i₁))) → (∀ pos, Makes prog w A E h₀ L m (eval (.Name c₂ pos) env) (fun g v => DenD g v (.int i₂))) → Makes prog w A E h₀ L m (spliced (backTo pos (starEach elts env))) (fun g vs => DenR g vs ds))
    (hQ : ∀ l vs g h' tk, Fr h₀ L h' m → News h₀ L h' ((l, listOf vs.toArray 0) :: (g ++ news)) → offMill (listOf vs.toArray 0) = true → (∀ p ∈ g, offMill p.2 = true) → DenR g vs ds → Q (.ref l) { s with heap := h', toks := tk })
    (ho : ∀ g vs, DenR g vs ds → offMill (listOf vs.toArray 0) = true) : wpAny (model prog w) A (eval (.List elts pos) env) Q E s :=
  List_ (h3 h1 h2 s news _ F N fun vs g h' tk F' N' hg H => newList_K F' N' (fun l h'' F'' N'' _ => hQ l vs g h'' tk F'' N'' (ho _ _ H) (fun p hp => (hg p hp).1) H) (by rw [H.length, sizeLine_eq]; omega))
end
theorem hold_post {M : Model} {A : Around} {α : Type} {t : Sem α} {Q : α → Shared → Prop} {E : Value → Shared → Prop} {s : Shared} (h : ∀ Q', Q = Q' → wpAny M A t Q' E s) : wpAny M A t Q E s := h Q rfl
theorem off_go (vs : List Value) (h : ∀ a x t, vs ≠ [.ref a, .int x t]) : (match (generalizing := false) vs with | [.ref _, .int _ _] => false | _ => true) = true := by
  split
  · exact absurd rfl (h _ _ _)
  · rfl
theorem off_l {vs : List Value} (h : ∀ a x t, vs ≠ [.ref a, .int x t]) : offMill (listOf vs.toArray 0) = true := off_go vs h
theorem off_long {g : List (Addr × Obj)} {vs : List Value} {d₁ d₂ d₃ : T} {ds : List T} (h : DenR g vs (d₁ :: d₂ :: d₃ :: ds)) : offMill (listOf vs.toArray 0) = true :=
  off_l fun _ _ _ e => by have h1 := h.length; rw [e] at h1; simp at h1
theorem off_l1 {g : List (Addr × Obj)} {vs : List Value} {d : D} (h : DenL g vs [d]) : offMill (listOf vs.toArray 0) = true :=
  off_l fun _ _ _ e => by have h1 := h.length; rw [e] at h1; simp at h1
theorem off_l2 {g : List (Addr × Obj)} {vs : List Value} {x : Str} {d : D} (h : DenL g vs [.str x, d]) : offMill (listOf vs.toArray 0) = true :=
  off_l fun _ _ _ e => by rw [e] at h; cases h with | cons a _ => cases a
section
variable {prog : Program} {w : World} {A : Around} {E : Value → Shared → Prop} {env : Env} {h₀ : Heap} {L : Addr} {m : Str → Option Value}
theorem mk_lst1 {e : PySem.Expr} {pos : Pos} {d : D} (h1 : Makes prog w A E h₀ L m (spliced (backTo pos (starEach [e] env))) (fun g vs => DenL g vs [d])) : Makes prog w A E h₀ L m (eval (.List [e] pos) env) (fun g v => Den g v .lst) := mk_lst (by simp) (fun _ _ => off_l1) h1
theorem mk_lst2 {e₁ e₂ : PySem.Expr} {pos : Pos} {x : Str} {d : D} (h1 : Makes prog w A E h₀ L m (spliced (backTo pos (starEach [e₁, e₂] env))) (fun g vs => DenL g vs [.str x, d])) : Makes prog w A E h₀ L m (eval (.List [e₁, e₂] pos) env) (fun g v => Den g v .lst) := mk_lst (by simp) (fun _ _ => off_l2) h1
end
local macro_rules | `(tactic| walk_at "eval List") => `(tactic| (k_here; (with_reducible show wpAny _ _ (eval (PySem.Expr.List (PySem.Expr.Tuple _ _ _ :: PySem.Expr.Tuple _ _ _ :: PySem.Expr.Tuple _ _ _ :: _) _) _) _ _ _); refine' HoldS.go ?_; k_whole))
section
variable {ml sc : Addr} {i : Int} {t : Tok} {n : Nat}
variable {prog : Program} {w : World} {p : Program} {loose : List Str} {mean : ExcName → Option Value} {mg mb : Str → Option Value} 
   {dp un : Nat} {gd : Option (List Code)} {cn : Str} {cs : Scope} {a : Addr} {ccd : Value} {cl : List (Str × Addr)} {outer : List Env} {A₀ : Around} {base h₀ : Heap} {L : Addr} {m : Str → Option Value} {news : List (Addr × Obj)} {s : Shared} {Q E : Value → Shared → Prop}
theorem c_law_things (off : ∀ p ∈ news, p.1 ≠ ml)
    (B : Below A₀ base outer h₀) (F : Fr h₀ L s.heap m) (X : (hd.heap_39 w.params).In h₀) (N : News h₀ L s.heap ((ml, millO sc i t n) :: news)) (T : Top p loose mean mg mb h₀) (hk : cs.kind = .function) 
    (hdp : dp + 2 < recursionLimit) (hu : un + 100 < cLine)
    (hret : ∀ aT vs h' tk led, Fr h₀ L h' m → News h₀ L h' ((ml, millO sc i t n) :: (aT, listOf vs.toArray 0) :: led) → (∀ p ∈ (aT, listOf vs.toArray 0) :: led, p.1 ≠ ml) → (∀ p ∈ news, p ∈ led) → DenR led vs thingsL → Q (.ref aT) { s with heap := h', toks := tk }) :
    wpAny (model prog w) (ktrTop dp un gd cn cs L a ccd cl outer) (call (.ref 160) []) Q E s := by
  refine wpAny_call ?_
  k_dflt cell_enter
  k_steps
  refine HoldS.mk ?_
  with_reducible refine hold_post ?_
  intro Q' eQ
  with_reducible refine' mk_list (ds := thingsL) (c₁ := "CON") (c₂ := "INT") (i₁ := 4) (i₂ := 5) ?F ?N ?hl ?_ ?_ ?_ ?_ ?ho
  case F => k_asm
  case N => k_asm
  case hl => decide
  case ho => exact fun _ _ => off_long
  · intro pos s' led' Q' F₁ N₁ h₁
    k_steps
    exact h₁ _ [] s'.heap s'.toks (by assumption) (by assumption) (fun _ hp => nomatch hp) (.int _ _)
  · intro pos s' led' Q' F₁ N₁ h₁
    k_steps
    exact h₁ _ [] s'.heap s'.toks (by assumption) (by assumption) (fun _ hp => nomatch hp) (.int _ _)
  · intro hC hI
    unfold thingsL
    repeat' (with_reducible first
      | exact mk_nilR | exact mk_nil
      | refine' mk_consR (by with_unfolding_all rfl) ?_ ?_
      | refine' mk_cons (by with_unfolding_all rfl) ?_ ?_
      | exact hC _ | exact hI _
      | exact mk_int | exact mk_str | exact mk_bool | exact mk_none | (show Makes _ _ _ _ _ _ _ (eval (PySem.Expr.UnaryOp _ _ _) _) _; k_dflt (exact mk_neg))
      | exact mk_dic0 (Top.nolimit (by k_asm))
      | refine' mk_dic1 (Top.nolimit (by k_asm)) (by k_dflt ktr_units) (by k_dflt (show _ + 1 < cLine; ktr_units)) (by with_unfolding_all rfl) ?_ ?_
      | refine mk_el ?_
      | refine' mk_tup (by k_dflt decide) ?_
      | refine' mk_lst2 (x := "x") (d := .int 1) ?_
      | refine' mk_lst1 (d := .tup [.int 3, .int 1]) ?_)
  · intro l vs g h' tk F₁ N₁ ho hg hD
    subst eQ
    k_steps
    rename News h₀ _ _ _ => lN
    obtain ⟨lN2, lo⟩ := off_mill' (made := g) lN (by rw [List.all_cons, Bool.and_eq_true]; exact ⟨ho, List.all_eq_true.mpr hg⟩) off
    exact hret _ _ _ _ _ (by k_asm) lN2 lo (fun q hq => List.mem_append_right _ hq) (hD.mono fun q hq => List.mem_append_left _ hq)
end
theorem things_len : thingsL.length = 32 := rfl
theorem off_top31 : True := by w_top off; trivial
/-! a display of 17 rows whose values are lists of texts -/
inductive StrLits : List PySem.Expr → List Str → Prop
  | nil : StrLits [] []
  | cons {a : Str} {k : Nat} {p : Pos} {r : List PySem.Expr} {t : List Str} : StrLits r t → StrLits (.Constant (.str a) k p :: r) (a :: t)
theorem strsAre_len {vs xs} (h : StrsAre vs xs) : vs.length = xs.length := by
  induction h with
  | nil => rfl
  | cons _ _ _ ih => rw [List.length_cons, List.length_cons, ih]
noncomputable def GivesO (prog : Program) (w : World) (t : Sem Value) (xs : List Str) : Prop :=
  ∀ (A : Around) (E : Value → Shared → Prop) (Q : Value → Shared → Prop) (s : Shared), (∀ vs tk, StrsAre vs xs → Q (.ref s.heap.objs.size) { s with heap := s.heap.push (listOf vs.toArray 0), toks := tk }) → wpAny (model prog w) A t Q E s
inductive GivesM (prog : Program) (w : World) : List (Sem Value × Sem Value) → List (Str × List Str) → Prop
  | nil : GivesM prog w [] []
  | cons {k v : Sem Value} {r : List (Sem Value × Sem Value)} {a : Str} {b : List Str} {t : List (Str × List Str)} : GivesS prog w k a → GivesO prog w v b → GivesM prog w r t → GivesM prog w ((k, v) :: r) ((a, b) :: t)
theorem GivesM.length {prog : Program} {w : World} {l t} (h : GivesM prog w l t) : l.length = t.length := by
  induction h with
  | nil => rfl
  | cons _ _ _ ih => rw [List.length_cons, List.length_cons, ih]
inductive LstVals (led : List (Addr × Obj)) : List (Str × Value) → List (Str × List Str) → Prop
  | nil : LstVals led [] []
  | cons {k : Str} {a : Addr} {n : Nat} {vs : List Value} {xs : List Str} {kvs : List (Str × Value)} {t : List (Str × List Str)} : (a, listOf vs.toArray n) ∈ led → StrsAre vs xs → LstVals led kvs t → LstVals led ((k, .ref a) :: kvs) ((k, xs) :: t)
theorem LstVals.mono {led led' k t} (hs : ∀ p ∈ led, p ∈ led') (h : LstVals led k t) : LstVals led' k t := by
  induction h with
  | nil => exact .nil
  | cons a b _ ih => exact .cons (hs _ a) b ih
theorem LstVals.keys {led k t} (h : LstVals led k t) : k.map (·.1) = t.map (·.1) := by
  induction h with
  | nil => rfl
  | cons _ _ _ ih => rw [List.map_cons, List.map_cons, ih]
theorem LstVals.length {led k t} (h : LstVals led k t) : k.length = t.length := by rw [← List.length_map (as := k), h.keys, List.length_map]
theorem LstVals.at {led k t} (h : LstVals led k t) (x : Str) : (∃ a n vs xs, t.lookup x = some xs ∧ valueAt k x = some (.ref a) ∧ (a, listOf vs.toArray n) ∈ led ∧ StrsAre vs xs) ∨ (t.lookup x = none ∧ valueAt k x = none) := by
  induction h with
  | nil => exact .inr ⟨rfl, rfl⟩
  | @cons k a n vs xs kvs t hm hx _ ih =>
    by_cases e : x = k
    · subst e
      exact .inl ⟨a, n, vs, xs, by simp [List.lookup], by simp [valueAt], hm, hx⟩
    · have e1 : (x == k) = false := beq_eq_false_iff_ne.mpr e
      have e2 : ¬ k = x := fun z => e z.symm
      simpa [List.lookup, e1, valueAt, e2] using ih
section
variable {prog : Program} {w : World} {A : Around} {E : Value → Shared → Prop} {s : Shared}
theorem splicedStrs {env : Env} {pos : Pos} (elts : List PySem.Expr) (xs : List Str) (s : Shared) (Q : List Value → Shared → Prop) (h : StrLits elts xs) (hQ : ∀ vs tk, StrsAre vs xs → Q vs { s with toks := tk }) : wpAny (model prog w) A (spliced (backTo pos (starEach elts env))) Q E s := by
  induction h generalizing s Q with
  | nil => exact spliced_none (hQ [] s.toks .nil)
  | cons _ ih => exact spliced_more (wpAny_Constant_str (ih _ _ fun vs tk hv => hQ _ tk (.cons _ _ hv)))
theorem gives_list {env : Env} {elts : List PySem.Expr} {pos : Pos} {xs : List Str} (h : StrLits elts xs) (hl : xs.length ≤ 100) : GivesO prog w (eval (.List elts pos) env) xs := fun A E Q s hQ =>
  List_ (splicedStrs elts xs s _ h fun vs tk hv => wpAny_newObj_type (hQ vs tk hv) (by show vs.toArray.size ≤ sizeLine; rw [List.size_toArray, strsAre_len hv, sizeLine_eq]; omega))
theorem gives_standO {t : Sem Value} {xs : List Str} {pos : Pos} (g : GivesO prog w t xs) : GivesO prog w (do let x ← t; standAt pos; pure x) xs := fun A E Q s h =>
  wpAny_bind (g A E _ s fun vs tk hv => wpAny_bind (wpAny_standAt (wpAny_pure (h vs tk hv))))
inductive LitTblO : List (Option PySem.Expr) → List PySem.Expr → List (Str × List Str) → Prop
  | nil : LitTblO [] [] []
  | cons {a : Str} {k : Nat} {p lp : Pos} {elts : List PySem.Expr} {xs : List Str} {ks : List (Option PySem.Expr)} {vs : List PySem.Expr} {t : List (Str × List Str)} : StrLits elts xs → xs.length ≤ 100 → LitTblO ks vs t → LitTblO (some (.Constant (.str a) k p) :: ks) (.List elts lp :: vs) ((a, xs) :: t)
theorem givesM_lits {env : Env} {pos : Pos} (ks : List (Option PySem.Expr)) (vs : List PySem.Expr) (t : List (Str × List Str)) (h : LitTblO ks vs t) : GivesM prog w (pairTrees ks vs env pos) t := by
  induction h with
  | nil => exact .nil
  | cons hx hl _ ih => exact .cons gives_const (gives_standO (gives_list hx hl)) ih
theorem put_lists {d : Addr} {Q : PUnit → Shared → Prop} (pairs : List (Sem Value × Sem Value)) (tbl : List (Str × List Str)) (acc : List (Str × Value)) (s : Shared) (g : GivesM prog w pairs tbl) : s.heap.DictOf (PySem.strKind prog w) d acc →
    (acc.map (·.1) ++ tbl.map (·.1)).Nodup → acc.length + tbl.length ≤ sizeLine →
    (∀ h' tk kvs led, LstVals led kvs tbl → (∀ p ∈ led, h'.get? p.1 = some p.2 ∧ s.heap.objs.size ≤ p.1) → h'.DictOf (PySem.strKind prog w) d (acc ++ kvs) → (∀ b o, b ≠ d → s.heap.get? b = some o → h'.get? b = some o) → Q PUnit.unit { s with heap := h', toks := tk }) →
    wpAny (model prog w) A (forIn pairs PUnit.unit fun (x : Sem Value × Sem Value) (_ : PUnit) => (do
      let kv ← x.1
      let vv ← holding [kv] x.2
      holding [kv, vv] (dictSet d kv vv)
      pure (ForInStep.yield PUnit.unit) : Sem (ForInStep PUnit))) Q E s := by
  induction g generalizing acc s with
  | nil =>
    intro hm _ _ hQ
    rw [List.forIn_nil]
    exact wpAny_pure (by simpa using hQ s.heap s.toks [] [] .nil (fun _ h => nomatch h) (by simpa using hm) (fun _ _ _ e => e))
  | @cons k v r a b t gk gv gr ih =>
    intro hm hn hsz hQ
    rw [List.length_cons] at hsz
    rw [List.forIn_cons]
    have hlt : d < s.heap.objs.size := dictOf_lt hm
    refine wpAny_bind (wpAny_bind (gk _ _ _ _ fun tok tk => wpAny_bind (wpAny_holding (gv _ _ _ _ fun vs tk' hv => wpAny_bind (wpAny_holding (wpAny_dictSet_pairs (k := a) (hsz := by omega) (by simp [PySem.strKind, Value.isStrOf]) (dictOf_keeps hm fun b o e => Heap.get?_push_of_some _ e) fun h₁ hm₁ hs₁ => wpAny_pure ?_))))))
    dsimp only at hm₁ hs₁
    have hnew : a ∉ acc.map (·.1) := fun h => by
      rw [List.nodup_append] at hn
      exact hn.2.2 a h a (by simp) rfl
    have hst : stored acc a (.ref s.heap.objs.size) = acc ++ [(a, .ref s.heap.objs.size)] := by
      rw [stored, if_neg]
      intro h
      obtain ⟨kv, hkv, he⟩ := List.any_eq_true.mp h
      exact hnew (List.mem_map.mpr ⟨kv, hkv, of_decide_eq_true he⟩)
    rw [hst] at hm₁
    have hsz₁ : h₁.objs.size = s.heap.objs.size + 1 := by rw [hs₁.1]; simp [Heap.push]
    have hself : h₁.get? s.heap.objs.size = some (listOf vs.toArray 0) := (hs₁.2 _ (Nat.ne_of_gt hlt)).trans (Heap.get?_push_size _ rfl)
    refine ih (acc ++ [(a, .ref s.heap.objs.size)]) _ hm₁ (by simpa using hn) (by simp; omega) fun h' tk'' kvs led hkv hl hm' hs' => ?_
    dsimp only at hl hs'
    refine hQ h' tk'' _ ((s.heap.objs.size, listOf vs.toArray 0) :: led) (.cons (.head _) hv (hkv.mono fun _ h => .tail _ h)) (fun p hp => ?_) (by simpa using hm') fun b o hb e => hs' b o hb ((hs₁.2 b hb).trans (Heap.get?_push_of_some _ e))
    rcases List.mem_cons.mp hp with rfl | hp
    · exact ⟨hs' _ _ (Nat.ne_of_gt hlt) hself, Nat.le_refl _⟩
    · obtain ⟨h1, h2⟩ := hl p hp
      exact ⟨h1, by omega⟩
theorem sub_lists {pairs : List (Sem Value × Sem Value)} {tbl : List (Str × List Str)} {Q : Addr → Shared → Prop} (hlen : ¬ pairs.length ≤ 15) (hg : GivesM prog w pairs tbl) (hn : (tbl.map (·.1)).Nodup) (hsz : tbl.length ≤ sizeLine)
    (hQ : ∀ h' tk kvs led, LstVals led kvs tbl → (∀ p ∈ led, h'.get? p.1 = some p.2 ∧ s.heap.objs.size < p.1) → h'.DictOf (PySem.strKind prog w) s.heap.objs.size kvs → (∀ b o, s.heap.get? b = some o → h'.get? b = some o) → Q s.heap.objs.size { s with heap := h', toks := tk }) :
    wpAny (model prog w) A (subDict pairs) Q E s := by
  unfold subDict
  refine wpAny_bind (wpAny_alloc ?_)
  refine wpAny_bind (wpAny_holding ?_)
  rw [if_neg hlen]
  refine wpAny_bind (wpAny_rule ?_)
  refine wpAny_bind (put_lists pairs tbl [] _ hg (Heap.DictOf.new _) (by simpa using hn) (by simpa using hsz) fun h' tk kvs led hk hl hm hs => wpAny_pure (wpAny_pure (hQ h' tk kvs led hk (fun p hp => ?_) (by simpa using hm) fun b o e => hs b o (Nat.ne_of_lt (Heap.lt_size e)) (Heap.get?_push_of_some _ e))))
  obtain ⟨h1, h2⟩ := hl p hp
  refine ⟨h1, ?_⟩
  have : (s.heap.push { cls := .type "dict", data := .dict #[] }).objs.size = s.heap.objs.size + 1 := by simp [Heap.push]
  dsimp only at h2
  omega
theorem display17 {a : List (Sem Value × Sem Value)} {p : Sem Value × Sem Value} {ta : List (Str × List Str)} {Q : Value → Shared → Prop} (ha : a.length = 16)
    (ga : GivesM prog w (a ++ [p]) ta) (hn : (ta.map (·.1)).Nodup) (hsz : ta.length ≤ sizeLine)
    (hQ : ∀ h' tk kvs led, LstVals led kvs ta → (∀ p ∈ led, h'.get? p.1 = some p.2 ∧ s.heap.objs.size < p.1) → h'.DictOf (PySem.strKind prog w) s.heap.objs.size kvs → (∀ b o, s.heap.get? b = some o → h'.get? b = some o) → Q (.ref s.heap.objs.size) { s with heap := h', toks := tk }) :
    wpAny (model prog w) A (dictDisplay ((a ++ [p]).map someP)) Q E s := by
  unfold dictDisplay
  dsimp only
  have el : (a ++ [p]).map someP = a.map someP ++ (someP p :: []) := by simp
  rw [el]
  have hf : ∀ (x : Sem Value × Sem Value) (run : List (Sem Value × Sem Value)), run.length + 1 < 17 → ((run ++ [(x.1, x.2)]).length == 17) = false := fun x run h => by simp; omega
  have hg : ∀ (x : Sem Value × Sem Value) (run : List (Sem Value × Sem Value)), run.length = 16 → ((run ++ [(x.1, x.2)]).length == 17) = true := fun x run h => by simp [h]
  rw [gatherM _ (fun x run main h => by simp only [hf x run h, Bool.false_eq_true, if_false]) _ none a [] (by simp [ha]), List.nil_append, List.forIn_cons]
  simp only [someP, hg p a ha, if_true]
  have e1 : ∀ (l : List (Sem Value × Sem Value)) x, (l ++ [x]).isEmpty = false := fun l x => by simp
  refine wpAny_bind (wpAny_bind (wpAny_bind ?_))
  rw [if_neg (by rw [e1]; exact Bool.false_ne_true)]
  refine wpAny_bind (sub_lists (by simp [ha]) ga hn hsz fun h₁ tk₁ k₁ l₁ v₁ f₁ d₁ s₁ => wpAny_pure (wpAny_pure ?_))
  dsimp only
  rw [List.forIn_nil]
  refine wpAny_pure ?_
  dsimp only
  refine wpAny_bind ?_
  rw [if_pos (by rfl)]
  exact wpAny_pure (wpAny_pure (hQ _ _ _ _ v₁ f₁ d₁ s₁))
theorem dict17K {env : Env} {keys : List (Option PySem.Expr)} {values : List PySem.Expr} {pos : Pos} {tbl : List (Str × List Str)} {Q : Value → Shared → Prop} {h₀ : Heap} {L : Addr} {m : Str → Option Value} {news : List (Addr × Obj)} (F : Fr h₀ L s.heap m) (N : News h₀ L s.heap news) (hbig : h₀.NoLimit)
    (ht : LitTblO keys values tbl) (hall : keys.all (·.isSome) = true) (hl : keys.length = values.length) (h1 : keys.length = 17) (hn : (tbl.map (·.1)).Nodup)
    (hQ : ∀ d o kvs led h' tk, Fr h₀ L h' m → News h₀ L h' ((d, o) :: (led ++ news)) → (d == sysModules) = false → o.IsDictOf (PySem.strKind prog w) kvs → LstVals led kvs tbl → (∀ q ∈ news, ∀ p ∈ (d, o) :: led, p.1 ≠ q.1) → Q (.ref d) { s with heap := h', toks := tk }) :
    wpAny (model prog w) A (eval (.Dict keys values pos) env) Q E s := by
  have g := givesM_lits (prog := prog) (w := w) (env := env) (pos := pos) keys values tbl ht
  have hp := pairTrees_length keys values env pos hall hl
  have hg := g.length
  rw [arm_eval_Dict, zip_pairTrees keys values env pos hall hl]
  refine wpAny_bind (wpAny_standAt ?_)
  obtain ⟨a, p, r, e1, la, ea, er⟩ := split17 (pairTrees keys values env pos) (by omega)
  have hr : r = [] := by rw [er]; exact List.drop_eq_nil_of_le (by omega)
  subst hr
  rw [e1]
  refine display17 la (by rw [← e1]; exact g) hn (by rw [sizeLine_eq]; omega) fun h' tk kvs led hv hl hd hk => ?_
  obtain ⟨o, ho, hd⟩ := Heap.dictOf_iff.mp hd
  have hL : L < s.heap.objs.size := F.ns.lt
  refine hQ _ o kvs led h' tk (F.keeps hk) (fun q hq => ?_) (F.notModules (modules_low hbig)) hd hv fun q hq p hp => ?_
  · rcases List.mem_cons.mp hq with rfl | hq
    · exact ⟨ho, Nat.ne_of_gt hL, none_at_size F⟩
    rcases List.mem_append.mp hq with hq | hq
    · obtain ⟨h1, h2⟩ := hl q hq
      refine ⟨h1, Nat.ne_of_gt (Nat.lt_trans hL h2), ?_⟩
      cases z : h₀.get? q.1 with
      | none => rfl
      | some o' => exact absurd (Heap.lt_size (F.keep _ _ z)) (Nat.not_lt.mpr (Nat.le_of_lt h2))
    · exact ⟨hk _ _ (N q hq).1, (N q hq).2⟩
  · have hq' : q.1 < s.heap.objs.size := Heap.lt_size (N q hq).1
    rcases List.mem_cons.mp hp with rfl | hp
    · exact Nat.ne_of_gt hq'
    · exact Nat.ne_of_gt (Nat.lt_trans hq' (hl p hp).2)
end
theorem forms_nodup : (formsT.map (·.1)).Nodup := by decide +kernel
local macro_rules | `(tactic| walk_at "eval Dict") => `(tactic| (k_here; k_dflt (refine' dict17K (tbl := formsT) ?F ?N ?b ?t ?a ?l ?g1 ?n ?_; (case F | N => k_asm); (case b => exact Top.nolimit (by k_asm)); (case t => with_unfolding_all (repeat' (first | exact .nil | refine .cons ?_ ?_ ?_ | refine .cons ?_ | exact Nat.le_of_ble_eq_true rfl))); (case a | l => rfl); (case g1 => decide); (case n => exact forms_nodup); k_whole); intro _ _ _ _ _ _ _ _ _ _ _ _))
theorem off_top32 : True := by w_top off; trivial
/-! cuts of tuples and lists, their sums -/
section
variable {prog : Program} {w : World} {A : Around} {E : Value → Shared → Prop} {s : Shared}
theorem part_any {v : Value} {k : Option Int} {Q : Option Int → Shared → Prop} (p : IsPart v k) (h : Q k s) : wpAny (model prog w) A (Builtin.Slice.slicePartIndex v) Q E s := by
  cases p with
  | none => exact slicePart_none h
  | int i t => exact slicePart_int h
theorem applied_any {sl : Addr} {vl vu : Value} {lo hi : Option Int} {n : Nat} {Q : Int × Int × Nat → Shared → Prop} (hs : s.heap.IsSliceOf sl vl vu .none) (pl : IsPart vl lo) (pu : IsPart vu hi)
    (h : Q ((Builtin.Slice.sliceAdjust lo hi 1 n).1, 1, Builtin.Slice.slicePlaces (Builtin.Slice.sliceAdjust lo hi 1 n).1 (Builtin.Slice.sliceAdjust lo hi 1 n).2 1) s) :
    wpAny (model prog w) A (Builtin.Slice.sliceApplied (.ref sl) (pure (n : Int))) Q E s := by
  obtain ⟨o, ho, hc, hd⟩ := id hs
  unfold Builtin.Slice.sliceApplied Builtin.Slice.sliceFields
  refine wpAny_bind (wpAny_bind (wpAny_field ho hd (x := vl) rfl (wpAny_bind (wpAny_field ho hd (x := vu) rfl (wpAny_bind (wpAny_field ho hd (x := .none) rfl (wpAny_pure ?_)))))))
  refine wpAny_bind (slicePart_none ?_)
  show wpAny _ _ (if ((1 : Int) == 0) = true then _ else _) _ _ s
  rw [if_neg (by decide)]
  exact wpAny_bind (part_any pl (wpAny_bind (part_any pu (wpAny_bind (wpAny_pure (wpAny_pure h))))))
theorem pick_any (xs : Array Value) (a c : Nat) : ((List.range c).filterMap fun (k : Nat) => xs[((a : Int) + (k : Int) * 1).toNat]?).toArray = ((xs.toList.drop a).take c).toArray := by
  have e : (fun (k : Nat) => xs[((a : Int) + (k : Int) * 1).toNat]?) = (fun x => xs[x]?) ∘ fun x => a + x := by
    funext k
    have : ((a : Int) + (k : Int) * 1).toNat = a + k := by omega
    show xs[((a : Int) + (k : Int) * 1).toNat]? = xs[a + k]?
    rw [this]
  rw [e, ← List.filterMap_map, pick_run]
theorem getItem_cut {t sl : Addr} {items : Array Value} {vl vu : Value} {lo hi : Option Int} {a c : Nat} {Q : Value → Shared → Prop} (ht : IsTup s.heap t items) (hs : s.heap.IsSliceOf sl vl vu .none) (pl : IsPart vl lo) (pu : IsPart vu hi)
    (e1 : (Builtin.Slice.sliceAdjust lo hi 1 items.size).1 = (a : Int)) (e2 : Builtin.Slice.slicePlaces (Builtin.Slice.sliceAdjust lo hi 1 items.size).1 (Builtin.Slice.sliceAdjust lo hi 1 items.size).2 1 = c) (hw : c < items.size)
    (h : Q (.ref s.heap.objs.size) { s with heap := s.heap.push { cls := .type "tuple", data := .seq ((items.toList.drop a).take c).toArray } })
    (hz : items.size ≤ 1000) : wpAny (model prog w) A (getItem (.ref t) (.ref sl)) Q E s := by
  have hok : sizeOk (.seq ((items.toList.drop a).take c).toArray) := by
    show ((items.toList.drop a).take c).toArray.size ≤ sizeLine
    rw [List.size_toArray, List.length_take, sizeLine_eq]
    omega
  obtain ⟨os, hos, hcs, hds⟩ := id hs
  have hTs : s.TypeIs (.ref sl) "slice" := ⟨os, hos, hcs⟩
  unfold getItem
  try with_reducible refine wpAny_holding ?_
  first | refine wpAny_bind (wpAny_pure ?_) | skip
  refine wpAny_bind (wpAny_sequenceKey ht.typeIs (by decide) ?_)
  refine wpAny_bind (wpAny_callSpecial?_slot (name := Str.ofString "__getitem__") ht.typeIs slot_tuple_getitem (wpAny_call_entry slot_tuple_getitem ht.typeIs entry_tuple_getitem ?_ (args_tuple_getitem _ _)))
  show wpAny _ _ (Builtin.Tuple.tupleItemsOf (.ref t) >>= _) _ _ s
  refine wpAny_bind (tupleItemsOf_ ht ?_)
  refine wpAny_bind (wpAny_typeOf hTs ?_)
  rw [if_pos (by decide)]
  refine wpAny_bind (applied_any hs pl pu ?_)
  rw [e1] at e2 ⊢
  rw [e2]
  have hno : ¬ (((a : Int) == 0 && (1 : Int) == 1 && c == items.size) = true) := by
    have : (c == items.size) = false := by rw [beq_eq_false_iff_ne]; omega
    rw [this]; simp
  show wpAny _ _ (if ((a : Int) == 0 && (1 : Int) == 1 && c == items.size) = true then _ else _) _ _ s
  rw [if_neg hno, pick_any]
  first
    | exact wpAny_bind (m := Builtin.Tuple.tupleExact _) (wpAny_newObj_type (wpAny_pure ⟨_, rfl, wpAny_pure h⟩) hok)
    | exact wpAny_bind (m := Builtin.Tuple.tupleExact _) (wpAny_newObj_type (wpAny_bind (wpAny_pure (wpAny_pure ⟨_, rfl, wpAny_pure h⟩))) hok)
    | exact wpAny_bind (wpAny_bind (m := Builtin.Tuple.tupleExact _) (wpAny_newObj_type (wpAny_pure (wpAny_pure ⟨_, rfl, wpAny_pure h⟩)) hok))
    | exact wpAny_bind (wpAny_bind (m := Builtin.Tuple.tupleExact _) (wpAny_newObj_type (wpAny_pure ⟨_, rfl, wpAny_pure h⟩) hok))
end
section
variable {prog : Program} {w : World} {A : Around} {E : Value → Shared → Prop} {s : Shared} {h₀ : Heap} {L : Addr} {m : Str → Option Value} {news : List (Addr × Obj)}
theorem tup_cut {value slice : PySem.Expr} {t : Addr} {vs : List Value} {n : Nat} {vl vu : Value} {lo hi : Option Int} {a c : Nat} {Q : Value → Shared → Prop}
    (F : Fr h₀ L s.heap m) (N : News h₀ L s.heap news) (hm : (t, tupO vs n) ∈ news) (hz : vs.length ≤ 1000) (pl : IsPart vl lo) (pu : IsPart vu hi)
    (e1 : (Builtin.Slice.sliceAdjust lo hi 1 vs.length).1 = (a : Int)) (e2 : Builtin.Slice.slicePlaces (Builtin.Slice.sliceAdjust lo hi 1 vs.length).1 (Builtin.Slice.sliceAdjust lo hi 1 vs.length).2 1 = c) (hw : c < vs.length)
    (h : ∀ D h', Fr h₀ L h' m → News h₀ L h' ((D, tupO ((vs.drop a).take c) 0) :: news) → Q (.ref D) { s with heap := h' })
    (hs : subscripted slice false (.ref t) (.ref s.heap.objs.size) = operate [.ref s.heap.objs.size, .ref t] (getItem (.ref t) (.ref s.heap.objs.size)))
    (hg : ∀ r, letTemporaryGo value (.ref t) r = pure ()) :
    wpAny (model prog w) A (subscriptTail value slice (.ref t) (.ref s.heap.objs.size)) Q E { s with heap := s.heap.push { cls := .type "slice", data := .fields #[vl, vu, .none] } } := by
  have ht := isTuple N hm
  have ht' : IsTup (s.heap.push { cls := .type "slice", data := .fields #[vl, vu, .none] }) t vs.toArray := IsTup.keeps (News.isTup N hm) fun _ _ e => Heap.get?_push_of_some _ e
  refine subscriptTail_ops (s := { s with heap := s.heap.push { cls := .type "slice", data := .fields #[vl, vu, .none] } }) ht'.typeIs slot_tuple_getitem.lookup
    (getItem_cut (a := a) (c := c) ht' (Heap.IsSliceOf.new ..) pl pu (by simpa using e1) (by simpa using e2) (by simpa using hw) ?_ (by simpa using hz)) hs hg
  have N1 := News.push (F.push { cls := .type "slice", data := .fields #[vl, vu, .none] }) (N.grown fun _ _ e => Heap.get?_push_of_some _ e) { cls := .type "tuple", data := .seq ((vs.drop a).take c).toArray }
  exact h _ _ ((F.push _).push _) N1
theorem adj_upto {i n : Nat} (h : i + 1 ≤ n) : Builtin.Slice.sliceAdjust none (some ((i : Int) + 1)) 1 (n : Int) = (((0 : Nat) : Int), ((i + 1 : Nat) : Int)) := by
  unfold Builtin.Slice.sliceAdjust
  have h1 : ¬ ((1 : Int) < 0) := by omega
  have h2 : ¬ ((i : Int) + 1 < 0) := by omega
  simp only [h1, h2, if_false]
  congr 1
  omega
theorem adj_from {i n : Nat} (h : i + 2 ≤ n) : Builtin.Slice.sliceAdjust (some ((i : Int) + 2)) none 1 (n : Int) = (((i + 2 : Nat) : Int), (n : Int)) := by
  unfold Builtin.Slice.sliceAdjust
  have h1 : ¬ ((1 : Int) < 0) := by omega
  have h2 : ¬ ((i : Int) + 2 < 0) := by omega
  simp only [h1, h2, if_false]
  congr 1
  omega
theorem adj_last {n : Nat} (h : 1 ≤ n) : Builtin.Slice.sliceAdjust none (some (-1)) 1 (n : Int) = (((0 : Nat) : Int), ((n - 1 : Nat) : Int)) := by
  unfold Builtin.Slice.sliceAdjust
  have h1 : ¬ ((1 : Int) < 0) := by omega
  have h2 : ((-1 : Int) < 0) := by omega
  simp only [h1, h2, if_false, if_true]
  congr 1
  omega
theorem places_nat (a b : Nat) : Builtin.Slice.slicePlaces (a : Int) (b : Int) 1 = b - a := by
  unfold Builtin.Slice.slicePlaces
  have h1 : (1 : Int) > 0 := by omega
  simp only [h1, if_true, Int.ediv_one]
  split <;> omega
variable {value slice : PySem.Expr} {t : Addr} {vs : List Value} {n : Nat} {Q : Value → Shared → Prop} {u : Tok}
theorem cut_upto {i : Nat} (F : Fr h₀ L s.heap m) (N : News h₀ L s.heap news) (hm : (t, tupO vs n) ∈ news) (hz : vs.length ≤ 1000) (hi : i + 1 < vs.length)
    (h : ∀ D h', Fr h₀ L h' m → News h₀ L h' ((D, tupO (vs.take (i + 1)) 0) :: news) → Q (.ref D) { s with heap := h' })
    (hs : subscripted slice false (.ref t) (.ref s.heap.objs.size) = operate [.ref s.heap.objs.size, .ref t] (getItem (.ref t) (.ref s.heap.objs.size))) (hg : ∀ r, letTemporaryGo value (.ref t) r = pure ()) :
    wpAny (model prog w) A (subscriptTail value slice (.ref t) (.ref s.heap.objs.size)) Q E { s with heap := s.heap.push { cls := .type "slice", data := .fields #[.none, .int ((i : Int) + 1) u, .none] } } := by
  have e := adj_upto (i := i) (n := vs.length) (by omega)
  refine tup_cut (a := 0) (c := i + 1) F N hm hz .none (.int _ _) (by rw [e]) (by rw [e]; exact places_nat 0 (i + 1)) hi (fun D h' F' N' => h D h' F' ?_) hs hg
  rw [List.drop_zero] at N'
  exact N'
theorem cut_from {i : Nat} (F : Fr h₀ L s.heap m) (N : News h₀ L s.heap news) (hm : (t, tupO vs n) ∈ news) (hz : vs.length ≤ 1000) (hi : i + 2 ≤ vs.length)
    (h : ∀ D h', Fr h₀ L h' m → News h₀ L h' ((D, tupO (vs.drop (i + 2)) 0) :: news) → Q (.ref D) { s with heap := h' })
    (hs : subscripted slice false (.ref t) (.ref s.heap.objs.size) = operate [.ref s.heap.objs.size, .ref t] (getItem (.ref t) (.ref s.heap.objs.size))) (hg : ∀ r, letTemporaryGo value (.ref t) r = pure ()) :
    wpAny (model prog w) A (subscriptTail value slice (.ref t) (.ref s.heap.objs.size)) Q E { s with heap := s.heap.push { cls := .type "slice", data := .fields #[.int ((i : Int) + 2) u, .none, .none] } } := by
  have e := adj_from (i := i) (n := vs.length) (by omega)
  refine tup_cut (a := i + 2) (c := vs.length - (i + 2)) F N hm hz (.int _ _) .none (by rw [e]) (by rw [e]; exact places_nat (i + 2) vs.length) (by omega) (fun D h' F' N' => h D h' F' ?_) hs hg
  rw [List.take_of_length_le (by rw [List.length_drop]; exact Nat.le_refl _)] at N'
  exact N'
theorem cut_last (F : Fr h₀ L s.heap m) (N : News h₀ L s.heap news) (hm : (t, tupO vs n) ∈ news) (hz : vs.length ≤ 1000) (hi : 1 ≤ vs.length)
    (h : ∀ D h', Fr h₀ L h' m → News h₀ L h' ((D, tupO (vs.take (vs.length - 1)) 0) :: news) → Q (.ref D) { s with heap := h' })
    (hs : subscripted slice false (.ref t) (.ref s.heap.objs.size) = operate [.ref s.heap.objs.size, .ref t] (getItem (.ref t) (.ref s.heap.objs.size))) (hg : ∀ r, letTemporaryGo value (.ref t) r = pure ()) :
    wpAny (model prog w) A (subscriptTail value slice (.ref t) (.ref s.heap.objs.size)) Q E { s with heap := s.heap.push { cls := .type "slice", data := .fields #[.none, .int (-1) u, .none] } } := by
  have e := adj_last (n := vs.length) (by omega)
  refine tup_cut (a := 0) (c := vs.length - 1) F N hm hz .none (.int _ _) (by rw [e]) (by rw [e]; exact places_nat 0 (vs.length - 1)) (by omega) (fun D h' F' N' => h D h' F' ?_) hs hg
  rw [List.drop_zero] at N'
  exact N'
theorem list_cut {vl vu : Value} {lo hi : Option Int} (F : Fr h₀ L s.heap m) (N : News h₀ L s.heap news) (hm : (t, listOf vs.toArray n) ∈ news) (hz : vs.length ≤ 1000) (pl : IsPart vl lo) (pu : IsPart vu hi)
    (h : ∀ D h' zs, (∀ v ∈ zs, v ∈ vs) → HoldS (zs.length ≤ 1000) → Fr h₀ L h' m → News h₀ L h' ((D, listOf (List.toArray zs) 0) :: news) → Q (.ref D) { s with heap := h' })
    (hs : subscripted slice false (.ref t) (.ref s.heap.objs.size) = operate [.ref s.heap.objs.size, .ref t] (getItem (.ref t) (.ref s.heap.objs.size))) (hg : ∀ r, letTemporaryGo value (.ref t) r = pure ()) :
    wpAny (model prog w) A (subscriptTail value slice (.ref t) (.ref s.heap.objs.size)) Q E { s with heap := s.heap.push { cls := .type "slice", data := .fields #[vl, vu, .none] } } := by
  refine kmk_slice F N (isListN N hm) pl pu (fun D h' F' N' _ => h D h' (kms_pick vs lo hi) (fun v hv => ?_) ?_ F' ?_) hs hg (by rw [List.size_toArray, sizeLine_eq]; omega)
  · exact List.mem_of_mem_drop (List.mem_of_mem_take hv)
  · unfold kms_pick
    refine HoldS.mk ?_
    rw [List.length_take, List.length_drop]; omega
  · rw [kms_pick_eq] at N'
    exact N'
theorem list_cat {b : Addr} {ws : List Value} {k : Nat} (F : Fr h₀ L s.heap m) (N : News h₀ L s.heap news) (ha : (t, listOf vs.toArray n) ∈ news) (hb : (b, listOf ws.toArray k) ∈ news) (hz : vs.length ≤ 1000) (hz' : ws.length ≤ 1000)
    (h : ∀ D h', Fr h₀ L h' m → News h₀ L h' ((D, listOf (vs ++ ws).toArray 0) :: news) → Q (.ref D) { s with heap := h' }) : wpAny (model prog w) A (binaryOp .Add (.ref t) (.ref b)) Q E s := by
  refine kmk_add_lit F N (isListN N ha) (isListN N hb) (zs := vs ++ ws) rfl (fun D h' F' N' _ => h D h' F' N') ?_
  simp only [List.size_toArray]; rw [sizeLine_eq]; omega
theorem tup_cat {b : Addr} {ws : List Value} {k : Nat} (F : Fr h₀ L s.heap m) (N : News h₀ L s.heap news) (ha : (t, tupO vs n) ∈ news) (hb : (b, tupO ws k) ∈ news) (hz : vs.length ≤ 1000) (hz' : ws.length ≤ 1000) (hv : vs ≠ [])
    (h : ∀ D h' n' led, Fr h₀ L h' m → News h₀ L h' led → (∀ p ∈ news, p ∈ led) → (D, tupO (vs ++ ws) n') ∈ led → Q (.ref D) { s with heap := h' }) : wpAny (model prog w) A (binaryOp .Add (.ref t) (.ref b)) Q E s := by
  refine add_tuples F N (News.isTup N ha) (News.isTup N hb) (fun q => absurd q hv) (fun _ q => ?_) (fun _ _ h' F' N' => ?_) (by rw [sizeLine_eq]; omega)
  · subst q
    exact h _ _ n news F N (fun _ h => h) (by rw [List.append_nil]; exact ha)
  · exact h _ _ 0 _ F' N' (fun _ h => .tail _ h) (.head _)
end
local macro_rules | `(tactic| walk_at "subscriptTail Name Slice ref ref") => `(tactic| (k_here; (with_reducible show wpAny _ _ (subscriptTail _ (PySem.Expr.Slice none (some (PySem.Expr.UnaryOp _ _ _)) none _) (Value.ref _) (Value.ref _)) _ _ _); k_dflt (refine' cut_last ?F ?N ?m ?z ?i ?_ ?s ?g; (case F | N => k_asm); (case m => k_mem); (case z | i => exact HoldS.go (by with_reducible assumption)); (case s => with_unfolding_all rfl); (case g => kmk_pure); k_whole); intro _ _ _ _))
local macro_rules | `(tactic| walk_at "subscriptTail Name Slice ref ref") => `(tactic| (k_here; (with_reducible show wpAny _ _ (subscriptTail _ (PySem.Expr.Slice none (some (PySem.Expr.BinOp _ _ _ _)) none _) (Value.ref _) (Value.ref _)) _ _ _); k_dflt (refine' cut_upto ?F ?N ?m ?z ?i ?_ ?s ?g; (case F | N => k_asm); (case m => k_mem); (case z | i => exact HoldS.go (by with_reducible assumption)); (case s => with_unfolding_all rfl); (case g => kmk_pure); k_whole); intro _ _ _ _))
local macro_rules | `(tactic| walk_at "subscriptTail Name Slice ref ref") => `(tactic| (k_here; (with_reducible show wpAny _ _ (subscriptTail _ (PySem.Expr.Slice (some (PySem.Expr.BinOp _ _ _ _)) none none _) (Value.ref _) (Value.ref _)) _ _ _); k_dflt (refine' cut_from ?F ?N ?m ?z ?i ?_ ?s ?g; (case F | N => k_asm); (case m => k_mem); (case z | i => exact HoldS.go (by with_reducible assumption)); (case s => with_unfolding_all rfl); (case g => kmk_pure); k_whole); intro _ _ _ _))
local macro_rules | `(tactic| walk_at "subscriptTail Name Slice ref ref") => `(tactic| (k_here; (with_reducible show wpAny _ _ (subscriptTail _ (PySem.Expr.Slice (some _) (some _) none _) (Value.ref _) (Value.ref _)) _ _ _); k_dflt (refine' list_cut ?F ?N ?m ?z ?p ?q ?_ ?s ?g; (case F | N => k_asm); (case m => k_mem); (case z => exact HoldS.go (by with_reducible assumption)); (case p | q => exact IsPart.int _ _); (case s => with_unfolding_all rfl); (case g => kmk_pure); k_whole); intro _ _ _ _ _ _ _))
theorem off_top33 : True := by w_top off; trivial
/-! the plain law: what is told is what is due -/
theorem things_agree : (thingsL.all fun d => letters.all fun c => [true, false].all fun l => isOp c l d == fits c l d) = true := by decide +kernel
theorem thing_agree {d : T} (hd : d ∈ thingsL) {c : Str} (hc : c ∈ letters) (l : Bool) : isOp c l d = fits c l d := by
  have h1 := List.all_eq_true.mp things_agree d hd
  have h2 := List.all_eq_true.mp h1 c hc
  have h3 := List.all_eq_true.mp h2 l (by cases l <;> simp)
  exact eq_of_beq h3
noncomputable def Agree (ks : Str) (l : Bool) (ds : List T) : Prop := ∀ (i c : Nat) (d : T), ks.cps[i]? = some c → ds[i]? = some d → isOp ⟨#[c]⟩ l d = fits ⟨#[c]⟩ l d
theorem Agree.ok {ks : Str} {l : Bool} {ds : List T} (h : Agree ks l ds) (i : Nat) : okAt (fun k d => isOp k l d) ks ds i = okAt (fun k d => fits k l d) ks ds i := by
  unfold okAt
  split
  · rename_i c d hc hd
    exact h i c d hc hd
  · rfl
theorem Agree.says {ks nm : Str} {l : Bool} {ds : List T} (h : Agree ks l ds) : rowSays (fun k d => fits k l d) (some ks) nm ds = rowSays (fun k d => isOp k l d) (some ks) nm ds := by
  unfold rowSays
  dsimp only
  split
  · have e : (fun i => !okAt (fun k d => fits k l d) ks ds i) = fun i => !okAt (fun k d => isOp k l d) ks ds i := funext fun i => by rw [h.ok]
    rw [e]
  · rfl
theorem Agree.set {ks : Str} {l : Bool} {ds : List T} (h : Agree ks l ds) (hl : Lets ks) {j : Nat} {d : T} (hd : d ∈ thingsL) : Agree ks l (ds.set j d) := by
  intro i c e hc he
  rw [List.getElem?_set] at he
  split at he
  · split at he
    · cases he; exact thing_agree hd (hl i c hc) l
    · cases he
  · exact h i c e hc he
theorem says_len {q : Str → T → Bool} {ks nm : Str} {ds : List T} (h : ds.length ≠ ks.length) : rowSays q (some ks) nm ds = ("wrong number of operands: " : Str) ++ nm := by
  unfold rowSays
  dsimp only
  rw [if_neg h]
theorem DenR.set {news : List (Addr × Obj)} {vs ds} (h : DenR news vs ds) {v : Value} {d : T} (hd : Den news v d) : ∀ i : Nat, DenR news (vs.set i v) (ds.set i d) := by
  induction h with
  | nil => intro i; exact .nil
  | cons a r ih => intro i; cases i with
    | zero => exact .cons hd r
    | succ i => exact .cons a (ih i)
theorem DenR.append {news : List (Addr × Obj)} {vs ds us es} (h : DenR news vs ds) (h' : DenR news us es) : DenR news (vs ++ us) (ds ++ es) := by
  induction h with
  | nil => exact h'
  | cons a _ ih => exact .cons a ih
theorem DenR.take {news : List (Addr × Obj)} {vs ds} (h : DenR news vs ds) : ∀ i : Nat, DenR news (vs.take i) (ds.take i) := by
  induction h with
  | nil => intro i; cases i <;> exact .nil
  | cons a _ ih => intro i; cases i with
    | zero => exact .nil
    | succ i => exact .cons a (ih i)
theorem DenR.mem {news : List (Addr × Obj)} {vs ds} (h : DenR news vs ds) {v : Value} (hv : v ∈ vs) : ∃ d ∈ ds, Den news v d := by
  induction h with
  | nil => cases hv
  | cons a _ ih =>
    rcases List.mem_cons.mp hv with rfl | hv
    · exact ⟨_, .head _, a⟩
    · obtain ⟨d, hd, h⟩ := ih hv
      exact ⟨d, .tail _ hd, h⟩
theorem row_set {x v : Value} {ops : List Value} {i : Nat} (h : i < ops.length) : (x :: ops).take (i + 1) ++ [v] ++ (x :: ops).drop (i + 2) = x :: ops.set i v := by
  rw [List.take_succ_cons, List.drop_succ_cons, List.set_eq_take_append_cons_drop, if_pos h]
  simp
/-! loops on a moving ground -/
theorem map_keys {x : Str} {ks : List Str} {m m₀ : Str → Option Value} {v : Value} (h : ∀ y, y ≠ x → y ∉ ks → m y = m₀ y) :
    (fun y => if y = x then some v else m y) = fun y => if y = x then some v else ks.foldr (fun k r => if y = k then m k else r) (m₀ y) := by
  funext y
  by_cases hx : y = x
  · rw [if_pos hx, if_pos hx]
  · rw [if_neg hx, if_neg hx]
    have : ∀ ks : List Str, (y ∉ ks → m y = m₀ y) → m y = ks.foldr (fun k r => if y = k then m k else r) (m₀ y) := by
      intro ks
      induction ks with
      | nil => intro h; exact h (by simp)
      | cons k r ih =>
        intro h
        rw [List.foldr_cons]
        by_cases e : y = k
        · rw [if_pos e, e]
        · rw [if_neg e]
          exact ih fun hr => h (by simp [e, hr])
    exact this ks (h y hx)
theorem map_done {ks : List Str} {m m₀ : Str → Option Value} (h : ∀ y, y ∉ ks → m y = m₀ y) : m = fun y => ks.foldr (fun k r => if y = k then m k else r) (m₀ y) := by
  funext y
  have : ∀ ks : List Str, (y ∉ ks → m y = m₀ y) → m y = ks.foldr (fun k r => if y = k then m k else r) (m₀ y) := by
    intro ks
    induction ks with
    | nil => intro h; exact h (by simp)
    | cons k r ih =>
      intro h
      rw [List.foldr_cons]
      by_cases e : y = k
      · rw [if_pos e, e]
      · rw [if_neg e]
        exact ih fun hr => h (by simp [e, hr])
  exact this ks (h y)
noncomputable def TurnK (G : Heap → Prop) (L : Addr) (s₁ : Shared) (Q : Flow → Shared → Prop) (x : Str) (ks : List Str) (m₀ : Str → Option Value) (led : List (Addr × Obj)) (I : Addr) (oI : Obj) (f : Flow) (s' : Shared) : Prop :=
  match f with
  | .ret r => Q (.ret r) s'
  | .brk => False
  | _ => ∃ g m h tk, s' = { s₁ with heap := h, toks := tk } ∧ G g ∧ Fr g L h m ∧ News g L h ((I, oI) :: led) ∧ ∀ y, y ≠ x → y ∉ ks → m y = m₀ y
theorem TurnK.next {G : Heap → Prop} {L : Addr} {s₁ : Shared} {Q : Flow → Shared → Prop} {x : Str} {ks : List Str} {m₀ m : Str → Option Value} {led all : List (Addr × Obj)} {I : Addr} {oI : Obj} {g h : Heap} {tk : Nat}
    (gg : G g) (F : Fr g L h m) (N : News g L h all) (hs : ∀ p ∈ (I, oI) :: led, p ∈ all) (hm : ∀ y, y ≠ x → y ∉ ks → m y = m₀ y) : TurnK G L s₁ Q x ks m₀ led I oI .next { s₁ with heap := h, toks := tk } := ⟨g, m, h, tk, rfl, gg, F, fun p hp => N p (hs p hp), hm⟩
section
variable {prog : Program} {w : World} {A : Around} {E : Value → Shared → Prop} {s₁ : Shared} {env : Env} {x : Str} {body : List Stmt} {Q : Flow → Shared → Prop} {g₀ : Heap} {m₀ : Str → Option Value} {led : List (Addr × Obj)}
theorem loop_K {n : Nat} {P : Nat → Value → Prop} {src : List (Addr × Obj)} {xv : Value} (G : Heap → Prop) (ks : List Str) (g0 : G g₀) (F : Fr g₀ env.locals s₁.heap m₀) (N : News g₀ env.locals s₁.heap led) (hsrc : ∀ p ∈ src, p ∈ led) (it : SrcG prog w A n P src xv s₁)
    (turn : ∀ i v g (m : Str → Option Value) I oI h tk, i < n → P i v → G g → (∀ p ∈ led, p.1 ≠ I) → Fr g env.locals h (fun y => if y = x then some v else ks.foldr (fun k r => if y = k then m k else r) (m₀ y)) → News g env.locals h ((I, oI) :: led) →
      wpAny (model prog w) A (execs body env) (TurnK G env.locals s₁ Q x ks m₀ led I oI) E { s₁ with heap := h, toks := tk })
    (done : ∀ g (m : Str → Option Value) h tk, G g → Fr g env.locals h (fun y => (x :: ks).foldr (fun k r => if y = k then m k else r) (m₀ y)) → News g env.locals h led → Q .next { s₁ with heap := h, toks := tk }) : LoopG prog w A env x body Q E xv s₁ := by
  refine ⟨G, n, P, src, fun i m' nw => nw = led ∧ ∀ y, y ≠ x → y ∉ ks → m' y = m₀ y, g₀, m₀, led, g0, F, N, ?_, ⟨rfl, fun _ _ _ => rfl⟩, it, ?_, ?_⟩
  · rintro i m' nw ⟨rfl, _⟩ q hq
    exact hsrc q hq
  · rintro i v g m₁ nw I oI h tk hi hv gg ⟨rfl, hm₁⟩ ne F₁ N₁
    rw [map_keys hm₁] at F₁
    refine wpAny_mono (turn i v g m₁ I oI h tk hi hv gg ne F₁ N₁) (fun f s' hf => ?_) fun _ _ e => e
    cases f with
    | ret r => exact hf
    | brk => exact hf.elim
    | next =>
      obtain ⟨g', m', h', tk', e, gg', F', N', hm'⟩ := hf
      exact ⟨g', m', nw, h', tk', e, gg', F', N', ne, rfl, hm'⟩
    | cont =>
      obtain ⟨g', m', h', tk', e, gg', F', N', hm'⟩ := hf
      exact ⟨g', m', nw, h', tk', e, gg', F', N', ne, rfl, hm'⟩
  · rintro g m' nw h tk gg ⟨rfl, hm'⟩ F' N'
    rw [map_done (ks := x :: ks) fun y hy => hm' y (fun e => hy (by simp [e])) fun e => hy (by simp [e])] at F'
    exact done g m' h tk gg F' N'
end
noncomputable def TurnM (G : Heap → Prop) (L : Addr) (s₁ : Shared) (Q : Flow → Shared → Prop) (x : Str) (ks : List Str) (m₀ : Str → Option Value) (Mv : List (Addr × Obj) → Prop) (I : Addr) (oI : Obj) (f : Flow) (s' : Shared) : Prop :=
  match f with
  | .ret r => Q (.ret r) s'
  | .brk => False
  | _ => ∃ g m nw h tk, s' = { s₁ with heap := h, toks := tk } ∧ G g ∧ Fr g L h m ∧ News g L h ((I, oI) :: nw) ∧ (∀ p ∈ nw, p.1 ≠ I) ∧ Mv nw ∧ ∀ y, y ≠ x → y ∉ ks → m y = m₀ y
theorem TurnM.next {G : Heap → Prop} {L : Addr} {s₁ : Shared} {Q : Flow → Shared → Prop} {x : Str} {ks : List Str} {m₀ m : Str → Option Value} {Mv : List (Addr × Obj) → Prop} {nw all : List (Addr × Obj)} {I : Addr} {oI : Obj} {g h : Heap} {tk : Nat}
    (gg : G g) (F : Fr g L h m) (N : News g L h all) (hs : ∀ p ∈ (I, oI) :: nw, p ∈ all) (ne : ∀ p ∈ nw, p.1 ≠ I) (hv : Mv nw) (hm : ∀ y, y ≠ x → y ∉ ks → m y = m₀ y) : TurnM G L s₁ Q x ks m₀ Mv I oI .next { s₁ with heap := h, toks := tk } :=
  ⟨g, m, nw, h, tk, rfl, gg, F, fun p hp => N p (hs p hp), ne, hv, hm⟩
section
variable {prog : Program} {w : World} {A : Around} {E : Value → Shared → Prop} {s₁ : Shared} {env : Env} {x : Str} {body : List Stmt} {Q : Flow → Shared → Prop} {g₀ : Heap} {m₀ : Str → Option Value} {led : List (Addr × Obj)}
theorem loop_M {n : Nat} {P : Nat → Value → Prop} {src : List (Addr × Obj)} {xv : Value} (G : Heap → Prop) (ks : List Str) (Mv : List (Addr × Obj) → Prop) (g0 : G g₀) (F : Fr g₀ env.locals s₁.heap m₀) (N : News g₀ env.locals s₁.heap led) (hv : Mv led)
    (hsrc : ∀ nw, Mv nw → ∀ p ∈ src, p ∈ nw) (it : SrcG prog w A n P src xv s₁)
    (turn : ∀ i v g (m : Str → Option Value) nw I oI h tk, i < n → P i v → G g → Mv nw → (∀ p ∈ nw, p.1 ≠ I) → Fr g env.locals h (fun y => if y = x then some v else ks.foldr (fun k r => if y = k then m k else r) (m₀ y)) → News g env.locals h ((I, oI) :: nw) →
      wpAny (model prog w) A (execs body env) (TurnM G env.locals s₁ Q x ks m₀ Mv I oI) E { s₁ with heap := h, toks := tk })
    (done : ∀ g (m : Str → Option Value) nw h tk, G g → Mv nw → Fr g env.locals h (fun y => (x :: ks).foldr (fun k r => if y = k then m k else r) (m₀ y)) → News g env.locals h nw → Q .next { s₁ with heap := h, toks := tk }) : LoopG prog w A env x body Q E xv s₁ := by
  refine ⟨G, n, P, src, fun i m' nw => Mv nw ∧ ∀ y, y ≠ x → y ∉ ks → m' y = m₀ y, g₀, m₀, led, g0, F, N, ?_, ⟨hv, fun _ _ _ => rfl⟩, it, ?_, ?_⟩
  · rintro i m' nw ⟨hv, _⟩ q hq
    exact hsrc nw hv q hq
  · rintro i v g m₁ nw I oI h tk hi hp gg ⟨hv, hm₁⟩ ne F₁ N₁
    rw [map_keys hm₁] at F₁
    refine wpAny_mono (turn i v g m₁ nw I oI h tk hi hp gg hv ne F₁ N₁) (fun f s' hf => ?_) fun _ _ e => e
    cases f with
    | ret r => exact hf
    | brk => exact hf.elim
    | next =>
      obtain ⟨g', m', nw', h', tk', e, gg', F', N', ne', hv', hm'⟩ := hf
      exact ⟨g', m', nw', h', tk', e, gg', F', N', ne', hv', hm'⟩
    | cont =>
      obtain ⟨g', m', nw', h', tk', e, gg', F', N', ne', hv', hm'⟩ := hf
      exact ⟨g', m', nw', h', tk', e, gg', F', N', ne', hv', hm'⟩
  · rintro g m' nw h tk gg ⟨hv, hm'⟩ F' N'
    rw [map_done (ks := x :: ks) fun y hy => hm' y (fun e => hy (by simp [e])) fun e => hy (by simp [e])] at F'
    exact done g m' nw h tk gg hv F' N'
end
/-- the ledgers of a mill that moves -/
noncomputable def Mill (ml sc : Addr) (led nw : List (Addr × Obj)) : Prop := ∃ i t n, 0 ≤ i ∧ nw = (ml, millO sc i t n) :: led
theorem swapN {g h : Heap} {L : Addr} {x y : Addr × Obj} {l : List (Addr × Obj)} (N : News g L h (x :: y :: l)) : News g L h (y :: x :: l) := fun p hp => N p (by
  rcases List.mem_cons.mp hp with rfl | hp
  · exact .tail _ (.head _)
  · rcases List.mem_cons.mp hp with rfl | hp
    · exact .head _
    · exact .tail _ (.tail _ hp))
theorem off_turn {I ml : Addr} {oI om : Obj} {rest : List (Addr × Obj)} (ne : ∀ p ∈ (ml, om) :: rest, p.1 ≠ I) (h : ∀ p ∈ rest, p.1 ≠ ml) : ∀ p ∈ (I, oI) :: rest, p.1 ≠ ml :=
  List.forall_mem_cons.mpr ⟨fun e => ne _ (.head _) e.symm, h⟩
theorem mem_tail2 {g h : Heap} {L : Addr} {x y z p : Addr × Obj} {l : List (Addr × Obj)} (_ : News g L h (x :: z :: y :: l)) (hp : p ∈ l) : p ∈ x :: y :: l := .tail _ (.tail _ hp)
theorem subs2 {a b c : Addr × Obj} {l l₁ l₂ : List (Addr × Obj)} (h4 : ∀ p ∈ a :: b :: l, p ∈ l₁) (h5 : ∀ p ∈ c :: l₁, p ∈ l₂) : ∀ p ∈ l, p ∈ l₂ := fun p hp => h5 p (.tail _ (h4 p (.tail _ (.tail _ hp))))
theorem TurnM.mill {G : Heap → Prop} {L : Addr} {s₁ : Shared} {Q : Flow → Shared → Prop} {x : Str} {ks : List Str} {m₀ m : Str → Option Value} {led led' : List (Addr × Obj)} {I ml sc : Addr} {oI om : Obj} {g h : Heap} {tk n : Nat} {i : Int} {t : Tok} {p1 p2 p3 p4 : Addr × Obj}
    (gg : G g) (F : Fr g L h m) (N : News g L h (p1 :: p2 :: p3 :: (ml, millO sc i t n) :: p4 :: led')) (hi : 0 ≤ i) (hsub : ∀ p ∈ (I, oI) :: led, p ∈ led') (ne : ∀ p ∈ (ml, om) :: led, p.1 ≠ I) (hm : ∀ y, y ≠ x → y ∉ ks → m y = m₀ y) :
    TurnM G L s₁ Q x ks m₀ (Mill ml sc led) I oI .next { s₁ with heap := h, toks := tk } := by
  refine TurnM.next gg F N (nw := (ml, millO sc i t n) :: led) (fun p hp => ?_) (fun p hp => ?_) ⟨i, t, n, hi, rfl⟩ hm
  · rcases List.mem_cons.mp hp with rfl | hp
    · exact .tail _ (.tail _ (.tail _ (.tail _ (.tail _ (hsub _ (.head _))))))
    rcases List.mem_cons.mp hp with rfl | hp
    · exact .tail _ (.tail _ (.tail _ (.head _)))
    · exact .tail _ (.tail _ (.tail _ (.tail _ (.tail _ (hsub _ (.tail _ hp))))))
  · rcases List.mem_cons.mp hp with rfl | hp
    · exact ne (ml, om) (.head _)
    · exact ne _ (.tail _ hp)
theorem secondN {g h : Heap} {L : Addr} {x y : Addr × Obj} {l : List (Addr × Obj)} (_ : News g L h (x :: y :: l)) : y ∈ x :: y :: l := .tail _ (.head _)
theorem row_last {led : List (Addr × Obj)} {D : Addr} {nm : Str} {nt : Tok} {ops : List Value} {n : Nat} {ds : List T} (hm : (D, tupO ((Value.str nm nt :: ops).take ((Value.str nm nt :: ops).length - 1)) n) ∈ led) (hd : DenR led ops ds) (hne : ¬ ops = []) (hl : ds.length ≤ 8) :
    RowAt led D nm (ds.take (ds.length - 1)) := by
  have hp : 0 < ops.length := List.length_pos_iff.mpr hne
  have e : (Value.str nm nt :: ops).length - 1 = (ops.length - 1) + 1 := by rw [List.length_cons]; omega
  rw [e, List.take_succ_cons] at hm
  rw [← hd.length]
  refine ⟨nt, _, n, hm, hd.take _, ?_⟩
  rw [List.length_take]; omega
theorem row_none {led : List (Addr × Obj)} {D : Addr} {nm : Str} {nt : Tok} {ops : List Value} {n : Nat} (hm : (D, tupO ((Value.str nm nt :: ops).take ((Value.str nm nt :: ops).length - 1)) n) ∈ led) (hne : ops = []) : Den led (.ref D) (.el (.tup [])) := by
  subst hne
  exact .el (.tup hm (by simp) .nil)
theorem off_top34 : True := by w_top off; trivial
/-! _law_changed -/
section
variable {prog : Program} {w : World} {A : Around} {E Q : Value → Shared → Prop} {s : Shared}
theorem len_things {h₀ : Heap} {L l : Addr} {news n₁ : List (Addr × Obj)} {vs : List Value} {n : Nat} (N : News h₀ L s.heap news) (hm : (l, listOf vs.toArray n) ∈ news) (hD : DenR n₁ vs thingsL) (h : ∀ tk tk', Q (.int 32 tk) { s with toks := tk' }) :
    wpAny (model prog w) A (call (.builtin "len") [.ref l]) Q E s := by
  have e : vs.length = 32 := hD.length
  refine call_len_list (isListN N hm) (by simp; omega) ?_
  have := h (s.toks + 1) (s.toks + 1 + 1)
  simpa [e] using this
theorem ne_same {x : Str} {t u : Tok} (h : Q (.bool false) s) : wpAny (model prog w) A (compareOp .NotEq (.str x t) (.str x u)) Q E s :=
  ne_str (by rw [bne_self_eq_false]; exact h)
end
section
variable {prog : Program} {w : World} {p : Program} {loose : List Str} {mean : ExcName → Option Value} {mg mb : Str → Option Value} 
   {dp un : Nat} {gd : Option (List Code)} {cn : Str} {cs : Scope} {a : Addr} {ccd : Value} {cl : List (Str × Addr)} {outer : List Env} {A₀ : Around} {base h₀ : Heap} {L : Addr} {m : Str → Option Value} {news : List (Addr × Obj)} {s : Shared} {Q E : Value → Shared → Prop}
   {ml sc gdA : Addr} {n k gn : Nat} {t nt : Tok} {i : Int} {us ops : List Value} {nm : Str}
theorem c_things_in (off : ∀ p ∈ news, p.1 ≠ ml) (hsc : (sc, listOf us.toArray k) ∈ news) (hg : (gdA, tupO (.str nm nt :: ops) gn) ∈ news)
    (B : Below A₀ base outer h₀) (F : Fr h₀ L s.heap m) (X : (hd.heap_39 w.params).In h₀) (N : News h₀ L s.heap ((ml, millO sc i t n) :: news)) (T : Top p loose mean mg mb h₀) (hk : cs.kind = .function) 
    (hdp : dp + 2 < recursionLimit) (hu : un + 100 < cLine)
    (hret : ∀ aT vs h' tk led, Fr h₀ L h' m → News h₀ L h' ((ml, millO sc i t n) :: (aT, listOf vs.toArray 0) :: led) → (∀ p ∈ (aT, listOf vs.toArray 0) :: led, p.1 ≠ ml) → (∀ p ∈ news, p ∈ led) → (sc, listOf us.toArray k) ∈ led → (gdA, tupO (.str nm nt :: ops) gn) ∈ led → DenR led vs thingsL → HoldS (vs.length ≤ 1000) → Q (.ref aT) { s with heap := h', toks := tk }) :
    wpAny (model prog w) (ktrTop dp un gd cn cs L a ccd cl outer) (call (.ref 160) []) Q E s :=
  c_law_things off B F X N T hk hdp hu fun aT vs h' tk led F' N' off' sub hD => hret aT vs h' tk led F' N' off' sub (sub _ hsc) (sub _ hg) hD (HoldS.mk (by rw [hD.length]; decide))
theorem c_due_is {v : Addr} {ks msg : Str} {ds : List T} {n₁ : List (Addr × Obj)} {l : Bool} {tk : Tok} (R : RowAt n₁ v nm ds) (hs : ∀ p ∈ n₁, p ∈ news) (e : rowSays (fun k d => fits k l d) (some ks) nm ds = msg) (hnm : nm.length ≤ 100) (hks : Few ks) (hls : Lets ks)
    (B : Below A₀ base outer h₀) (F : Fr h₀ L s.heap m) (X : (hd.heap_39 w.params).In h₀) (N : News h₀ L s.heap news) (T : Top p loose mean mg mb h₀) (hk : cs.kind = .function) 
    (hdp : dp + 20 < recursionLimit) (hu : un + 400 < cLine)
    (hret : ∀ h' tk tok, Fr h₀ L h' m → News h₀ L h' news → Q (.str msg tok) { s with heap := h', toks := tk }) :
    wpAny (model prog w) (ktrTop dp un gd cn cs L a ccd cl outer) (call (.ref 200) [.ref v, .str ks tk, .bool l]) Q E s :=
  c_law_due (R.mono hs) hnm hks hls B F X N T hk hdp hu (e ▸ hret)
end
local macro_rules | `(tactic| walk_at "call ref") => `(tactic| (k_here; k_dflt ((with_reducible show wpAny _ _ (call (Value.ref 200) _) _ _ _); refine' c_due_is ?R ?s ?e ?nm ?ks ?ls ?B ?F ?X ?N ?T ?k ?d ?u ?_; (case F | N => k_asm); (case R => with_reducible assumption); (case s => walk_at "m s"); (case e | nm | ks | ls => with_reducible assumption); (case B | X | T => k_asm); (case k => walk_at "m k"); (case d => ktr_room); (case u => ktr_units); k_whole); intro _ _ _ _ _; (try k_fold)))
local macro_rules | `(tactic| walk_at "call ref") => `(tactic| (k_here; k_dflt ((with_reducible show wpAny _ _ (call (Value.ref 160) _) _ _ _); refine' c_things_in ?off ?hsc ?hg ?B ?F ?X ?N ?T ?k ?d ?u ?_; (case F | N => k_asm); (case off | hsc | hg => with_reducible assumption); (case B | X | T => k_asm); (case k => walk_at "m k"); (case d => ktr_room); (case u => ktr_units); k_whole); intro _ _ _ _ _ _ _ _ _ _ _ _ _; (try k_fold)))
local macro_rules | `(tactic| walk_at "call builtin:len") => `(tactic| (k_here; k_dflt ((with_reducible show wpAny _ _ (call (Value.builtin "len") [Value.ref _]) _ _ _); refine' len_things ?N ?m ?D ?_; (case N => k_asm); (case D => with_reducible assumption); (case m => k_mem); k_whole); intro _ _))
local macro_rules | `(tactic| walk_at "call ref") => `(tactic| (k_here; k_dflt ((with_reducible show wpAny _ _ (call (Value.ref 193) _) _ _ _); refine' c_law_said ?S ?XB ?TB ?D ?B ?F ?X ?N ?T ?k ?d ?u ?_; (case F | N | B => k_asm); (case S => first | with_reducible assumption | (refine Says.mono ?_ (by with_reducible assumption); intro _ _; k_mem)); (case XB | TB | D => with_reducible assumption); (case X | T => k_asm); (case k => walk_at "m k"); (case d => ktr_room); (case u => ktr_units); k_whole); intro _ _ _ _ _ _ _ _ _ _ _; (try k_fold)))
local macro_rules | `(tactic| walk_at "binaryOp Add ref ref") => `(tactic| (k_here; refine' HoldS.go ?_; k_whole))
local macro_rules | `(tactic| walk_at "compareOp NotEq str str") => `(tactic| (k_here; k_dflt (refine' ne_same ?_; k_whole)))
/-- the ground of a frame, as the calls that catch leave it -/
noncomputable def Gnd (A₀ : Around) (base : Heap) (outer : List Env) (K : Frag) (p : Program) (loose : List Str) (mean : ExcName → Option Value) (mg mb : Str → Option Value) (g₀ g : Heap) : Prop :=
  KtsTurn (outer.filterMap (·.frame)) g₀ g ∧ Below A₀ base outer g ∧ K.In g ∧ Top p loose mean mg mb g ∧ KtsDicts (outer.filterMap (·.frame)) g
theorem Gnd.turn {A₀ : Around} {base g₀ g g' : Heap} {outer : List Env} {K : Frag} {p : Program} {loose : List Str} {mean : ExcName → Option Value} {mg mb : Str → Option Value} (h : Gnd A₀ base outer K p loose mean mg mb g₀ g)
    (T : KtsTurn (outer.filterMap (·.frame)) g g') (B : Below A₀ base outer g') (X : K.In g') (P : Top p loose mean mg mb g') (D : KtsDicts (outer.filterMap (·.frame)) g') : Gnd A₀ base outer K p loose mean mg mb g₀ g' := ⟨h.1.trans T, B, X, P, D⟩
section
variable {prog : Program} {w : World} {p : Program} {loose : List Str} {mean : ExcName → Option Value} {mg mb : Str → Option Value} 
   {dp un : Nat} {gd : Option (List Code)} {cn : Str} {cs : Scope} {a : Addr} {ccd : Value} {cl : List (Str × Addr)} {outer : List Env} {A₀ : Around} {base h₀ : Heap} {L : Addr} {m : Str → Option Value} {news : List (Addr × Obj)} {s : Shared} {Q E : Value → Shared → Prop}
   {ml sc gdA : Addr} {n k gn : Nat} {t nt kt : Tok} {i : Int} {vs ops : List Value} {ns : List Int} {l : Bool} {nm ks : Str} {ds : List T}
theorem c_law_changed (off : ∀ p ∈ news, p.1 ≠ ml) (hsc : (sc, listOf vs.toArray k) ∈ news) (hi : IntsAre vs ns) (hlen : ns.length ≤ 63) (hi0 : 0 ≤ i)
    (hg : (gdA, tupO (.str nm nt :: ops) gn) ∈ news) (hops : DenR news ops ds) (hl : ds.length = ks.length) (hlk : shapesT.lookup nm = some ks) (hnm : nm.length ≤ 100) (hks : Few ks) (hls : Lets ks) (hag : Agree ks l ds)
    (XB : (hd.heap_39 w.params).In base) (TB : Top p loose mean mg mb base) (D : KtsDicts (outer.filterMap (·.frame)) h₀)
    (B : Below A₀ base outer h₀) (F : Fr h₀ L s.heap m) (X : (hd.heap_39 w.params).In h₀) (N : News h₀ L s.heap ((ml, millO sc i t n) :: news)) (T : Top p loose mean mg mb h₀) (hk : cs.kind = .function) 
    (hdp : dp + 24 < recursionLimit) (hu : un + 800 < cLine)
    (hret : ∀ h₀' h' tk i' t' n', 0 ≤ i' → KtsTurn (outer.filterMap (·.frame)) h₀ h₀' → Fr h₀' L h' m → News h₀' L h' ((ml, millO sc i' t' n') :: news) → Below A₀ base outer h₀' → (hd.heap_39 w.params).In h₀' → Top p loose mean mg mb h₀' → KtsDicts (outer.filterMap (·.frame)) h₀' → Q (.bool true) { s with heap := h', toks := tk }) :
    wpAny (model prog w) (ktrTop dp un gd cn cs L a ccd cl outer) (call (.ref 207) [.ref ml, .ref gdA, .str ks kt, .bool l]) Q E s := by
  refine wpAny_call ?_
  k_dflt (refine' enterS B F X N T XB TB D ?kA ?kF ?kK ?k6 ?k7 ?k8 ?k9 ?kB ?_ ?c2 ?c3 ?c4 ?c5)
  case kA => exact rfl
  case kF => exact rfl
  case kK => assumption
  case k6 => k_is
  case k7 => k_is
  case k8 => ktr_room
  case k9 => exact BindsTo.of_eq rfl
  case kB => exact locs rfl
  case c2 => exact rfl
  case c3 => exact rfl
  case c4 => exact rfl
  case c5 => decide
  intro g' L' h' FG' F' N' B' X' T' D'
  (try dsimp only)
  (try k_lift B')
  k_steps
  rename News _ _ _ _ => lN
  rename Fr g' L' _ _ => lF
  have hR : ks.length ≤ 1000 := Nat.le_trans (show ks.length ≤ 4 from hks) (by decide)
  have neR := news_ne lN (.head _) (.tail _ (.head _)) (by simp)
  refine loop_M (Gnd (ktrTop dp un gd cn cs L a ccd cl outer) base (envX cn cs L a ccd cl :: outer) (hd.heap_39 w.params) p loose mean mg mb g') ["things", "start", "thing", "row"] (Mill ml sc ((_, rangeO _ _ _ _) :: news))
    ⟨.refl, B', X', T', D'⟩ lF (swapN lN) ⟨i, t, n, hi0, rfl⟩ (fun nw hv q hq => ?_) (srcG_range rfl lN (.head _) hR) ?_ ?_
  · obtain ⟨i₁, t₁, n₁, _, rfl⟩ := hv
    rw [List.mem_singleton.mp hq]
    exact .tail _ (.head _)
  · rintro j v g₁ m₁ nw I oI h₁ tk₁ hj ⟨tj, rfl⟩ gg ⟨i₁, t₁, n₁, hi₁, rfl⟩ ne F₁ N₁
    have N₂ := swapN N₁
    have hsc₁ := mem_tail2 (x := (I, oI)) N₁ hsc
    have hg₁ := mem_tail2 (x := (I, oI)) N₁ hg
    clear N₁
    have off₁ := off_turn (oI := oI) ne (List.forall_mem_cons.mpr ⟨neR, off⟩)
    have gg₁ := gg
    obtain ⟨T₁, B₁, X₁, P₁, D₁⟩ := gg
    simp only [List.foldr_cons, List.foldr_nil] at F₁
    generalize m₁ "things" = u1 at F₁
    generalize m₁ "start" = u2 at F₁
    generalize m₁ "thing" = u3 at F₁
    generalize m₁ "row" = u4 at F₁
    clear lN lF F' N' B' X' T' D' off
    have hz : HoldS ((Value.str nm nt :: ops).length ≤ 1000) := HoldS.mk (by rw [List.length_cons, hops.length, hl]; have : ks.length ≤ 4 := hks; omega)
    have hz9 : HoldS ((Value.str nm nt :: ops).length ≤ 900) := HoldS.mk (by rw [List.length_cons, hops.length, hl]; have : ks.length ≤ 4 := hks; omega)
    have hy1 : HoldS (j + 1 < (Value.str nm nt :: ops).length) := HoldS.mk (by rw [List.length_cons, hops.length, hl]; omega)
    have hy2 : HoldS (j + 2 ≤ (Value.str nm nt :: ops).length) := HoldS.mk (by rw [List.length_cons, hops.length, hl]; omega)
    k_steps
    rename News _ _ _ _ => lN
    rename DenR _ _ thingsL => hD
    rename (gdA, tupO _ _) ∈ _ => hg₂
    rename ∀ p ∈ (I, oI) :: _, p ∈ _ => hsub
    have hops₂ := hops.mono fun p hp => hsub p (.tail _ (.tail _ hp))
    rename ∀ v : Value, v ∈ _ → v ∈ _ => hzb
    revert hzb
    rename ∀ v : Value, v ∈ _ → v ∈ _ => hza
    intro hzb
    refine HoldS.mk (list_cat (by k_asm) lN (.tail _ (.head _)) (.head _) (HoldS.go (by assumption)) (HoldS.go (by assumption)) ?_)
    intro D₂ h₂ F₂ N₂'
    clear lN
    refine loop_K (Gnd (ktrTop dp un gd cn cs L a ccd cl outer) base (envX cn cs L a ccd cl :: outer) (hd.heap_39 w.params) p loose mean mg mb g') ["row"] gg₁ F₂ N₂' (src := [(D₂, _)]) (fun q hq => by rw [List.mem_singleton.mp hq]; exact .head _) (srcG_list rfl N₂' (.head _)) ?_ ?_
    · rintro j₂ v g₂ m₂ I₂ o₂ h₃ tk₃ hj₂ hv gg₂ ne₂ F₃ N₃
      obtain ⟨d, hd, hvd⟩ := hD.mem ((List.mem_append.mp (List.mem_of_getElem? hv)).elim (hza v) (hzb v))
      have gg₃ := gg₂
      obtain ⟨T₃, B₃, X₃, P₃, D₃⟩ := gg₂
      simp only [List.foldr_cons, List.foldr_nil] at F₃
      generalize m₂ "row" = u5 at F₃
      clear T₁ B₁ X₁ P₁ D₁ gg₁ F₁ N₂ F₂ N₂'
      k_steps
      rename News _ _ _ _ => lN
      refine HoldS.mk (tup_cat (by k_asm) lN (.tail _ (.head _)) (.head _) ?_ ?_ ?_ ?_)
      · rw [List.length_take]; exact Nat.le_trans (Nat.min_le_right _ _) (HoldS.go hz)
      · exact (by decide : 1 ≤ 1000)
      · rw [List.take_succ_cons]; exact List.cons_ne_nil _ _
      intro D₄ h₄ n₄ led₄ F₄ N₄ hs₄ hm₄
      have hg₄ := hs₄ _ (by k_mem : (gdA, tupO (.str nm nt :: ops) gn) ∈ _)
      clear lN
      k_steps
      rename News _ _ _ _ => lN
      refine HoldS.mk (tup_cat (by k_asm) lN (.tail _ hm₄) (.head _) ?_ ?_ ?_ ?_)
      · rw [List.length_append, List.length_take]; exact Nat.le_trans (Nat.add_le_add (Nat.le_trans (Nat.min_le_right _ _) (HoldS.go hz9)) (Nat.le_refl 1)) (by decide)
      · rw [List.length_drop]; exact Nat.le_trans (Nat.sub_le _ _) (HoldS.go hz)
      · simp
      intro D₅ h₅ n₅ led₅ F₅ N₅ hs₅ hm₅
      rw [row_set (by rw [hops.length, hl]; exact hj)] at hm₅
      have hin := subs2 hs₄ hs₅
      have R : RowAt led₅ D₅ nm (ds.set j d) := ⟨nt, ops.set j v, n₅, hm₅, DenR.set (hops₂.mono fun p hp => hin p (by k_mem)) (hvd.mono fun p hp => hin p (by k_mem)) j, by rw [List.length_set, hl]; have : ks.length ≤ 4 := hks; omega⟩
      have S : Says shapesT l led₅ (.ref D₅) (rowSays (fun k d => isOp k l d) (some ks) nm (ds.set j d)) := .kn R hlk hnm hks
      have e := (hag.set hls hd (j := j)).says (nm := nm)
      clear lN
      k_steps
      rename News _ _ _ _ => lN
      rename KtsTurn _ _ _ => lT
      rename Below _ _ _ _ => lB
      rename Frag.In _ _ => lX
      rename Top _ _ _ _ _ _ => lP
      rename KtsDicts _ _ => lD
      with_unfolding_all refine TurnK.next (gg₃.turn lT lB lX lP lD) (by k_asm) lN hin fun y hy1 hy2 => ?_
      have hy3 : ¬ y = Str.ofString "row" := fun e => hy2 (by rw [e]; exact .head _)
      simp only [if_neg hy1, if_neg hy3]
    · intro g₂ m₂ h₃ tk₃ gg₂ F₃ N₃
      simp only [List.foldr_cons, List.foldr_nil] at F₃
      generalize m₂ "thing" = u5 at F₃
      generalize m₂ "row" = u6 at F₃
      clear T₁ B₁ X₁ P₁ D₁ gg₁ F₁ N₂ F₂ N₂'
      obtain ⟨T₃, B₃, X₃, P₃, D₃⟩ := id gg₂
      k_steps
      with_unfolding_all refine TurnM.mill gg₂ (by k_asm) N₃ (by assumption) hsub ne fun y hy1 hy2 => ?_
      have hy3 : ¬ y = Str.ofString "row" := fun e => hy2 (by rw [e]; simp)
      have hy4 : ¬ y = Str.ofString "things" := fun e => hy2 (by rw [e]; simp)
      have hy5 : ¬ y = Str.ofString "start" := fun e => hy2 (by rw [e]; simp)
      have hy6 : ¬ y = Str.ofString "thing" := fun e => hy2 (by rw [e]; simp)
      simp only [if_neg hy1, if_neg hy3, if_neg hy4, if_neg hy5, if_neg hy6]
  · rintro g₁ m₁ nw h₁ tk₁ gg ⟨i₁, t₁, n₁, hi₁, rfl⟩ F₁ N₁
    have gg₁ := gg
    obtain ⟨T₁, B₁, X₁, P₁, D₁⟩ := gg
    simp only [List.foldr_cons, List.foldr_nil] at F₁
    generalize m₁ "spot" = u0 at F₁
    generalize m₁ "things" = u1 at F₁
    generalize m₁ "start" = u2 at F₁
    generalize m₁ "thing" = u3 at F₁
    generalize m₁ "row" = u4 at F₁
    clear lN lF F' N' B' X' T' D' off
    have hz : HoldS ((Value.str nm nt :: ops).length ≤ 1000) := HoldS.mk (by rw [List.length_cons, hops.length, hl]; have : ks.length ≤ 4 := hks; omega)
    have hy1 : HoldS (1 ≤ (Value.str nm nt :: ops).length) := HoldS.mk (by rw [List.length_cons]; omega)
    k_steps
    rename News _ _ _ _ => lN
    refine HoldS.mk (tup_cat (by k_asm) lN (.tail _ (.tail _ (.tail _ hg))) (.head _) (HoldS.go hz) (show 1 ≤ 1000 by decide) (List.cons_ne_nil _ _) ?_)
    intro D₂ h₂ n₂ led₂ F₂ N₂ hs₂ hm₂
    have hg₂ := hs₂ _ (.tail _ (.tail _ (.tail _ hg)))
    clear lN
    k_steps
    rename News _ _ _ _ => lN
    rename Fr g₁ L' _ _ => lF
    have hm₃ := secondN lN
    have hops₂ := hops.mono fun p hp => hs₂ p (.tail _ (.tail _ (.tail _ hp)))
    have h4 : ds.length ≤ 4 := by have : ks.length ≤ 4 := hks; omega
    refine loop_K (Gnd (ktrTop dp un gd cn cs L a ccd cl outer) base (envX cn cs L a ccd cl :: outer) (hd.heap_39 w.params) p loose mean mg mb g') [] gg₁ lF lN (fun q hq => by rw [List.mem_singleton.mp hq]; exact .head _) (srcG_list rfl lN (.head _)) ?_ ?_
    · rintro j v g₂ m₂ I₂ o₂ h₃ tk₃ hj hv gg₂ ne₂ F₃ N₃
      have gg₃ := gg₂
      obtain ⟨T₃, B₃, X₃, P₃, D₃⟩ := gg₂
      simp only [List.foldr_nil] at F₃
      clear T₁ B₁ X₁ P₁ D₁ gg₁ lF lN
      rcases j with _ | _ | j
      · cases hv
        have R : RowAt led₂ D₂ nm (ds ++ [.el (.int 0)]) := ⟨nt, _, n₂, hm₂, hops₂.append (.cons (.el (.int 0 _)) .nil), by rw [List.length_append]; show ds.length + 1 ≤ 8; omega⟩
        have hnl : (ds ++ [Mine.T.el (.int 0)]).length ≠ ks.length := by rw [List.length_append]; show ds.length + 1 ≠ _; omega
        have S : Says shapesT l led₂ (.ref D₂) (rowSays (fun k d => isOp k l d) (some ks) nm (ds ++ [.el (.int 0)])) := .kn R hlk hnm hks
        rw [says_len hnl] at S
        have e := says_len (q := fun k d => fits k l d) (nm := nm) hnl
        k_steps
        rename News _ _ _ _ => lN
        rename KtsTurn _ _ _ => lT
        rename Below _ _ _ _ => lB
        rename Frag.In _ _ => lX
        rename Top _ _ _ _ _ _ => lP
        rename KtsDicts _ _ => lD
        with_unfolding_all refine TurnK.next (gg₃.turn lT lB lX lP lD) (by k_asm) lN (fun p hp => hp) fun y hy1 hy2 => ?_
        simp only [if_neg hy1]
      · cases hv
        by_cases hne : ops = []
        · have hT := row_none hm₃ hne
          have ht : isTupT (Mine.T.el (.tup [])) = true := rfl
          k_steps
          rename News _ _ _ _ => lN
          with_unfolding_all refine TurnK.next gg₃ (by k_asm) lN (fun p hp => hp) fun y hy1 hy2 => ?_
          simp only [if_neg hy1]
        have R := row_last hm₃ (hops₂.mono fun p hp => .tail _ (.tail _ hp)) hne (by omega)
        have hnl : (ds.take (ds.length - 1)).length ≠ ks.length := by
          have hp : 0 < ops.length := List.length_pos_iff.mpr hne
          have := hops.length
          rw [List.length_take]; omega
        have S : Says shapesT l _ _ (rowSays (fun k d => isOp k l d) (some ks) nm (ds.take (ds.length - 1))) := .kn R hlk hnm hks
        rw [says_len hnl] at S
        have e := says_len (q := fun k d => fits k l d) (nm := nm) hnl
        k_steps
        rename News _ _ _ _ => lN
        rename KtsTurn _ _ _ => lT
        rename Below _ _ _ _ => lB
        rename Frag.In _ _ => lX
        rename Top _ _ _ _ _ _ => lP
        rename KtsDicts _ _ => lD
        with_unfolding_all refine TurnK.next (gg₃.turn lT lB lX lP lD) (by k_asm) lN (fun p hp => hp) fun y hy1 hy2 => ?_
        simp only [if_neg hy1]
      · cases hv
    · intro g₂ m₂ h₃ tk₃ gg₂ F₃ N₃
      simp only [List.foldr_cons, List.foldr_nil] at F₃
      generalize m₂ "row" = u5 at F₃
      obtain ⟨T₃, B₃, X₃, P₃, D₃⟩ := gg₂
      k_steps
      show LeftS _ _ _ _ _ _ _ _ _ _ _ _ _ _ _ _ _
      refine ⟨g₂, _, _, _, T₃, (by k_asm), N₃, fun h₀' T F N B X Tp D => hret h₀' _ _ i₁ t₁ n₁ hi₁ T F (fun q hq => N q (.tail _ (.tail _ (hs₂ q ?_)))) B X Tp D⟩
      rcases List.mem_cons.mp hq with rfl | hq
      · exact .tail _ (.head _)
      · exact .tail _ (.tail _ (.tail _ hq))
end
theorem off_top35 : True := by w_top off; trivial
/-! the loops of law: a ledger that moves by the turn -/
noncomputable def TurnI (h₀ : Heap) (L : Addr) (s₁ : Shared) (Q : Flow → Shared → Prop) (x : Str) (ks : List Str) (m₀ : Str → Option Value) (Mv : List (Addr × Obj) → Prop) (I : Addr) (oI : Obj) (f : Flow) (s' : Shared) : Prop :=
  match f with
  | .ret r => Q (.ret r) s'
  | .brk => False
  | _ => ∃ m nw h tk, s' = { s₁ with heap := h, toks := tk } ∧ Fr h₀ L h m ∧ News h₀ L h ((I, oI) :: nw) ∧ (∀ p ∈ nw, p.1 ≠ I) ∧ Mv nw ∧ ∀ y, y ≠ x → y ∉ ks → m y = m₀ y
theorem TurnI.next {h₀ : Heap} {L : Addr} {s₁ : Shared} {Q : Flow → Shared → Prop} {x : Str} {ks : List Str} {m₀ m : Str → Option Value} {Mv : List (Addr × Obj) → Prop} {nw all : List (Addr × Obj)} {I : Addr} {oI : Obj} {h : Heap} {tk : Nat}
    (F : Fr h₀ L h m) (N : News h₀ L h all) (hs : ∀ p ∈ (I, oI) :: nw, p ∈ all) (ne : ∀ p ∈ nw, p.1 ≠ I) (hv : Mv nw) (hm : ∀ y, y ≠ x → y ∉ ks → m y = m₀ y) : TurnI h₀ L s₁ Q x ks m₀ Mv I oI .next { s₁ with heap := h, toks := tk } :=
  ⟨m, nw, h, tk, rfl, F, fun p hp => N p (hs p hp), ne, hv, hm⟩
section
variable {prog : Program} {w : World} {A : Around} {E : Value → Shared → Prop} {s₁ : Shared} {env : Env} {x : Str} {body : List Stmt} {Q : Flow → Shared → Prop} {h₀ : Heap} {m₀ : Str → Option Value} {led : List (Addr × Obj)}
theorem loop_I {n : Nat} {P : Nat → Value → Prop} {src : List (Addr × Obj)} {xv : Value} (ks : List Str) (Mv : Nat → List (Addr × Obj) → Prop) (F : Fr h₀ env.locals s₁.heap m₀) (N : News h₀ env.locals s₁.heap led) (hv : Mv 0 led)
    (hsrc : ∀ i nw, Mv i nw → ∀ p ∈ src, p ∈ nw) (it : SrcG prog w A n P src xv s₁)
    (turn : ∀ i v (m : Str → Option Value) nw I oI h tk, i < n → P i v → Mv i nw → (∀ p ∈ nw, p.1 ≠ I) → Fr h₀ env.locals h (fun y => if y = x then some v else ks.foldr (fun k r => if y = k then m k else r) (m₀ y)) → News h₀ env.locals h ((I, oI) :: nw) →
      wpAny (model prog w) A (execs body env) (TurnI h₀ env.locals s₁ Q x ks m₀ (Mv (i + 1)) I oI) E { s₁ with heap := h, toks := tk })
    (done : ∀ (m : Str → Option Value) nw h tk, Mv n nw → Fr h₀ env.locals h (fun y => (x :: ks).foldr (fun k r => if y = k then m k else r) (m₀ y)) → News h₀ env.locals h nw → Q .next { s₁ with heap := h, toks := tk }) : LoopG prog w A env x body Q E xv s₁ := by
  refine ⟨fun g => g = h₀, n, P, src, fun i m' nw => Mv i nw ∧ ∀ y, y ≠ x → y ∉ ks → m' y = m₀ y, h₀, m₀, led, rfl, F, N, ?_, ⟨hv, fun _ _ _ => rfl⟩, it, ?_, ?_⟩
  · rintro i m' nw ⟨hv, _⟩ q hq
    exact hsrc i nw hv q hq
  · rintro i v g m₁ nw I oI h tk hi hp rfl ⟨hv, hm₁⟩ ne F₁ N₁
    rw [map_keys hm₁] at F₁
    refine wpAny_mono (turn i v m₁ nw I oI h tk hi hp hv ne F₁ N₁) (fun f s' hf => ?_) fun _ _ e => e
    cases f with
    | ret r => exact hf
    | brk => exact hf.elim
    | next =>
      obtain ⟨m', nw', h', tk', e, F', N', ne', hv', hm'⟩ := hf
      exact ⟨g, m', nw', h', tk', e, rfl, F', N', ne', hv', hm'⟩
    | cont =>
      obtain ⟨m', nw', h', tk', e, F', N', ne', hv', hm'⟩ := hf
      exact ⟨g, m', nw', h', tk', e, rfl, F', N', ne', hv', hm'⟩
  · rintro g m' nw h tk rfl ⟨hv, hm'⟩ F' N'
    rw [map_done (ks := x :: ks) fun y hy => hm' y (fun e => hy (by simp [e])) fun e => hy (by simp [e])] at F'
    exact done m' nw h tk hv F' N'
end
/-! the table -/
noncomputable def tblOf (fs : List (Str × List Str)) : List (Str × Str) := fs.flatMap fun f => f.2.map fun n => (n, f.1)
theorem tbl_nodup : ((tblOf formsT).map (·.1)).Nodup := by decide +kernel
theorem tbl_len : (tblOf formsT).length = 45 := by decide +kernel
theorem shapes_len : shapesT.length = 45 := by decide +kernel
theorem tbl_agree : ((tblOf formsT).all fun p => shapesT.lookup p.1 == some p.2) = true := by decide +kernel
/-- the table after i whole forms and j names of the next -/
noncomputable def tblAt (i j : Nat) : List (Str × Str) := tblOf (formsT.take i) ++ match formsT[i]? with
  | some f => (f.2.take j).map fun n => (n, f.1)
  | none => []
theorem tblAt_step {i j : Nat} {ks nm : Str} {names : List Str} (h : formsT[i]? = some (ks, names)) (hj : names[j]? = some nm) : tblAt i (j + 1) = tblAt i j ++ [(nm, ks)] := by
  unfold tblAt
  rw [h]
  dsimp only
  rw [List.take_add_one, hj, List.map_append, List.append_assoc]
  rfl
theorem tblAt_whole {i : Nat} {ks : Str} {names : List Str} (h : formsT[i]? = some (ks, names)) : tblAt i names.length = tblAt (i + 1) 0 := by
  unfold tblAt
  rw [h]
  dsimp only
  rw [List.take_length, List.take_add_one, h]
  unfold tblOf
  rw [List.flatMap_append]
  split <;> simp
theorem tblAt_pre (i j : Nat) : ∃ r, tblOf formsT = tblAt i j ++ r := by
  unfold tblAt
  have e : formsT = formsT.take i ++ formsT.drop i := (List.take_append_drop i formsT).symm
  cases h : formsT[i]? with
  | none => exact ⟨tblOf (formsT.drop i), by rw [List.append_nil]; unfold tblOf; rw [← List.flatMap_append, ← e]⟩
  | some f =>
    obtain ⟨hi, hf⟩ := List.getElem?_eq_some_iff.mp h
    refine ⟨((f.2.drop j).map fun n => (n, f.1)) ++ tblOf (formsT.drop (i + 1)), ?_⟩
    dsimp only
    rw [List.append_assoc, ← List.append_assoc ((f.2.take j).map _), ← List.map_append, List.take_append_drop]
    have : formsT.drop i = f :: formsT.drop (i + 1) := by rw [List.drop_eq_getElem_cons hi, hf]
    have e2 : tblOf formsT = tblOf (formsT.take i ++ f :: formsT.drop (i + 1)) := by rw [← this, List.take_append_drop]
    rw [e2]
    unfold tblOf
    rw [List.flatMap_append, List.flatMap_cons]
theorem tblAt_full : tblAt 17 0 = tblOf formsT := by decide +kernel
theorem tblAt_new {i j : Nat} {ks nm : Str} {names : List Str} (h : formsT[i]? = some (ks, names)) (hj : names[j]? = some nm) : nm ∉ (tblAt i j).map (·.1) := by
  obtain ⟨r, e⟩ := tblAt_pre i (j + 1)
  have n := tbl_nodup
  rw [e, tblAt_step h hj, List.map_append, List.map_append, List.nodup_append] at n
  have n1 := n.1
  rw [List.nodup_append] at n1
  intro hm
  exact n1.2.2 nm hm nm (by simp) rfl
theorem tblAt_len (i j : Nat) : (tblAt i j).length ≤ 45 := by
  obtain ⟨r, e⟩ := tblAt_pre i j
  have := tbl_len
  rw [e, List.length_append] at this
  omega
section
variable {prog : Program} {w : World} {A : Around} {E : Value → Shared → Prop} {s : Shared} {h₀ : Heap} {L : Addr} {m : Str → Option Value} {news : List (Addr × Obj)}
theorem set_tbl {tb : Addr} {o : Obj} {kvs : List (Str × Value)} {tbl : List (Str × Str)} {nm ks : Str} {t u : Tok} {Q : Unit → Shared → Prop} (F : Fr h₀ L s.heap m) (N : News h₀ L s.heap ((tb, o) :: news)) (ne : ∀ p ∈ news, p.1 ≠ tb) (hd : o.IsDictOf (PySem.strKind prog w) kvs) (hv : StrVals kvs tbl) (hnew : nm ∉ tbl.map (·.1)) (hsz : tbl.length ≤ 45)
    (h : ∀ h' o' kvs' tk, Fr h₀ L h' m → News h₀ L h' ((tb, o') :: news) → o'.IsDictOf (PySem.strKind prog w) kvs' → StrVals kvs' (tbl ++ [(nm, ks)]) → Q () { s with heap := h', toks := tk }) :
    wpAny (model prog w) A (setItem (.ref tb) (.str nm t) (.str ks u)) Q E s := by
  refine kda_set (knd := PySem.strKind prog w) (k := nm) F N (.head ne) hd (by simp [PySem.strKind, Value.isStrOf]) (by rw [hv.length, sizeLine_eq]; omega) fun h' o' F' N' hd' => h h' o' _ _ F' N' hd' ?_
  have : stored kvs nm (.str ks u) = kvs ++ [(nm, .str ks u)] := by
    rw [stored, if_neg]
    intro h
    obtain ⟨kv, hkv, he⟩ := List.any_eq_true.mp h
    exact hnew (by rw [← hv.keys]; exact List.mem_map.mpr ⟨kv, hkv, of_decide_eq_true he⟩)
  rw [this]
  exact hv.append (.cons .nil)
theorem item_of {value slice : PySem.Expr} {d : Addr} {o : Obj} {kvs : List (Str × Value)} {nm : Str} {t : Tok} {v : Value} {Q : Value → Shared → Prop} (N : News h₀ L s.heap news) (hm : (d, o) ∈ news) (hd : o.IsDictOf (PySem.strKind prog w) kvs) (hl : valueAt kvs nm = some v) (h : ∀ tk, Q v { s with toks := tk })
    (hs : subscripted slice false (.ref d) (.str nm t) = operate [.ref d, .str nm t] (getItem (.ref d) (.str nm t)) := by with_unfolding_all rfl) (hg : ∀ r, letTemporaryGo value (.ref d) r = pure () := by intro _; with_unfolding_all rfl) :
    wpAny (model prog w) A (subscriptTail value slice (.ref d) (.str nm t)) Q E s :=
  kda_item (k := nm) N hm hd (by simp [PySem.strKind, Value.isStrOf]) hl (h _) hs hg
theorem hits_all {A : Around} {s : Shared} {ka kb : List (Str × Value)} {ta tb : List (Str × Str)} (ha : StrVals ka ta) (hb : StrVals kb tb) (h : (ta.all fun p => tb.lookup p.1 == some p.2) = true) : KeqHits A s kb ka true := by
  induction ha with
  | nil => exact .nil
  | @cons a b tok kvs t _ ih =>
    rw [List.all_cons, Bool.and_eq_true] at h
    have e := eq_of_beq h.1
    rcases hb.at a with ⟨b', tok', e1, e2⟩ | ⟨e1, _⟩
    · rw [e] at e1
      cases e1
      have := KeqHits.hit (A := A) (s := s) e2 (EqAt.str_str b tok b tok') (ih h.2)
      rw [beq_self_eq_true, Bool.true_and] at this
      exact this
    · rw [e] at e1; cases e1
theorem tables_same {a b : Addr} {oa ob : Obj} {ka kb : List (Str × Value)} {Q : Value → Shared → Prop} (N : News h₀ L s.heap news) (pa : (a, oa) ∈ news) (pb : (b, ob) ∈ news) (da : oa.IsDictOf (PySem.strKind prog w) ka) (db : ob.IsDictOf (PySem.strKind prog w) kb)
    (la : (a == sysModules) = false) (lb : (b == sysModules) = false) (va : StrVals ka (tblOf formsT)) (vb : StrVals kb shapesT) (hu : A.units < cLine) (h : Q (.bool false) s) : wpAny (model prog w) A (compareOp .NotEq (.ref a) (.ref b)) Q E s :=
  kne_pairs N pa pb da db la lb (by rw [va.length, vb.length, tbl_len, shapes_len]) hu (hits_all va vb tbl_agree) h
end
local macro_rules | `(tactic| walk_at "subscriptTail") => `(tactic| (k_here; k_dflt ((with_reducible show wpAny _ _ (subscriptTail _ _ (Value.ref _) (Value.str _ _)) _ _ _); refine' item_of ?N ?m ?d ?l ?_ ?q ?g; (case N => k_asm); (case l => with_reducible assumption); (case m => k_mem); (case d => with_reducible assumption); (case q => with_unfolding_all rfl); (case g => walk_at "m q"); k_whole); intro _))
local macro_rules | `(tactic| walk_at "setItem ref str") => `(tactic| (k_here; k_dflt (refine' set_tbl ?F ?N ?ne ?d ?v ?new ?z ?_; (case F | N => k_asm); (case ne | d | v | new => with_reducible assumption); (case z => exact tblAt_len _ _); k_whole); intro _ _ _ _ _ _ _ _))
local macro_rules | `(tactic| walk_at "compareOp NotEq ref ref") => `(tactic| (k_here; k_dflt (refine' tables_same ?N ?a ?b ?c ?d ?e ?f ?g ?h ?u ?_; (case N => k_asm); (case g | h | c | d => with_reducible assumption); (case a | b => k_mem); (case e | f => with_reducible assumption); (case u => ktr_units); k_whole)))
theorem law_start {g h : Heap} {L tb ml D d c1 c2 : Addr} {ot om oD o o1 o2 : Obj} {led : List (Addr × Obj)} (N : News g L h ((d, o) :: (led ++ [(tb, ot), (ml, om), (D, oD), (c2, o2), (c1, o1)]))) (ne : ∀ p ∈ [(ml, om), (D, oD), (c2, o2), (c1, o1)], p.1 ≠ tb)
    (fr : ∀ q ∈ [(tb, ot), (ml, om), (D, oD), (c2, o2), (c1, o1)], ∀ p ∈ (d, o) :: led, p.1 ≠ q.1) (l1 : D < ml ∧ c2 < ml ∧ c1 < ml) (l2 : c2 < D ∧ c1 < D) (hc : c1 < c2) :
    News g L h ((tb, ot) :: (c2, o2) :: (ml, om) :: (c1, o1) :: (D, oD) :: (d, o) :: led) ∧ (∀ p ∈ (c2, o2) :: (ml, om) :: (c1, o1) :: (D, oD) :: (d, o) :: led, p.1 ≠ tb) ∧ (∀ p ∈ (c1, o1) :: (D, oD) :: (d, o) :: led, p.1 ≠ ml) ∧ c2 ≠ ml ∧ ∀ p ∈ (c1, o1) :: (D, oD) :: (d, o) :: led, p.1 ≠ c2 := by
  refine ⟨fun p hp => N p ?_, ?_, ?_, Nat.ne_of_lt l1.2.1, ?_⟩
  · simp only [List.mem_cons, List.mem_append, List.not_mem_nil, or_false] at hp ⊢
    rcases hp with h | h | h | h | h | h | h <;> simp [h]
  · refine List.forall_mem_cons.mpr ⟨ne _ (.tail _ (.tail _ (.head _))), List.forall_mem_cons.mpr ⟨ne _ (.head _), List.forall_mem_cons.mpr ⟨ne _ (.tail _ (.tail _ (.tail _ (.head _)))), List.forall_mem_cons.mpr ⟨ne _ (.tail _ (.head _)), fr _ (.head _)⟩⟩⟩⟩
  · exact List.forall_mem_cons.mpr ⟨Nat.ne_of_lt l1.2.2, List.forall_mem_cons.mpr ⟨Nat.ne_of_lt l1.1, fr _ (.tail _ (.head _))⟩⟩
  · exact List.forall_mem_cons.mpr ⟨Nat.ne_of_lt hc, List.forall_mem_cons.mpr ⟨Nat.ne_of_gt l2.1, fr (c2, o2) (.tail _ (.tail _ (.tail _ (.head _))))⟩⟩
/-- the ledgers of a table that grows -/
noncomputable def Tabs (prog : Program) (w : World) (tb : Addr) (rest : List (Addr × Obj)) (tbl : List (Str × Str)) (nw : List (Addr × Obj)) : Prop := ∃ o kvs, nw = (tb, o) :: rest ∧ o.IsDictOf (PySem.strKind prog w) kvs ∧ StrVals kvs tbl
theorem empty_dict {prog : Program} {w : World} {n : Nat} : (dictOf [] n).IsDictOf (PySem.strKind prog w) [] := ⟨#[], n, ⟨rfl, rfl, rfl⟩, rfl, fun _ he => by simp at he, Pairs.nil, List.nodup_nil⟩
theorem LstVals.get {led k t} (h : LstVals led k t) {i : Nat} {x : Str} {v : Value} (hk : k[i]? = some (x, v)) : ∃ xs, t[i]? = some (x, xs) := by
  induction h generalizing i with
  | nil => cases hk
  | cons _ _ _ ih => cases i with
    | zero => cases hk; exact ⟨_, rfl⟩
    | succ i => exact ih hk
theorem forms_look : ((List.range 17).all fun i => match formsT[i]? with
    | some f => formsT.lookup f.1 == some f.2
    | none => true) = true := by decide +kernel
theorem forms_lookup {i : Nat} {K : Str} {names : List Str} (h : formsT[i]? = some (K, names)) : formsT.lookup K = some names := by
  have hi : i < 17 := (List.getElem?_eq_some_iff.mp h).1
  have := List.all_eq_true.mp forms_look i (List.mem_range.mpr hi)
  rw [h] at this
  exact eq_of_beq this
theorem forms_at {led kvs} (h : LstVals led kvs formsT) {i : Nat} {K : Str} {x : Value} (hk : kvs[i]? = some (K, x)) : ∃ a n vs names, formsT[i]? = some (K, names) ∧ valueAt kvs K = some (.ref a) ∧ (a, listOf vs.toArray n) ∈ led ∧ StrsAre vs names := by
  obtain ⟨names, hn⟩ := h.get hk
  rcases h.at K with ⟨a, n, vs, xs, e1, e2, e3, e4⟩ | ⟨e, _⟩
  · rw [forms_lookup hn] at e1
    cases e1
    exact ⟨a, n, vs, names, hn, e2, e3, e4⟩
  · rw [forms_lookup hn] at e; cases e
theorem strs_get {vs xs} (h : StrsAre vs xs) {i : Nat} {v : Value} (hv : vs[i]? = some v) : ∃ x t, v = .str x t ∧ xs[i]? = some x := by
  induction h generalizing i with
  | nil => cases hv
  | cons y t _ ih => cases i with
    | zero => cases hv; exact ⟨_, _, rfl, rfl⟩
    | succ i => exact ih hv
theorem off_tab {I ml : Addr} {oI om : Obj} {rest : List (Addr × Obj)} (ne : ∀ p ∈ (ml, om) :: rest, p.1 ≠ I) (h : ∀ p ∈ rest, p.1 ≠ ml) : ∀ p ∈ (I, oI) :: rest, p.1 ≠ ml := off_turn ne h
section
variable {prog : Program} {w : World} {A : Around} {E : Value → Shared → Prop} {s₁ : Shared} {env : Env} {x : Str} {body : List Stmt} {Q : Flow → Shared → Prop} {h₀ : Heap} {m₀ : Str → Option Value} {rest : List (Addr × Obj)} {tb : Addr} {o₀ : Obj} {k₀ : List (Str × Value)}
theorem loop_T {n : Nat} {P : Nat → Value → Prop} {src : List (Addr × Obj)} {xv : Value} (ks : List Str) (T : Nat → List (Str × Str)) (F : Fr h₀ env.locals s₁.heap m₀) (N : News h₀ env.locals s₁.heap ((tb, o₀) :: rest)) (hd : o₀.IsDictOf (PySem.strKind prog w) k₀) (hv : StrVals k₀ (T 0))
    (hsrc : ∀ p ∈ src, p ∈ rest) (it : SrcG prog w A n P src xv s₁)
    (turn : ∀ i v (m : Str → Option Value) o k I oI h tk, i < n → P i v → o.IsDictOf (PySem.strKind prog w) k → StrVals k (T i) → (∀ p ∈ (tb, o) :: rest, p.1 ≠ I) → Fr h₀ env.locals h (fun y => if y = x then some v else ks.foldr (fun k r => if y = k then m k else r) (m₀ y)) → News h₀ env.locals h ((I, oI) :: (tb, o) :: rest) →
      wpAny (model prog w) A (execs body env) (TurnI h₀ env.locals s₁ Q x ks m₀ (Tabs prog w tb rest (T (i + 1))) I oI) E { s₁ with heap := h, toks := tk })
    (done : ∀ (m : Str → Option Value) o k h tk, o.IsDictOf (PySem.strKind prog w) k → StrVals k (T n) → Fr h₀ env.locals h (fun y => (x :: ks).foldr (fun k r => if y = k then m k else r) (m₀ y)) → News h₀ env.locals h ((tb, o) :: rest) → Q .next { s₁ with heap := h, toks := tk }) : LoopG prog w A env x body Q E xv s₁ := by
  refine loop_I ks (fun i => Tabs prog w tb rest (T i)) F N ⟨o₀, k₀, rfl, hd, hv⟩ (fun i nw hv q hq => ?_) it ?_ ?_
  · obtain ⟨o, k, rfl, _, _⟩ := hv
    exact .tail _ (hsrc q hq)
  · rintro i v m nw I oI h tk hi hp ⟨o, k, rfl, hd, hv⟩ ne F N
    exact turn i v m o k I oI h tk hi hp hd hv ne F N
  · rintro m nw h tk ⟨o, k, rfl, hd, hv⟩ F N
    exact done m o k h tk hd hv F N
theorem TurnI.tab {L : Addr} {ks : List Str} {m : Str → Option Value} {tbl : List (Str × Str)} {o : Obj} {k : List (Str × Value)} {I : Addr} {oI o' : Obj} {h : Heap} {tk : Nat}
    (F : Fr h₀ L h m) (N : News h₀ L h ((tb, o) :: (I, oI) :: rest)) (ne : ∀ p ∈ (tb, o') :: rest, p.1 ≠ I) (hd : o.IsDictOf (PySem.strKind prog w) k) (hv : StrVals k tbl) (hm : ∀ y, y ≠ x → y ∉ ks → m y = m₀ y) :
    TurnI h₀ L s₁ Q x ks m₀ (Tabs prog w tb rest tbl) I oI .next { s₁ with heap := h, toks := tk } :=
  TurnI.next F (swapN N) (fun _ h => h) (fun p hp => (List.mem_cons.mp hp).elim (fun e => by subst e; exact ne (tb, o') (.head _)) fun hp => ne p (.tail _ hp)) ⟨o, k, rfl, hd, hv⟩ hm
end
theorem off_top36 : True := by w_top off; trivial
/-! the goods of a form, one a letter -/
section
variable {prog : Program} {w : World} {A : Around} {E : Value → Shared → Prop} {s : Shared} {h₀ : Heap} {L : Addr} {m : Str → Option Value} {env : Env}
open LCg
theorem iterates_str {x : Str} {t : Tok} {s₁ : Shared} (hh : A.handled = none) : Iterates prog w A E h₀ L x.cps.size (SignAt x) (fun _ => True) (.str x t) s₁ := by
  intro Q' hQ
  have fr : ∀ {T : String} {i : Nat} {h h' : Heap} {o : Obj}, h.IsStrIter s₁.heap.objs.size T x t i → h.get? s₁.heap.objs.size = some o → h'.get? s₁.heap.objs.size = some o → h'.IsStrIter s₁.heap.objs.size T x t i := by
    rintro T i h h' o ⟨o', q, r⟩ e e'
    rw [e] at q
    cases q
    exact ⟨o, e', r⟩
  have lt : ∀ o : Obj, ∀ b ∈ [s₁.heap.objs.size], b < (s₁.heap.push o).objs.size := fun o b hb => by
    rw [Heap.size_push, List.mem_singleton.mp hb]; exact Nat.lt_succ_self _
  cases ha : x.cps.all (· < 128)
  · exact wpAny_pyIter_wide ha (hQ _ _ _ s₁.toks (Walks.strWide hh _ x t) (fun i h st => by obtain ⟨o, e, _⟩ := st; exact ⟨o, e⟩) (fun i h h' o nw st e e' _ _ _ => fr st e e') ⟨_, Heap.get?_push_size _ rfl, rfl, rfl⟩ (lt _))
  · exact wpAny_pyIter_ascii ha (hQ _ _ _ s₁.toks (Walks.strAscii hh _ x t) (fun i h st => by obtain ⟨o, e, _⟩ := st; exact ⟨o, e⟩) (fun i h h' o nw st e e' _ _ _ => fr st e e') ⟨_, Heap.get?_push_size _ rfl, rfl, rfl⟩ (lt _))
/-- an element's end: a good, laid in what was newly made -/
noncomputable def GoodEl (s : Shared) (h₀ : Heap) (L : Addr) (m : Str → Option Value) (ml sc : Addr) (led : List (Addr × Obj)) (k : Str) (l : Bool) (y : Value) (s' : Shared) : Prop :=
  ∃ d h' tk' i t n made, s' = { s with heap := h', toks := tk' } ∧ 0 ≤ i ∧ Fr h₀ L h' m ∧ News h₀ L h' ((ml, millO sc i t n) :: (made ++ led)) ∧ (∀ p ∈ made, p.1 ≠ ml ∧ ∀ q ∈ led, p.1 ≠ q.1) ∧ Den made y d ∧ isOp k l d = true ∧ fits k l d = true
theorem rest_goods {elt : PySem.Expr} {x : Str} {scope : Scope} {cl : List (Str × Addr)} {s : Shared} {Fin : List Value → List (Addr × Obj) → Prop} {ks : Str} {l : Bool} {ml sc : Addr} {base : List (Addr × Obj)} {i₀ : Int} {t₀ : Tok} {n₀ : Nat} (hi₀ : 0 ≤ i₀) (offb : ∀ p ∈ base, p.1 ≠ ml)
    (turn : ∀ (c : Nat) (u : Tok) led i t n C m₂ h tk (E' : Value → Shared → Prop) I oI oC D ys made, (∃ j : Nat, ks.cps[j]? = some c) → NsObj oC m₂ → m₂ x = some (.str ⟨#[c]⟩ u) → 0 ≤ i → led = (I, oI) :: (C, oC) :: (D, lst ys) :: (made ++ base) → (∀ p ∈ led, p.1 ≠ ml) → Fr h₀ L h m → News h₀ L h ((ml, millO sc i t n) :: led) →
      wpAny (model prog w) A (eval elt (compEnvC scope cl C env)) (GoodEl s h₀ L m ml sc led ⟨#[c]⟩ l) E' { s with heap := h, toks := tk })
    (fin : ∀ ys ds made i t n, 0 ≤ i → DenR made ys ds → ds.length = ks.cps.size → (∀ (j c : Nat) (d : T), ks.cps[j]? = some c → ds[j]? = some d → isOp ⟨#[c]⟩ l d = true ∧ fits ⟨#[c]⟩ l d = true) → (∀ p ∈ made, p.1 ≠ ml) → Fin ys ((ml, millO sc i t n) :: (made ++ base))) :
    CompRest prog w A h₀ L m env elt x scope cl s (fun _ => True) (SignAt ks) Fin ks.cps.size 0 [] ((ml, millO sc i₀ t₀ n₀) :: base) := by
  have all : ∀ k j ys ds made i t n, j + k = ks.cps.size → 0 ≤ i → DenR made ys ds → ds.length = j → (∀ (j c : Nat) (d : T), ks.cps[j]? = some c → ds[j]? = some d → isOp ⟨#[c]⟩ l d = true ∧ fits ⟨#[c]⟩ l d = true) → (∀ p ∈ made, p.1 ≠ ml) →
      CompRest prog w A h₀ L m env elt x scope cl s (fun _ => True) (SignAt ks) Fin k j ys ((ml, millO sc i t n) :: (made ++ base)) := by
    intro k
    induction k with
    | zero =>
      intro j ys ds made i t n hj hi hD hl hg hm
      exact CompRest.zero (fin ys ds made i t n hi hD (by omega) hg hm)
    | succ k ih =>
      intro j ys ds made i t n hj hi hD hl hg hm
      refine CompRest.succ fun v I oI C oC D m₂ h tk E' hv hC hx F N off ne => ?_
      obtain ⟨c, u, hc, rfl⟩ := hv
      have offm := (Off3.mem off (ml, millO sc i t n) (.head _))
      have offl : ∀ p ∈ (I, oI) :: (C, oC) :: (D, lst ys) :: (made ++ base), p.1 ≠ ml := by
        refine List.forall_mem_cons.mpr ⟨fun e => offm.1 e.symm, List.forall_mem_cons.mpr ⟨fun e => offm.2.1 e.symm, List.forall_mem_cons.mpr ⟨fun e => offm.2.2 e.symm, fun p hp => ?_⟩⟩⟩
        exact (List.mem_append.mp hp).elim (hm p) (offb p)
      have N' : News h₀ L h ((ml, millO sc i t n) :: (I, oI) :: (C, oC) :: (D, lst ys) :: (made ++ base)) := fun p hp => N p (by
        simp only [List.mem_cons] at hp ⊢
        rcases hp with h | h | h | h | h <;> simp [h])
      refine wpAny_mono (turn c u _ i t n C m₂ h tk E' I oI oC D ys made ⟨j, hc⟩ hC hx hi rfl offl F N') (fun y s' hy => ?_) fun _ _ e => e
      obtain ⟨d, h', tk', i', t', n', made', rfl, hi', F', N'', fr, hd, o1, o2⟩ := hy
      refine ⟨h', tk', (ml, millO sc i' t' n') :: ((made' ++ made) ++ base), rfl, F', fun p hp => N'' p ?_, Off3.of fun p hp => ?_, trivial, ?_⟩
      · simp only [List.mem_cons, List.mem_append] at hp ⊢
        rcases hp with h | h | h | h | (h | h) | h <;> simp [h]
      · rcases List.mem_cons.mp hp with rfl | hp
        · exact offm
        · rw [List.append_assoc] at hp
          rcases List.mem_append.mp hp with hp | hp
          · have := (fr p hp).2
            exact ⟨this _ (.head _), this _ (.tail _ (.head _)), this _ (.tail _ (.tail _ (.head _)))⟩
          · exact Off3.mem off p (.tail _ hp)
      · refine ih (j + 1) (ys ++ [y]) (ds ++ [d]) (made' ++ made) i' t' n' (by omega) hi' ?_ (by rw [List.length_append, hl]; rfl) (fun j' c' d' hc' hd' => ?_) (fun p hp => ?_)
        · exact DenR.append (hD.mono fun p hp => List.mem_append_right _ hp) (.cons (hd.mono fun p hp => List.mem_append_left _ hp) .nil)
        · rw [List.getElem?_append] at hd'
          split at hd'
          · exact hg j' c' d' hc' hd'
          · rename_i hlt
            have : j' = j := by
              have := (List.getElem?_eq_some_iff.mp hd').1
              simp at this; omega
            subst this
            rw [hc] at hc'
            cases hc'
            rw [hl, Nat.sub_self] at hd'
            cases hd'
            exact ⟨o1, o2⟩
        · exact (List.mem_append.mp hp).elim (fun h => (fr p h).1) (hm p)
  exact all ks.cps.size 0 [] [] [] i₀ t₀ n₀ (by omega) hi₀ .nil rfl (fun _ _ _ _ h => by simp at h) (fun _ h => nomatch h)
end
/-! the frame of law: what catches leaves its ground as it was -/
theorem kts0_Fr {g g' h : Heap} {L : Addr} {m : Str → Option Value} (T : KtsTurn [] g g') (F : Fr g' L h m) : Fr g L h m := ⟨F.ns, fun b o e => F.keep b o (T.other b o e (by simp)), by rw [← T.size]; exact F.above⟩
theorem kts0_News {g g' h : Heap} {L : Addr} {news : List (Addr × Obj)} (T : KtsTurn [] g g') (N : News g' L h news) : News g L h news := fun p hp => by
  obtain ⟨h1, h2, h3⟩ := N p hp
  refine ⟨h1, h2, ?_⟩
  cases q : g.get? p.1 with
  | none => rfl
  | some o => have := T.other _ _ q (by simp); rw [h3] at this; cases this
section
variable {prog : Program} {w : World} {p : Program} {loose : List Str} {mean : ExcName → Option Value} {mg mb : Str → Option Value} 
   {dp un : Nat} {gd : Option (List Code)} {cn : Str} {cs : Scope} {a : Addr} {ccd : Value} {cl : List (Str × Addr)} {A₀ : Around} {h₀ : Heap} {L : Addr} {m : Str → Option Value} {news : List (Addr × Obj)} {s : Shared} {Q E : Value → Shared → Prop}
   {v : Value} {l : Bool} {msg : Str}
theorem c_said0 (S : Says shapesT l news v msg) (B : Below A₀ h₀ [] h₀) (F : Fr h₀ L s.heap m) (X : (hd.heap_39 w.params).In h₀) (N : News h₀ L s.heap news) (T : Top p loose mean mg mb h₀) (hk : cs.kind = .function) 
    (hdp : dp + 22 < recursionLimit) (hu : un + 600 < cLine) (hret : ∀ h' tk tok, Fr h₀ L h' m → News h₀ L h' news → Q (.str msg tok) { s with heap := h', toks := tk }) :
    wpAny (model prog w) (ktrTop dp un gd cn cs L a ccd cl []) (call (.ref 193) [v, .bool l]) Q E s :=
  c_law_said S X T ktsDicts_nil B F X N T hk hdp hu fun h₀' h' tk tok T' F' N' _ _ _ _ => hret h' tk tok (kts0_Fr T' F') (kts0_News T' N')
variable {ml sc gdA : Addr} {n k gn : Nat} {t nt kt : Tok} {i : Int} {vs ops : List Value} {ns : List Int} {nm ks : Str} {ds : List T}
theorem c_changed0 (off : ∀ p ∈ news, p.1 ≠ ml) (hsc : (sc, listOf vs.toArray k) ∈ news) (hi : IntsAre vs ns) (hlen : ns.length ≤ 63) (hi0 : 0 ≤ i)
    (hg : (gdA, tupO (.str nm nt :: ops) gn) ∈ news) (hops : DenR news ops ds) (hl : ds.length = ks.length) (hlk : shapesT.lookup nm = some ks) (hnm : nm.length ≤ 100) (hks : Few ks) (hls : Lets ks) (hag : Agree ks l ds)
    (B : Below A₀ h₀ [] h₀) (F : Fr h₀ L s.heap m) (X : (hd.heap_39 w.params).In h₀) (N : News h₀ L s.heap ((ml, millO sc i t n) :: news)) (T : Top p loose mean mg mb h₀) (hk : cs.kind = .function) 
    (hdp : dp + 24 < recursionLimit) (hu : un + 800 < cLine)
    (hret : ∀ h' tk i' t' n', 0 ≤ i' → Fr h₀ L h' m → News h₀ L h' ((ml, millO sc i' t' n') :: news) → Q (.bool true) { s with heap := h', toks := tk }) :
    wpAny (model prog w) (ktrTop dp un gd cn cs L a ccd cl []) (call (.ref 207) [.ref ml, .ref gdA, .str ks kt, .bool l]) Q E s :=
  c_law_changed off hsc hi hlen hi0 hg hops hl hlk hnm hks hls hag X T ktsDicts_nil B F X N T hk hdp hu fun h₀' h' tk i' t' n' hi' T' F' N' _ _ _ _ => hret h' tk i' t' n' hi' (kts0_Fr T' F') (kts0_News T' N')
end
section
variable {prog : Program} {w : World} {A : Around} {E Q : Value → Shared → Prop} {s : Shared} {h₀ : Heap} {L : Addr} {m : Str → Option Value} {news : List (Addr × Obj)}
theorem len_strs {l : Addr} {vs : List Value} {xs : List Str} {n : Nat} (N : News h₀ L s.heap news) (hm : (l, listOf vs.toArray n) ∈ news) (hs : StrsAre vs xs) (hz : HoldS (xs.length ≤ 100)) (h : ∀ tk tk', Q (.int xs.length tk) { s with toks := tk' }) :
    wpAny (model prog w) A (call (.builtin "len") [.ref l]) Q E s := by
  have e := strsAre_len hs
  have := hz.go
  refine call_len_list (isListN N hm) (by simp; omega) ?_
  have := h (s.toks + 1) (s.toks + 1 + 1)
  rw [← e] at this
  simpa using this
theorem item_strs_at {value slice : PySem.Expr} {l : Addr} {vs : List Value} {xs : List Str} {n : Nat} {r : Int} {u : Tok} (N : News h₀ L s.heap news) (hm : (l, listOf vs.toArray n) ∈ news) (hs : StrsAre vs xs) (hz : HoldS (xs.length ≤ 100)) (h0 : 0 ≤ r) (h1 : r < xs.length) (h : ∀ nm t, nm ∈ xs → Q (.str nm t) s)
    (hsub : ∀ i, subscripted slice false (.ref l) (.int i u) = operate [.ref l, .int i u] (getItem (.ref l) (.int i u)) := by intro i; with_unfolding_all rfl) (hg : ∀ r, letTemporaryGo value (.ref l) r = pure () := by intro _; with_unfolding_all rfl) :
    wpAny (model prog w) A (subscriptTail value slice (.ref l) (.int r u)) Q E s := by
  have e := strsAre_len hs
  have := hz.go
  obtain ⟨v, hv⟩ : ∃ v, vs[r.toNat]? = some v := ⟨_, List.getElem?_eq_getElem (by omega)⟩
  obtain ⟨nm, t, rfl, hn⟩ := strs_get hs hv
  have hl := isListN N hm
  exact subscriptTail_builtin hl.typeIs slot_list_getitem.lookup (wpAny_getItem_list hl h0 (by omega) (by simpa using hv) (h nm t (List.mem_of_getElem? hn))) (hsub _) hg
theorem tuple_of {l : Addr} {vs : List Value} {n : Nat} (F : Fr h₀ L s.heap m) (N : News h₀ L s.heap news) (hm : (l, listOf vs.toArray n) ∈ news) (hz : vs.length ≤ 1000)
    (h : ∀ D h', Fr h₀ L h' m → News h₀ L h' ((D, tupO vs 0) :: news) → (∀ p ∈ news, p.1 < D) → Q (.ref D) { s with heap := h' }) : wpAny (model prog w) A (call (.type "tuple") [.ref l]) Q E s :=
  kde_tupleOf F N (isListN N hm) (by simp; omega) (zs := vs) rfl h
theorem store_cell {c ml : Addr} {o om : Obj} {x : Str} {v₀ : Option Value} {v : Value} {a : Addr} {cn : Str} {cs : Scope} {ccd : Value} {cl : List (Str × Addr)} {Q : Unit → Shared → Prop} (F : Fr h₀ L s.heap m) (N : News h₀ L s.heap ((ml, om) :: (c, o) :: news)) (hm : ∀ p ∈ (c, o) :: news, p.1 ≠ ml) (off : ∀ p ∈ news, p.1 ≠ c) (hc : cl.lookup x = some c) (hd : o.data = .cell v₀)
    (h : ∀ h' o', Fr h₀ L h' m → News h₀ L h' ((ml, om) :: (c, o') :: news) → o'.data = .cell (some v) → (∀ p ∈ (c, o') :: news, p.1 ≠ ml) → Q () { s with heap := h' })
    (hk : cs.kind = .function := by rfl) (hx : (envX cn cs L a ccd cl).kindOf x = some .cell := by rfl) : wpAny (model prog w) A (storeName (envX cn cs L a ccd cl) x v) Q E s :=
  storeX_C F N hc (.tail (Ne.symm (hm _ (.head _))) (.head off)) hd (fun h' o' F' N' d' => h h' o' F' N' d' (List.forall_mem_cons.mpr ⟨hm (c, o) (.head _), fun p hp => hm p (.tail _ hp)⟩)) hk hx
end
/-! the names of a form -/
noncomputable def fewB (ks : Str) : Bool := decide (ks.length ≤ 4) && ks.cps.all fun c => letters.contains ⟨#[c]⟩
theorem names_look : (formsT.all fun f => decide (0 < f.2.length) && decide (f.2.length ≤ 100) && fewB f.1 && f.2.all fun n => shapesT.lookup n == some f.1 && (tblOf formsT).lookup n == some f.1 && decide (n.length ≤ 100)) = true := by decide +kernel
theorem name_facts {i : Nat} {K : Str} {names : List Str} (h : formsT[i]? = some (K, names)) : 0 < names.length ∧ names.length ≤ 100 ∧ Few K ∧ Lets K ∧ ∀ nm ∈ names, shapesT.lookup nm = some K ∧ (tblOf formsT).lookup nm = some K ∧ nm.length ≤ 100 := by
  have := List.all_eq_true.mp names_look _ (List.mem_of_getElem? h)
  simp only [Bool.and_eq_true, decide_eq_true_eq, fewB] at this
  obtain ⟨⟨⟨h1, h2⟩, h3, h4⟩, h5⟩ := this
  refine ⟨h1, h2, h3, fun i c hc => ?_, fun nm hn => ?_⟩
  · rw [Array.all_eq_true] at h4
    obtain ⟨hi, he⟩ := Array.getElem?_eq_some_iff.mp hc
    have := h4 i hi
    rw [he] at this
    exact List.contains_iff_mem.mp this
  · have := List.all_eq_true.mp h5 nm hn
    simp only [Bool.and_eq_true, decide_eq_true_eq] at this
    exact ⟨eq_of_beq this.1.1, eq_of_beq this.1.2, this.2⟩
/-- the good row passes -/
theorem good_passes {ks nm : Str} {l : Bool} {ds : List T} (hl : ds.length = ks.cps.size) (h : ∀ (j c : Nat) (d : T), ks.cps[j]? = some c → ds[j]? = some d → isOp ⟨#[c]⟩ l d = true ∧ fits ⟨#[c]⟩ l d = true) : rowSays (fun k d => isOp k l d) (some ks) nm ds = "" := by
  refine says_none hl fun j hj => ?_
  have hj' : j < ks.cps.size := hj
  rw [okAt_eq (Array.getElem?_eq_getElem hj') (List.getElem?_eq_getElem (by omega))]
  exact (h j _ _ (Array.getElem?_eq_getElem hj') (List.getElem?_eq_getElem (by omega))).1
theorem good_agrees {ks : Str} {l : Bool} {ds : List T} (h : ∀ (j c : Nat) (d : T), ks.cps[j]? = some c → ds[j]? = some d → isOp ⟨#[c]⟩ l d = true ∧ fits ⟨#[c]⟩ l d = true) : Agree ks l ds := fun i c d hc hd => by
  obtain ⟨h1, h2⟩ := h i c d hc hd
  rw [h1, h2]
/-- the ledgers of law's main loop: the mill and a cell move -/
noncomputable def Lnk (ml sc c : Addr) (rest nw : List (Addr × Obj)) : Prop := ∃ oc v i t n, oc.data = .cell v ∧ 0 ≤ i ∧ nw = (ml, millO sc i t n) :: (c, oc) :: rest
section
variable {prog : Program} {w : World} {A : Around} {E : Value → Shared → Prop} {s₁ : Shared} {env : Env} {x : Str} {body : List Stmt} {Q : Flow → Shared → Prop} {h₀ : Heap} {m₀ : Str → Option Value} {rest : List (Addr × Obj)} {ml sc c : Addr}
theorem loop_L {n : Nat} {P : Nat → Value → Prop} {src : List (Addr × Obj)} {xv : Value} {oc₀ : Obj} {v₀ : Option Value} {i₀ : Int} {t₀ : Tok} {n₀ : Nat} (ks : List Str) (F : Fr h₀ env.locals s₁.heap m₀) (N : News h₀ env.locals s₁.heap ((ml, millO sc i₀ t₀ n₀) :: (c, oc₀) :: rest)) (hd : oc₀.data = .cell v₀) (hi : 0 ≤ i₀)
    (hsrc : ∀ p ∈ src, p ∈ rest) (it : SrcG prog w A n P src xv s₁)
    (turn : ∀ j v (m : Str → Option Value) oc vc i t k I oI h tk, j < n → P j v → oc.data = .cell vc → 0 ≤ i → (∀ p ∈ (ml, millO sc i t k) :: (c, oc) :: rest, p.1 ≠ I) → Fr h₀ env.locals h (fun y => if y = x then some v else ks.foldr (fun k r => if y = k then m k else r) (m₀ y)) →
      News h₀ env.locals h ((ml, millO sc i t k) :: (c, oc) :: (I, oI) :: rest) →
      wpAny (model prog w) A (execs body env) (TurnI h₀ env.locals s₁ Q x ks m₀ (Lnk ml sc c rest) I oI) E { s₁ with heap := h, toks := tk })
    (done : ∀ (m : Str → Option Value) oc vc i t k h tk, oc.data = .cell vc → 0 ≤ i → Fr h₀ env.locals h (fun y => (x :: ks).foldr (fun k r => if y = k then m k else r) (m₀ y)) → News h₀ env.locals h ((ml, millO sc i t k) :: (c, oc) :: rest) → Q .next { s₁ with heap := h, toks := tk }) : LoopG prog w A env x body Q E xv s₁ := by
  refine loop_I ks (fun _ => Lnk ml sc c rest) F N ⟨oc₀, v₀, i₀, t₀, n₀, hd, hi, rfl⟩ (fun i nw hv q hq => ?_) it ?_ ?_
  · obtain ⟨oc, v, i, t, n, _, _, rfl⟩ := hv
    exact .tail _ (.tail _ (hsrc q hq))
  · rintro j v m nw I oI h tk hj hp ⟨oc, vc, i, t, k, hd, hi, rfl⟩ ne F N
    refine turn j v m oc vc i t k I oI h tk hj hp hd hi ne F fun p hp => N p ?_
    simp only [List.mem_cons] at hp ⊢
    rcases hp with h | h | h | h <;> simp [h]
  · rintro m nw h tk ⟨oc, vc, i, t, k, hd, hi, rfl⟩ F N
    exact done m oc vc i t k h tk hd hi F N
theorem TurnI.lnk {L : Addr} {ks : List Str} {m : Str → Option Value} {I : Addr} {oI oc om o' : Obj} {h : Heap} {tk k : Nat} {v : Option Value} {i : Int} {t : Tok} {all : List (Addr × Obj)}
    (F : Fr h₀ L h m) (N : News h₀ L h all) (h1 : (ml, millO sc i t k) ∈ all) (h2 : (c, oc) ∈ all) (h3 : (I, oI) ∈ all) (h4 : ∀ p ∈ rest, p ∈ all) (hd : oc.data = .cell v) (hi : 0 ≤ i) (ne : ∀ p ∈ (ml, om) :: (c, o') :: rest, p.1 ≠ I) (hm : ∀ y, y ≠ x → y ∉ ks → m y = m₀ y) :
    TurnI h₀ L s₁ Q x ks m₀ (Lnk ml sc c rest) I oI .next { s₁ with heap := h, toks := tk } := by
  refine TurnI.next F N (nw := (ml, millO sc i t k) :: (c, oc) :: rest) (fun p hp => ?_) (fun p hp => ?_) ⟨oc, v, i, t, k, hd, hi, rfl⟩ hm
  · simp only [List.mem_cons] at hp
    rcases hp with rfl | rfl | rfl | hp
    · exact h3
    · exact h1
    · exact h2
    · exact h4 p hp
  · simp only [List.mem_cons] at hp
    rcases hp with rfl | rfl | hp
    · exact ne (ml, om) (.head _)
    · exact ne (c, o') (.tail _ (.head _))
    · exact ne p (.tail _ (.tail _ hp))
end
theorem news_neo {g h : Heap} {L a b : Addr} {oa ob : Obj} {news : List (Addr × Obj)} (N : News g L h news) (ha : (a, oa) ∈ news) (hb : (b, ob) ∈ news) (hc : oa ≠ ob) : a ≠ b := by
  rintro rfl
  have := (N _ ha).1
  rw [(N _ hb).1] at this
  exact hc (Option.some.inj this).symm
theorem law_led {g h : Heap} {L sh tb ml D d c1 c2 : Addr} {osh ot om oD o o1 o2 : Obj} {led : List (Addr × Obj)} (N : News g L h ((sh, osh) :: (tb, ot) :: (c2, o2) :: (ml, om) :: (c1, o1) :: (D, oD) :: (d, o) :: led)) (netb : ∀ p ∈ (c2, o2) :: (ml, om) :: (c1, o1) :: (D, oD) :: (d, o) :: led, p.1 ≠ tb)
    (offml : ∀ p ∈ (c1, o1) :: (D, oD) :: (d, o) :: led, p.1 ≠ ml) (offc : ∀ p ∈ (c1, o1) :: (D, oD) :: (d, o) :: led, p.1 ≠ c2) :
    News g L h ((ml, om) :: (c2, o2) :: (tb, ot) :: (c1, o1) :: (D, oD) :: (d, o) :: led) ∧ (∀ p ∈ (tb, ot) :: (c1, o1) :: (D, oD) :: (d, o) :: led, p.1 ≠ ml) ∧ ∀ p ∈ (tb, ot) :: (c1, o1) :: (D, oD) :: (d, o) :: led, p.1 ≠ c2 := by
  refine ⟨fun p hp => N p ?_, List.forall_mem_cons.mpr ⟨fun e => netb _ (.tail _ (.head _)) e.symm, offml⟩, List.forall_mem_cons.mpr ⟨fun e => netb _ (.head _) e.symm, offc⟩⟩
  simp only [List.mem_cons] at hp ⊢
  rcases hp with h | h | h | h | h | h | h <;> simp [h]
theorem off_two {I ml c : Addr} {oI om o oc : Obj} {rest : List (Addr × Obj)} (ne : ∀ p ∈ (ml, om) :: (c, o) :: rest, p.1 ≠ I) (hc : c ≠ ml) (h : ∀ p ∈ rest, p.1 ≠ ml) : ∀ p ∈ (c, oc) :: (I, oI) :: rest, p.1 ≠ ml :=
  List.forall_mem_cons.mpr ⟨hc, List.forall_mem_cons.mpr ⟨fun e => ne _ (.head _) e.symm, h⟩⟩
theorem off_two' {I ml c : Addr} {oI om o : Obj} {rest : List (Addr × Obj)} (ne : ∀ p ∈ (ml, om) :: (c, o) :: rest, p.1 ≠ I) (h : ∀ p ∈ rest, p.1 ≠ c) : ∀ p ∈ (I, oI) :: rest, p.1 ≠ c :=
  List.forall_mem_cons.mpr ⟨fun e => ne _ (.tail _ (.head _)) e.symm, h⟩
theorem good_led {g h : Heap} {L D5 D4 D3 ml l' : Addr} {t5 o4 o3 om ol : Obj} {made base : List (Addr × Obj)} (N : News g L h ((D5, t5) :: (D4, o4) :: (D3, o3) :: (ml, om) :: (made ++ (l', ol) :: base))) (hlt : ∀ p ∈ (D4, o4) :: (D3, o3) :: (ml, om) :: (made ++ (l', ol) :: base), p.1 < D5)
    (offm : ∀ p ∈ made, p.1 ≠ ml) (offb : ∀ p ∈ (l', ol) :: base, p.1 ≠ ml) : News g L h ((ml, om) :: (D5, t5) :: (made ++ base)) ∧ ∀ p ∈ (D5, t5) :: (made ++ base), p.1 ≠ ml := by
  refine ⟨fun p hp => N p ?_, List.forall_mem_cons.mpr ⟨Nat.ne_of_gt (hlt (ml, om) (.tail _ (.tail _ (.head _)))), fun p hp => ?_⟩⟩
  · simp only [List.mem_cons, List.mem_append] at hp ⊢
    rcases hp with h | h | h | h <;> simp [h]
  · exact (List.mem_append.mp hp).elim (offm p) fun h => offb p (.tail _ h)
theorem off_head {g h : Heap} {L x ml : Addr} {ox om : Obj} {l : List (Addr × Obj)} (_ : News g L h ((x, ox) :: (ml, om) :: l)) (hlt : ml < x) (lo : ∀ p ∈ l, p.1 ≠ ml) : ∀ p ∈ (x, ox) :: l, p.1 ≠ ml := List.forall_mem_cons.mpr ⟨Nat.ne_of_gt hlt, lo⟩
theorem cellB {o : Obj} {b : Bool} (h : o.data = .cell (some (.bool b))) : ∃ b', o.data = .cell (some (.bool b')) := ⟨b, h⟩
theorem row_facts {g h : Heap} {L D5 ml : Addr} {om : Obj} {made base : List (Addr × Obj)} {nm K : Str} {tn : Tok} {ys : List Value} {ds : List T} {b : Bool} (_ : News g L h ((ml, om) :: (D5, tupO ([.str nm tn] ++ ys) 0) :: (made ++ base))) (hD : DenR made ys ds) (hdl : ds.length = K.cps.size) (hK4 : K.cps.size ≤ 4)
    (hgood : ∀ (j c : Nat) (d : T), K.cps[j]? = some c → ds[j]? = some d → isOp ⟨#[c]⟩ b d = true ∧ fits ⟨#[c]⟩ b d = true) (hsh : shapesT.lookup nm = some K) (htb : (tblOf formsT).lookup nm = some K) (hln : nm.length ≤ 100) (hFew : Few K) :
    Says (tblOf formsT) b ((ml, om) :: (D5, tupO ([.str nm tn] ++ ys) 0) :: (made ++ base)) (.ref D5) "" ∧ Says shapesT b ((ml, om) :: (D5, tupO ([.str nm tn] ++ ys) 0) :: (made ++ base)) (.ref D5) "" ∧ (D5, tupO (.str nm tn :: ys) 0) ∈ (D5, tupO ([.str nm tn] ++ ys) 0) :: (made ++ base) ∧
      DenR ((D5, tupO ([.str nm tn] ++ ys) 0) :: (made ++ base)) ys ds ∧ ds.length = K.length ∧ Agree K b ds := by
  have R : RowAt ((ml, om) :: (D5, tupO ([.str nm tn] ++ ys) 0) :: (made ++ base)) D5 nm ds := ⟨tn, ys, 0, .tail _ (.head _), hD.mono fun p hp => .tail _ (.tail _ (List.mem_append_left _ hp)), by omega⟩
  have hp := good_passes (nm := nm) hdl hgood
  have S1 := Says.kn (l := b) R htb hln hFew
  have S2 := Says.kn (l := b) R hsh hln hFew
  rw [hp] at S1 S2
  exact ⟨S1, S2, .head _, hD.mono fun p hp => .tail _ (List.mem_append_left _ hp), hdl, good_agrees hgood⟩
theorem says_jump {l : Bool} {D : Addr} {t u : Tok} {n : Nat} {news : List (Addr × Obj)} (hm : (D, tupO [.str "jump" t, .int 1 u] n) ∈ news) : Says shapesT l news (.ref D) "unknown instruction: jump" := by
  have R : RowAt news D "jump" [.el (.int 1)] := ⟨t, [.int 1 u], n, hm, .cons (.el (.int 1 u)) .nil, by decide⟩
  have S := Says.un (l := l) R (by decide +kernel : shapesT.lookup ("jump" : Str) = none) (by decide +kernel)
  have e : rowSays (fun k d => isOp k l d) none "jump" [.el (.int 1)] = "unknown instruction: jump" := by
    show ("unknown instruction: " : Str) ++ "jump" = _
    decide +kernel
  rw [e] at S
  exact S
noncomputable def badL : List T := [.el (.tup []), .lst, .el .none, .el (.int 7), .el (.str "fail"), .lst, .el (.tup [.int 7]), .el (.tup [.none, .int 1])]
theorem bad_says {led : List (Addr × Obj)} {vs : List Value} (h : DenR led vs badL) {v : Value} (hv : v ∈ vs) : Says shapesT true led v "not an instruction" := by
  obtain ⟨d, hd, hden⟩ := h.mem hv
  exact .bad hden (List.all_eq_true.mp (by rfl : (badL.all fun d => !isInstr d) = true) d hd |> fun h => by simpa using h)
theorem bad_tie {g h : Heap} {L l' : Addr} {vs : List Value} {n : Nat} {led : List (Addr × Obj)} (_ : News g L h ((l', listOf vs.toArray n) :: led)) (H : DenR ((l', listOf vs.toArray n) :: led) vs badL) : DenR ((l', listOf vs.toArray n) :: led) vs badL := H
theorem off_top37 : True := by w_top off; trivial
/-! law -/
local macro_rules | `(tactic| walk_at "call ref") => `(tactic| (k_here; k_dflt ((with_reducible show wpAny _ _ (call (Value.ref 193) _) _ _ _); refine' c_said0 ?S ?B ?F ?X ?N ?T ?k ?d ?u ?_; (case F | N | B => k_asm); (case S => first | with_reducible assumption | exact says_jump (by k_mem)); (case X | T => k_asm); (case k => walk_at "m k"); (case d => ktr_room); (case u => ktr_units); k_whole); intro _ _ _ _ _; (try k_fold)))
local macro_rules | `(tactic| walk_at "call ref") => `(tactic| (k_here; k_dflt ((with_reducible show wpAny _ _ (call (Value.ref 207) _) _ _ _); refine' c_changed0 ?off ?sc ?hi ?hl ?hi0 ?hg ?hops ?hlen ?hlk ?hnm ?hks ?hls ?hag ?B ?F ?X ?N ?T ?k ?d ?u ?_; (case F | N | B => k_asm); (case off | hi => with_reducible assumption); (case sc => k_mem); (case hl | hi0 | hg | hops | hlen | hlk | hnm | hks | hls | hag => with_reducible assumption); (case X | T => k_asm); (case k => walk_at "m k"); (case d => ktr_room); (case u => ktr_units); k_whole); intro _ _ _ _ _ _ _ _; (try k_fold)))
local macro_rules | `(tactic| walk_at "call ref") => `(tactic| (k_here; k_dflt ((with_reducible show wpAny _ _ (call (Value.ref 153) _) _ _ _); refine' c_law_good ?hc ?off ?sc ?hi ?hl ?hi0 ?B ?F ?X ?N ?T ?k ?d ?u ?_; (case F | N | B => k_asm); (case hc | off | hi => with_reducible assumption); (case sc => k_mem); (case hl | hi0 => with_reducible assumption); (case X | T => k_asm); (case k => walk_at "m k"); (case d => ktr_room); (case u => ktr_units); k_whole); intro _ _ _ _ _ _ _ _ _ _ _ _ _ _ _; (try k_fold)))
local macro_rules | `(tactic| walk_at "call builtin:len") => `(tactic| (k_here; k_dflt ((with_reducible show wpAny _ _ (call (Value.builtin "len") [Value.ref _]) _ _ _); refine' len_strs ?N ?m ?s ?z ?_; (case N => k_asm); (case s => with_reducible assumption); (case m => k_mem); (case z => with_reducible assumption); k_whole); intro _ _))
local macro_rules | `(tactic| walk_at "call type:tuple") => `(tactic| (k_here; refine' HoldS.go ?_; k_whole))
local macro_rules | `(tactic| walk_at "storeName") => `(tactic| (k_here; k_dflt (refine' store_cell ?F ?N ?m ?o ?c ?d ?_ ?a ?b; (case a | b => rfl); (case F | N => k_asm); (case c => rfl); (case m | o | d => with_reducible assumption); k_whole); intro _ _ _ _ _ _))
local macro_rules | `(tactic| walk_at "subscriptTail") => `(tactic| (k_here; k_dflt ((with_reducible show wpAny _ _ (subscriptTail _ _ (Value.ref _) (Value.int _ _)) _ _ _); refine' item_strs_at ?N ?m ?s ?z ?h0 ?h1 ?_ ?q ?g; (case N => k_asm); (case s => with_reducible assumption); (case m => k_mem); (case z | h0 | h1 => with_reducible assumption); (case q | g => walk_at "m q"); k_whole); intro _ _ _))
local macro_rules | `(tactic| walk_at "call ref") => `(tactic| (k_here; k_dflt ((with_reducible show wpAny _ _ (call (Value.ref 124) _) _ _ _); refine' c_check_row ?S ?m ?kv ?v ?lo ?B ?F ?X ?N ?T ?k ?d ?u ?raise ?_; (case F | N => k_asm); (case m => k_mem); (case kv | v | S | lo => with_reducible assumption); (case B | X | T => k_asm); (case k => walk_at "m k"); (case d => ktr_room); (case u => ktr_units); (case raise => exact fun h => absurd rfl h); k_whole); intro _ _ _ _ _; (try k_fold)))
theorem top : PySem.Challenge.rw_rr0015_01.Holds := hd (by
  k_fill
  intro w s₀ s₁ mg mb G Y fa o pm cd doc dV kV ho hd₀ hcd hD₀ hmg hg args vals as hpre hlay hrd hwl hlo
  have KX := kIn_of Y
  have X₀ := (Ground.X G).1
  have GL := glob_more (Ground.glob G (by decide +kernel) (by decide +kernel)) (Ground.X G).2
  refine Ground.open G ?_
  intro T₀ B₀ D₀ TE TW
  try (refine guard_noD D₀ (by decide +kernel) ?_; clear D₀)
  obtain ⟨_, _, M₀⟩ := bmod_of_top T₀
  have TA := at_of_top T₀
  try (obtain ⟨_, _, he, B1⟩ := based_of_top T₀ rfl hmg ho hd₀; have he' : cd = _ := he; subst he'; clear he)
  clear hmg
  wrow_args hpre hlay hrd hwl hlo
  all_goals (
    first | refine callC_kw (enter_call ?_) | refine enter_call ?_ | refine callC_kw (enter_callW ?_) | refine enter_callW ?_
    w_top on
    try refine codeAny_mono ?_ (fun _ _ g => GoodW.toG g)
    have K0 := below_caller (Top.heap T₀)
    w_call any ho hd₀ hcd hD₀ T₀ F₀
    clear hd₀ TA
    k_drop)
  all_goals try k_fold
  k_steps
  rename News _ _ _ _ => lN
  rename Fr _ _ _ _ => lF
  rename LstVals _ _ _ => hLv
  rename ∀ p : Addr × Obj, p ∈ _ → p.1 ≠ _ => lne
  rename ∀ q : Addr × Obj, q ∈ _ → ∀ p : Addr × Obj, p ∈ _ → p.1 ≠ q.1 => lfr
  rename _ < _ ∧ _ < _ ∧ _ < _ => l1
  rename _ < _ ∧ _ < _ => l2
  obtain ⟨N1, netb, offml, hcm, offc⟩ := law_start lN lne lfr l1 l2 (Nat.lt_succ_self _)
  clear lN lne lfr l1 l2
  refine loop_T ["name"] (fun i => tblAt i 0) lF N1 empty_dict .nil (fun q hq => by rw [List.mem_singleton.mp hq]; exact .tail _ (.tail _ (.tail _ (.tail _ (.head _))))) (srcG_dic rfl N1 (by assumption) (.tail _ (.tail _ (.tail _ (.tail _ (.tail _ (.head _)))))) (by assumption)) ?_ ?_
  · rintro i v m₁ o₁ k₁ I oI h₁ tk₁ hi ⟨K, x, tok, hkx, rfl⟩ hd₁ hv₁ ne₁ F₁ N₂
    obtain ⟨aN, nN, vsN, names, hfi, hval, hmN, hsN⟩ := forms_at hLv hkx
    simp only [List.foldr_cons, List.foldr_nil] at F₁
    generalize m₁ "name" = u1 at F₁
    have neI := off_tab (oI := oI) ne₁ netb
    clear lF
    k_steps
    have hlen : names.length = vsN.length := (strsAre_len hsN).symm
    refine loop_T [] (fun j => tblAt i j) F₁ (swapN N₂) hd₁ hv₁ (fun q hq => by rw [List.mem_singleton.mp hq]; exact .tail _ (.tail _ (.tail _ (.tail _ (.tail _ (.tail _ hmN)))))) (srcG_list rfl (swapN N₂) (.tail _ (.tail _ (.tail _ (.tail _ (.tail _ (.tail _ (.tail _ hmN)))))))) ?_ ?_
    · rintro j v m₂ o₂ k₂ I₂ oI₂ h₂ tk₂ hj hvj hd₂ hv₂ ne₂ F₂ N₃
      obtain ⟨nm, tn, rfl, hnj⟩ := strs_get hsN hvj
      have hnew := tblAt_new hfi hnj
      have neI₂ := off_tab (oI := oI₂) ne₂ neI
      have N₄ := swapN N₃
      simp only [List.foldr_nil] at F₂
      clear N₃ F₁ N₂
      k_steps
      rename News _ _ _ _ => lN
      with_unfolding_all refine TurnI.tab (by k_asm) lN ne₂ (by assumption) (by rw [tblAt_step hfi hnj]; assumption) fun y hy1 hy2 => ?_
      simp only [if_neg hy1]
    · intro m₂ o₂ k₂ h₂ tk₂ hd₂ hv₂ F₂ N₃
      rw [← hlen, tblAt_whole hfi] at hv₂
      simp only [List.foldr_cons, List.foldr_nil] at F₂
      generalize m₂ "name" = u2 at F₂
      clear F₁ N₂
      k_steps
      with_unfolding_all refine TurnI.tab (by k_asm) N₃ ne₁ hd₂ hv₂ fun y hy1 hy2 => ?_
      have hy3 : ¬ y = Str.ofString "name" := fun e => hy2 (by rw [e]; exact .head _)
      simp only [if_neg hy1, if_neg hy3]
  · intro m₁ o₁ k₁ h₁ tk₁ hd₁ hv₁ F₁ N₂
    have hlen := hLv.length
    rw [show formsT.length = 17 from rfl] at hlen
    rw [hlen, tblAt_full] at hv₁
    simp only [List.foldr_cons, List.foldr_nil] at F₁
    generalize m₁ "kinds" = u1 at F₁
    generalize m₁ "name" = u2 at F₁
    clear lF N1
    k_steps
    rename News _ _ _ _ => lN
    rename Fr _ _ _ _ => lF
    obtain ⟨N3, offml', offc'⟩ := law_led lN netb offml offc
    clear lN netb offml offc
    have hws : (List.take 90 _).length ≤ 63 := Nat.le_trans (by assumption) (Nat.le_of_not_lt fun h => (by assumption : ¬ _ < _) (by exact_mod_cast h))
    refine loop_L ["name", "good"] lF N3 (by assumption) (Int.le_refl 0) (fun q hq => by rw [List.mem_singleton.mp hq]; exact .tail _ (.tail _ (.tail _ (.head _)))) (srcG_dic rfl N3 (by assumption) (.tail _ (.tail _ (.tail _ (.tail _ (.tail _ (.head _)))))) (by assumption)) ?_ ?_
    · rintro j v m₂ oc vc i t k I oI h₂ tk₂ hj ⟨K, x, tok, hkx, rfl⟩ hdc hi₂ ne₂ F₂ N₄
      obtain ⟨aN, nN, vsN, names, hfi, hval, hmN, hsN⟩ := forms_at hLv hkx
      obtain ⟨hpos, hle, hFew, hLets, hnames⟩ := name_facts hfi
      have hle' := HoldS.mk hle
      have hpos' : (0 : Int) < names.length := by exact_mod_cast hpos
      have hle2 : (names.length : Int) ≤ 1000 := Int.le_trans (show (names.length : Int) ≤ (100 : Nat) by exact_mod_cast hle) (by decide)
      have offm₂ := off_two (oI := oI) (oc := oc) ne₂ hcm offml'
      have offc₂ := off_two' (oI := oI) ne₂ offc'
      simp only [List.foldr_cons, List.foldr_nil] at F₂
      generalize m₂ "name" = u3 at F₂
      generalize m₂ "good" = u4 at F₂
      clear lF N3 hle hpos
      k_steps
      rename News _ _ _ _ => lN
      rename Fr _ _ _ _ => lF
      rename ∀ p : Addr × Obj, p ∈ _ → p.1 ≠ _ => lo
      rename _ < _ ∧ _ < _ ∧ _ => l1
      rename _ ∈ names => hnm
      rename Obj.data _ = Data.cell (some (Value.bool _)) => hlk
      obtain ⟨hsh, htb, hln⟩ := hnames _ hnm
      obtain ⟨b, hb⟩ := cellB hlk
      clear hlk
      have offb := off_head lN l1.1 lo
      have hK4 : K.cps.size ≤ 4 := hFew
      refine ⟨K.cps.size, SignAt K, fun _ => True, _, Nat.le_trans hK4 (by decide), lF, swapN lN, trivial, iterates_str rfl, fun g tk => rest_goods (l := b) (by assumption) offb ?_ ?_⟩
      · rintro c u led i₃ t₃ n₃ C m₃ h₃ tk₃ E' I₃ oI₃ oC D₃ ys made ⟨jc, hc⟩ hC hx hi₃ rfl offl F₃ N₅
        have hcl := hLets jc c hc
        clear lN lF lo
        k_steps
        rename News _ _ _ _ => lN5
        rename Den _ _ _ => hden
        rename isOp _ _ _ = true => ho1
        rename fits _ _ _ = true => ho2
        exact ⟨_, _, _, _, _, _, _, rfl, by assumption, by k_asm, lN5, by assumption, hden, ho1, ho2⟩
      · intro ys ds made i₃ t₃ n₃ hi₃ hD hdl hgood hmade D₃ h₃ tk₃ F₃ N₅ off₃
        have hys : ys.length ≤ 4 := by rw [hD.length, hdl]; exact hK4
        clear lN lF
        k_steps
        refine HoldS.mk (list_cat F₃ N₅ (.tail _ (.tail _ (List.mem_append_right _ (.head _)))) (.head _) (by simp) (by omega) ?_)
        intro D₄ h₄ F₄ N₆
        clear F₃ N₅
        k_steps
        refine HoldS.mk (tuple_of (by k_asm) N₆ (.head _) (by simp; omega) ?_)
        intro D₅ h₅ F₅ N₇ hlt
        obtain ⟨N₈, off₈⟩ := good_led N₇ hlt hmade offb
        clear N₆ N₇ hlt F₄ off₃
        obtain ⟨S1, S2, hg₅, hops, hdl', hag⟩ := row_facts N₈ hD hdl hK4 hgood hsh htb hln hFew
        k_steps
        rename News _ _ _ _ => lN
        with_unfolding_all refine TurnI.lnk (by k_asm) lN (.head _) (.tail _ (.tail _ (List.mem_append_right _ (.head _)))) (.tail _ (.tail _ (List.mem_append_right _ (.tail _ (.head _))))) (fun p hp => .tail _ (.tail _ (List.mem_append_right _ (.tail _ (.tail _ hp))))) hb (by assumption) ne₂ fun y hy1 hy2 => ?_
        have hy3 : ¬ y = Str.ofString "name" := fun e => hy2 (by rw [e]; simp)
        have hy4 : ¬ y = Str.ofString "good" := fun e => hy2 (by rw [e]; simp)
        simp only [if_neg hy1, if_neg hy3, if_neg hy4]
    · intro m₂ oc vc i t k h₂ tk₂ hdc hi₂ F₂ N₄
      simp only [List.foldr_cons, List.foldr_nil] at F₂
      generalize m₂ "kinds" = u3 at F₂
      generalize m₂ "name" = u4 at F₂
      generalize m₂ "good" = u5 at F₂
      clear lF N3
      k_steps
      rename News _ _ _ _ => lN
      rename Fr _ _ _ _ => lF
      have hbad := bad_tie lN (by
        unfold badL
        exact .cons (.el (.tup (by repeat (first | exact List.Mem.head _ | refine List.Mem.tail _ ?_)) (by simp) .nil)) (.cons (.lst (by repeat (first | exact List.Mem.head _ | refine List.Mem.tail _ ?_))) (.cons (.el .none) (.cons (.el (.int _ _)) (.cons (.el (.str _ _)) (.cons (.lst (by repeat (first | exact List.Mem.head _ | refine List.Mem.tail _ ?_))) (.cons (.el (.tup (by repeat (first | exact List.Mem.head _ | refine List.Mem.tail _ ?_)) (by simp) (.cons (.int _ _) .nil))) (.cons (.el (.tup (by repeat (first | exact List.Mem.head _ | refine List.Mem.tail _ ?_)) (by simp) (.cons .none (.cons (.int _ _) .nil)))) .nil))))))))
      refine loop_I [] (fun _ nw => nw = _) lF lN rfl (fun j nw hv q hq => by rw [hv, List.mem_singleton.mp hq]; exact .head _) (srcG_list rfl lN (.head _)) ?_ ?_
      · rintro j v m₃ nw I oI h₃ tk₃ hj hv rfl ne₃ F₃ N₅
        have S := (bad_says hbad (List.mem_of_getElem? hv)).mono (fun p hp => List.Mem.tail (I, oI) hp)
        simp only [List.foldr_nil] at F₃
        clear lN lF
        k_steps
        rename News _ _ _ _ => lN5
        with_unfolding_all refine TurnI.next (by k_asm) lN5 (fun p hp => hp) ne₃ rfl fun y hy1 hy2 => ?_
        simp only [if_neg hy1]
      · rintro m₃ nw h₃ tk₃ rfl F₃ N₅
        simp only [List.foldr_cons, List.foldr_nil] at F₃
        generalize m₃ "row" = u6 at F₃
        clear lN lF
        k_steps)
end Mine
theorem PySem.Challenge.cw_rr0015_01_holds : PySem.Challenge.rw_rr0015_01.Holds := by
  exact Mine.top
