import PyProof.Rows.All
import Wide.All
import OpenK.AllK
import Wide.FinOn
import PySem.Challenge.RW_qz0015_01
open PySem PySem.W PySem.Calls PySem.Spec PyProof.Rows
set_option Elab.async false
set_option maxRecDepth 100000
set_option maxHeartbeats 40000000
namespace Mine
section
local macro_rules | `(tactic| o_head $_) => `(tactic| assumption)
theorem hd : PySem.Challenge.rw_qz0015_01.row.Holds → PySem.Challenge.rw_qz0015_01.row.Holds := by
  intro h
  k_head
end
local macro_rules | `(tactic| walk_at $s:str) => `(tactic| k_extra $s)
local macro_rules | `(tactic| k_mem) => `(tactic| k_extra "k_mem")
local macro_rules | `(tactic| k_get) => `(tactic| k_extra "k_get")
local macro_rules | `(tactic| k_ne) => `(tactic| k_extra "k_ne")
local macro_rules | `(tactic| k_all) => `(tactic| k_extra "k_all")
local macro_rules | `(tactic| ktd_rel) => `(tactic| k_extra "ktd_rel")
local macro_rules | `(tactic| ktr_rel) => `(tactic| k_extra "ktr_rel")
example : (hd.heap_1, PySem.Challenge.rw_qz0015_01) = (hd.heap_1, PySem.Challenge.rw_qz0015_01) := by
  k_fill
  rfl
section
-- nofill
abbrev Led := List (Addr × Obj)
abbrev ar (dp un : Nat) (gd : Option (List Code)) (env : Env) (outer : List Env) : Around := { handled := none, depth := dp, frames := some (env :: outer), guards := gd, units := un }

/-- a def, called with these arguments upon this ledger, comes back, and what it gives is told by Post -/
def Does (prog : Program) (w : World) (f : Addr) (args : List Value) (dd uu : Nat) (news : Led) (Post : Value → Led → Prop) : Prop :=
  ∀ (p : Program) (loose : List Str) (mean : ExcName → Option Value) (mg mb : Str → Option Value)
    (dp un : Nat) (gd : Option (List Code)) (env : Env) (outer : List Env) (A₀ : Around) (base h₀ : Heap) (L : Addr) (m : Str → Option Value) (s : Shared) (R : Result → Shared → Prop),
    Below A₀ base outer h₀ → Fr h₀ L s.heap m → (hd.heap_1 w.params).In h₀ → News h₀ L s.heap news → Top p loose mean mg mb h₀ → env.frame = some L → env.scope.kind = .function →
    dp + dd < 1000 → un + uu < 9900 →
    (∀ r news' h' tk', Fr h₀ L h' m → News h₀ L h' news' → Post r news' → R (.ok (.ret r)) { s with heap := h', toks := tk' }) →
    codeAny (model prog w) (ar dp un gd env outer) (.call (.ref f) ⟨args, []⟩) R s

def IsT (o : Obj) : Prop := ∃ xs n, o.data = .seq xs n ∧ o.cls = .type "tuple"
theorem notT_cls {o : Obj} (h : o.cls ≠ .type "tuple") : ¬ IsT o := fun ⟨_, _, _, e⟩ => h e
/-- what stays of a ledger where only the objects at S (no tuples) may be turned -/
def Evo (S : List Addr) (news news' : Led) : Prop := ∀ p ∈ news, (p.1 ∈ S → IsT p.2) → p ∈ news'
theorem Evo.refl {S : List Addr} {news : Led} : Evo S news news := fun _ h _ => h
theorem Evo.trans {S : List Addr} {a b c : Led} (x : Evo S a b) (y : Evo S b c) : Evo S a c := fun p h q => y p (x p h q) q
theorem Evo.weaken {S T : List Addr} {a b : Led} (x : Evo S a b) (h : ∀ q ∈ S, q ∈ T) : Evo T a b := fun p hp q => x p hp fun hs => q (h _ hs)
theorem Evo.nil {S : List Addr} {a b : Led} (x : Evo [] a b) : Evo S a b := x.weaken fun _ h => nomatch h
theorem Evo.cons {S : List Addr} {a : Led} {p : Addr × Obj} : Evo S a (p :: a) := fun _ h _ => .tail _ h
theorem Evo.then {S : List Addr} {a b : Led} {p : Addr × Obj} (x : Evo S a b) : Evo S a (p :: b) := fun q h z => .tail _ (x q h z)

def upd (news : Led) (d : Addr) (o' : Obj) : Led := news.map fun p => if p.1 = d then (d, o') else p
theorem mem_upd_self {news : Led} {d : Addr} {o o' : Obj} (h : (d, o) ∈ news) : (d, o') ∈ upd news d o' := List.mem_map.mpr ⟨_, h, by simp⟩
theorem mem_upd_ne {news : Led} {d : Addr} {p : Addr × Obj} {o' : Obj} (h : p ∈ news) (hn : p.1 ≠ d) : p ∈ upd news d o' := List.mem_map.mpr ⟨_, h, by simp [hn]⟩

theorem News.same {h₀ h : Heap} {L a : Addr} {o o' : Obj} {news : Led} (N : News h₀ L h news) (x : (a, o) ∈ news) (y : (a, o') ∈ news) : o = o' := Option.some.inj ((N.get x).symm.trans (N.get y))
theorem News.ne {h₀ h : Heap} {L a b : Addr} {o o' : Obj} {news : Led} (N : News h₀ L h news) (x : (a, o) ∈ news) (y : (b, o') ∈ news) (hne : o ≠ o') : a ≠ b := fun e => hne (News.same N x (e ▸ y))
theorem Evo.upd {h₀ h : Heap} {L d : Addr} {o o' : Obj} {news : Led} (N : News h₀ L h news) (x : (d, o) ∈ news) (hc : ¬ IsT o) : Evo [d] news (upd news d o') := fun p hp q => by
  refine mem_upd_ne hp fun e => ?_
  obtain ⟨b, ob⟩ := p
  obtain rfl : b = d := e
  exact hc (News.same N x hp ▸ q (.head _))

section
variable {prog : Program} {w : World} {K : Type} [DecidableEq K] {knd : KeyKind prog w K} {A : Around} {E : Value → Shared → Prop} {s : Shared} {h₀ : Heap} {L d : Addr} {m : Str → Option Value} {news : Led} {o : Obj} {kvs kvs' : List (K × Value)} {k : K} {key v : Value}
theorem setItem_upd {Q : Unit → Shared → Prop} (F : Fr h₀ L s.heap m) (N : News h₀ L s.heap news) (hp : (d, o) ∈ news) (hd : o.IsDictOf knd kvs) (hkey : knd.is k key = true) (hsz : kvs.length ≤ 1000) (he : stored kvs k v = kvs')
    (h : ∀ h' o', Fr h₀ L h' m → News h₀ L h' (upd news d o') → o'.IsDictOf knd kvs' → Q () { s with heap := h', toks := s.toks + 1 }) : wpAny (model prog w) A (setItem (.ref d) key v) Q E s := by
  have hm := N (d, o) hp
  refine wpAny_setItem_pairs (hsz := by rw [sizeLine_eq]; omega) hkey (Heap.dictOf_iff.mpr ⟨o, hm.1, hd⟩) fun h' hmm hs => ?_
  obtain ⟨o', ho', hd'⟩ := Heap.dictOf_iff.mp hmm
  exact h h' o' (F.change hs hm.2.1 hm.2.2) (News.replace N hs ho') (he ▸ hd')
end
theorem dict_not_tuple {prog : Program} {w : World} {K : Type} [DecidableEq K] {knd : KeyKind prog w K} {o : Obj} {kvs : List (K × Value)} (h : o.IsDictOf knd kvs) : ¬ IsT o := by
  obtain ⟨_, _, hx, _⟩ := h
  exact notT_cls (by rw [hx.1]; decide)
abbrev lstO (vs : List Value) (n : Nat) : Obj := { cls := .type "list", data := .seq vs.toArray n }
abbrev tupO (vs : List Value) (n : Nat) : Obj := { cls := .type "tuple", data := .seq vs.toArray n }
theorem Does.use {prog : Program} {w : World} {f : Addr} {args : List Value} {dd uu : Nat} {news : Led} {Post : Value → Led → Prop} (D : Does prog w f args dd uu news Post)
    {p : Program} {loose : List Str} {mean : ExcName → Option Value} {mg mb : Str → Option Value} {dp un : Nat} {gd : Option (List Code)} {env : Env} {outer : List Env} {A₀ : Around} {base h₀ : Heap} {L : Addr} {m : Str → Option Value} {s : Shared} {Q E : Value → Shared → Prop}
    (B : Below A₀ base outer h₀) (F : Fr h₀ L s.heap m) (X : (hd.heap_1 w.params).In h₀) (N : News h₀ L s.heap news) (T : Top p loose mean mg mb h₀) (hf : env.frame = some L) (hke : env.scope.kind = .function) (hd : dp + dd < 1000) (hu : un + uu < 9900)
    (h : ∀ r news' h' tk', Fr h₀ L h' m → News h₀ L h' news' → Post r news' → Q r { s with heap := h', toks := tk' }) :
    wpAny (model prog w) (ar dp un gd env outer) (call (.ref f) args) Q E s :=
  wpAny_call (D p loose mean mg mb dp un gd env outer A₀ base h₀ L m s _ B F X N T hf hke hd hu fun r news' h' tk' F' N' hp => h r news' h' tk' F' N' hp)
theorem room0 {a c e lim : Nat} (h : a + e < lim) (k : c ≤ e) : a + c < lim := Nat.lt_of_le_of_lt (Nat.add_le_add_left k a) h
theorem room1 {a c d e lim : Nat} (h : a + e < lim) (k : c + d ≤ e) : a + c + d < lim := Nat.add_assoc a c d ▸ room0 h k
theorem Does.on {prog : Program} {w : World} {f : Addr} {args : List Value} {dd uu : Nat} {news : Led} {Post : Value → Led → Prop}
    {p : Program} {loose : List Str} {mean : ExcName → Option Value} {mg mb : Str → Option Value} {dp un : Nat} {gd : Option (List Code)} {env : Env} {outer : List Env} {A₀ : Around} {base h₀ : Heap} {L : Addr} {m : Str → Option Value} {s : Shared} {Q E : Value → Shared → Prop}
    (B : Below A₀ base outer h₀) (F : Fr h₀ L s.heap m) (X : (hd.heap_1 w.params).In h₀) (N : News h₀ L s.heap news) (T : Top p loose mean mg mb h₀) (D : Does prog w f args dd uu news Post) (hf : env.frame = some L) (hke : env.scope.kind = .function) (hd : dp + dd < 1000) (hu : un + uu < 9900)
    (h : ∀ r news' h' tk', Fr h₀ L h' m → News h₀ L h' news' → Post r news' → Q r { s with heap := h', toks := tk' }) :
    wpAny (model prog w) (ar dp un gd env outer) (call (.ref f) args) Q E s := D.use B F X N T hf hke hd hu h
section
variable {prog : Program} {w : World} {A : Around} {E : Value → Shared → Prop} {s : Shared} {h₀ : Heap} {L l : Addr} {news : Led} {vs : List Value} {n : Nat} {k : Int} {u : Tok} {v x y : Value} {value slice : PySem.Expr} {Q : Value → Shared → Prop}
theorem item_at (N : News h₀ L s.heap news) (hm : (l, lstO vs n) ∈ news) (h0 : 0 ≤ k) (hhi : k < 1000000) (hx : vs[k.toNat]? = some v) (h : Q v s)
    (hs : subscripted slice false (.ref l) (.int k u) = operate [.ref l, .int k u] (getItem (.ref l) (.int k u)) := by with_unfolding_all rfl) :
    wpAny (model prog w) A (subscriptTail value slice (.ref l) (.int k u)) Q E s :=
  have hL : s.heap.IsList l vs.toArray := News.isList N hm
  tail_any hL.typeIs slot_list_getitem.lookup (wpAny_getItem_list hL h0 (by omega) (by simpa using hx) h) hs
theorem item_two (N : News h₀ L s.heap news) (hm : (l, lstO [x, y] n) ∈ news) (h0 : 0 ≤ k) (h1 : k ≤ 1) (hx : k = 0 → Q x s) (hy : k = 1 → Q y s)
    (hs : subscripted slice false (.ref l) (.int k u) = operate [.ref l, .int k u] (getItem (.ref l) (.int k u)) := by with_unfolding_all rfl) :
    wpAny (model prog w) A (subscriptTail value slice (.ref l) (.int k u)) Q E s := by
  rcases (by omega : k = 0 ∨ k = 1) with e | e
  · exact item_at N hm h0 (by omega) (by rw [e]; rfl) (hx e) hs
  · exact item_at N hm h0 (by omega) (by rw [e]; rfl) (hy e) hs
end
end
section
-- nofill
/-- the law's shapes -/
inductive Sh where
  | c (i : Nat) | tt | ff | neg (a : Sh) | con (a b : Sh) | dis (a b : Sh)
deriving DecidableEq
def Sh.dp : Sh → Nat
  | .c _ => 1 | .tt => 1 | .ff => 1
  | .neg a => a.dp + 1
  | .con a b => max a.dp b.dp + 1
  | .dis a b => max a.dp b.dp + 1
def Sh.negs : Nat → Sh → Sh
  | 0, a => a
  | n + 1, a => .neg (Sh.negs n a)
theorem Sh.negs_succ (n : Nat) (a : Sh) : Sh.negs n (.neg a) = .neg (Sh.negs n a) := by
  induction n with
  | zero => rfl
  | succ n ih => rw [Sh.negs, ih, Sh.negs]
theorem Sh.dp_negs (n : Nat) (a : Sh) : (Sh.negs n a).dp = a.dp + n := by
  induction n with
  | zero => rfl
  | succ n ih => rw [Sh.negs, Sh.dp, ih]; omega
inductive ShIn (news : Led) : Value → Sh → Prop where
  | c {a : Addr} {i : Nat} {t u : Tok} {n : Nat} : (a, tupO [.str "c" t, .int i u] n) ∈ news → i < 3 → ShIn news (.ref a) (.c i)
  | tt {a : Addr} {t : Tok} {n : Nat} : (a, tupO [.str "true" t] n) ∈ news → ShIn news (.ref a) .tt
  | ff {a : Addr} {t : Tok} {n : Nat} : (a, tupO [.str "false" t] n) ∈ news → ShIn news (.ref a) .ff
  | neg {a : Addr} {t : Tok} {n : Nat} {v : Value} {x : Sh} : (a, tupO [.str "not" t, v] n) ∈ news → ShIn news v x → ShIn news (.ref a) (.neg x)
  | con {a : Addr} {t : Tok} {n : Nat} {v u : Value} {x y : Sh} : (a, tupO [.str "and" t, v, u] n) ∈ news → ShIn news v x → ShIn news u y → ShIn news (.ref a) (.con x y)
  | dis {a : Addr} {t : Tok} {n : Nat} {v u : Value} {x y : Sh} : (a, tupO [.str "or" t, v, u] n) ∈ news → ShIn news v x → ShIn news u y → ShIn news (.ref a) (.dis x y)
theorem Evo.tup {S : List Addr} {news news' : Led} {a : Addr} {vs : List Value} {n : Nat} (h : Evo S news news') (x : (a, tupO vs n) ∈ news) : (a, tupO vs n) ∈ news' := h _ x fun _ => ⟨_, _, rfl, rfl⟩
theorem ShIn.mono {S : List Addr} {news news' : Led} {v : Value} {x : Sh} (h : Evo S news news') (s : ShIn news v x) : ShIn news' v x := by
  induction s with
  | c m l => exact .c (h.tup m) l
  | tt m => exact .tt (h.tup m)
  | ff m => exact .ff (h.tup m)
  | neg m _ ih => exact .neg (h.tup m) ih
  | con m _ _ i j => exact .con (h.tup m) i j
  | dis m _ _ i j => exact .dis (h.tup m) i j
theorem ShIn.ref {news : Led} {v : Value} {x : Sh} (s : ShIn news v x) : ∃ a, v = .ref a := by cases s <;> exact ⟨_, rfl⟩
def Sh.bare : Sh → Sh
  | .neg a => a.bare
  | x => x
/-- the number of negations ahead is odd -/
def Sh.par : Sh → Bool
  | .neg a => !a.par
  | _ => false
end
section
/-- the law's source of numbers -/
def Feed (prog : Program) (w : World) (news : Led) (fd lst : Addr) (k : Nat) : Prop :=
  ∃ o vs ns n tk, (fd, o) ∈ news ∧ o.IsDictOf (strKind prog w) [("cells", .ref lst), ("spot", .int k tk)] ∧ (lst, lstO vs n) ∈ news ∧ IntsAre vs ns ∧ vs.length ≤ 100 ∧ lst ≠ fd
theorem feed_set {prog : Program} {w : World} {A : Around} {E : Value → Shared → Prop} {s : Shared} {h₀ : Heap} {L d : Addr} {m : Str → Option Value} {news : Led} {o : Obj} {a b v : Value} {t : Tok} {Q : Unit → Shared → Prop}
  (F : Fr h₀ L s.heap m) (N : News h₀ L s.heap news) (hp : (d, o) ∈ news) (hd : o.IsDictOf (PySem.strKind prog w) [("cells", a), ("spot", b)])
  (h : ∀ h' o', Fr h₀ L h' m → News h₀ L h' (upd news d o') → o'.IsDictOf (PySem.strKind prog w) [("cells", a), ("spot", v)] → Q () { s with heap := h', toks := s.toks + 1 }) :
  wpAny (model prog w) A (setItem (.ref d) (.str "spot" t) v) Q E s :=
  setItem_upd F N hp hd (strKind_is _ _ _ _) (Nat.le_of_ble_eq_true rfl) (by rfl) h
example : True := by
  k_with_none
  (k_with "k_ne" => (refine neN ?_; (try dsimp only); first | exact Nat.ne_of_gt (by with_reducible assumption) | exact Nat.ne_of_lt (by with_reducible assumption) | exact Nat.ne_of_gt (And.left (by with_reducible assumption)) | exact Nat.ne_of_lt (And.left (by with_reducible assumption)) | exact Nat.ne_of_gt (And.left (And.right (by with_reducible assumption))) | exact Nat.ne_of_lt (And.left (And.right (by with_reducible assumption))) | exact Nat.ne_of_gt (And.left (And.right (And.right (by with_reducible assumption)))) | exact Nat.ne_of_lt (And.left (And.right (And.right (by with_reducible assumption)))) | exact Nat.ne_of_gt (And.left (And.right (And.right (And.right (by with_reducible assumption))))) | exact Nat.ne_of_lt (And.left (And.right (And.right (And.right (by with_reducible assumption))))) | exact Nat.ne_of_gt (And.left (And.right (And.right (And.right (And.right (by with_reducible assumption)))))) | exact Nat.ne_of_gt (And.left (And.right (And.right (And.right (And.right (And.right (by with_reducible assumption))))))) | exact Nat.ne_of_gt (And.left (And.right (And.right (And.right (And.right (And.right (And.right (by with_reducible assumption)))))))) | exact Nat.ne_of_gt (And.left (And.right (And.right (And.right (And.right (And.right (And.right (And.right (by with_reducible assumption))))))))) | exact Nat.ne_of_gt (And.left (And.right (And.right (And.right (And.right (And.right (And.right (And.right (And.right (by with_reducible assumption)))))))))) | exact Nat.ne_of_gt (And.left (And.right (And.right (And.right (And.right (And.right (And.right (And.right (And.right (And.right (by with_reducible assumption))))))))))) | exact Nat.ne_of_gt (And.left (And.right (And.right (And.right (And.right (And.right (And.right (And.right (And.right (And.right (And.right (by with_reducible assumption)))))))))))) | exact Nat.ne_of_gt (And.left (And.right (And.right (And.right (And.right (And.right (And.right (And.right (And.right (And.right (And.right (And.right (by with_reducible assumption))))))))))))) | exact Nat.ne_of_gt (And.left (And.right (And.right (And.right (And.right (And.right (And.right (And.right (And.right (And.right (And.right (And.right (And.right (by with_reducible assumption))))))))))))))))
  (k_with "k_mem" => first | assumption | exact mem_upd_self (by k_mem) | exact mem_upd_ne (by k_mem) (by assumption))
  (k_with "subscriptTail" => ((with_reducible show wpAny _ _ (subscriptTail _ _ (Value.ref _) (Value.str _ _)) _ _ _); k_dflt (refine kda_item (knd := PySem.strKind _ _) (by k_asm) (by k_mem) (by k_asm) (strKind_is _ _ _ _) (by rfl) ?_)))
  (k_with "setItem ref str" => (k_dflt (refine' feed_set (by k_asm) (by k_asm) (by k_mem) (by k_asm) ?_); intro _ _ _ _ _))
  (k_with "call builtin:len" => ((with_reducible show wpAny _ _ (call (Value.builtin "len") [Value.ref _]) _ _ _); k_dflt (refine' len_list (by exact News.isList (by k_asm) (by k_mem)) (by (simp only [List.size_toArray]; omega)) ?_)))
  trivial
theorem next_ok {prog : Program} {w : World} {fd lst : Addr} {news : Led} {k tm : Nat} {many : Int}
   (hF : Feed prog w news fd lst k) (hk : k < 1000) (hm : 0 < many) :
   Does prog w 555 [.ref fd, .int many tm] 2 10 news (fun r news' => ∃ (v : Nat) (t : Tok), r = .int v t ∧ (v : Int) < many ∧ Feed prog w news' fd lst (k + 1) ∧ Evo [fd] news news') := by
  obtain ⟨o, vs, ns, n, tk, hfd, ho, hl, hI, hlen, hne⟩ := hF
  unfold Does
  intro p loose mean mg mb dp un gd env outer A₀ base h₀ L m s R B F X N T hf hke hdp hun hret
  refine' code_def B F X N T rfl hf hke ?k6 ?k7 ?k8 ?k9 ?kB ?_ ?c2 ?c3 ?c4 ?c5
  case k6 => k_dflt k_is
  case k7 => k_dflt k_is
  case k8 => show dp < 1000; omega
  case k9 => exact BindsTo.of_eq rfl
  case c5 => decide
  case kB => exact locs rfl
  case c2 => exact rfl
  case c3 => exact rfl
  case c4 => exact rfl
  intro g' L' h' FG' F' N' B' X' T'
  (try dsimp only)
  (try k_fold)
  k_steps
  all_goals
    refine hret _ _ _ _ (by k_asm) (by k_asm) ⟨_, _, congrArg (Value.int · _) (Int.toNat_of_nonneg (Int.fmod_nonneg_of_pos _ hm)).symm, ?_, ⟨_, vs, ns, n, _, mem_upd_self hfd, by assumption, mem_upd_ne hl hne, hI, hlen, hne⟩, Evo.upd N hfd (dict_not_tuple ho)⟩
    rw [Int.toNat_of_nonneg (Int.fmod_nonneg_of_pos _ hm)]
    exact Int.fmod_lt_of_pos _ hm
theorem Feed.cons {prog : Program} {w : World} {news : Led} {fd lst : Addr} {k : Nat} {p : Addr × Obj} (h : Feed prog w news fd lst k) : Feed prog w (p :: news) fd lst k :=
  let ⟨o, vs, ns, n, tk, a, b, c, r⟩ := h; ⟨o, vs, ns, n, tk, .tail _ a, b, .tail _ c, r⟩
theorem Feed.mono {prog : Program} {w : World} {news news' : Led} {fd lst : Addr} {k : Nat} (e : Evo [] news news') (h : Feed prog w news fd lst k) : Feed prog w news' fd lst k :=
  let ⟨o, vs, ns, n, tk, a, b, c, r⟩ := h; ⟨o, vs, ns, n, tk, e _ a (fun z => nomatch z), b, e _ c (fun z => nomatch z), r⟩
end
section
theorem UnrEnd_drop1 {h₀ : Heap} {L I D : Addr} {it o : Obj} {rest : (Str → Option Value) → Led → Prop} {s₁ : Shared} {h' : Heap} {tk : Nat} {m' : Str → Option Value} {l : Led}
    (F : Fr h₀ L h' m') (N : News h₀ L h' ((D, o) :: (I, it) :: l)) (hc : o ≠ it) (off : ∀ p ∈ l, p.1 ≠ I) (r : rest m' ((D, o) :: l)) : UnrEnd h₀ L s₁ I it rest { s₁ with heap := h', toks := tk } :=
  UnrEnd.intro F N ((D, o) :: l) (fun p hp => by
    rcases List.mem_cons.mp hp with rfl | hp
    · exact .tail _ (.head _)
    · rcases List.mem_cons.mp hp with rfl | hp
      · exact .head _
      · exact .tail _ (.tail _ hp)) (fun p hp => by
    rcases List.mem_cons.mp hp with rfl | hp
    · exact News.ne N (.head _) (.tail _ (.head _)) hc
    · exact off p hp) r
theorem tup_ne_itR {vs : List Value} {n : Nat} {x l : Int} : tupO vs n ≠ itR x l := fun e => absurd (show Value.type "tuple" = Value.type "range_iterator" from congrArg Obj.cls e) (by decide)
theorem off_lt {l : Led} {I : Addr} (h : ∀ p ∈ l, p.1 < I) : ∀ p ∈ l, p.1 ≠ I := fun p hp => Nat.ne_of_lt (h p hp)
theorem off_cons {l : Led} {I D : Addr} {o : Obj} (hd : D ≠ I) (h : ∀ p ∈ l, p.1 ≠ I) : ∀ p ∈ (D, o) :: l, p.1 ≠ I := List.forall_mem_cons.mpr ⟨hd, h⟩
example : True := by
  k_with_none
  (k_with "k_ne" => (refine neN ?_; (try dsimp only); first | exact Nat.ne_of_gt (by with_reducible assumption) | exact Nat.ne_of_lt (by with_reducible assumption) | exact Nat.ne_of_gt (And.left (by with_reducible assumption)) | exact Nat.ne_of_lt (And.left (by with_reducible assumption)) | exact Nat.ne_of_gt (And.left (And.right (by with_reducible assumption))) | exact Nat.ne_of_lt (And.left (And.right (by with_reducible assumption))) | exact Nat.ne_of_gt (And.left (And.right (And.right (by with_reducible assumption)))) | exact Nat.ne_of_lt (And.left (And.right (And.right (by with_reducible assumption)))) | exact Nat.ne_of_gt (And.left (And.right (And.right (And.right (by with_reducible assumption))))) | exact Nat.ne_of_lt (And.left (And.right (And.right (And.right (by with_reducible assumption))))) | exact Nat.ne_of_gt (And.left (And.right (And.right (And.right (And.right (by with_reducible assumption)))))) | exact Nat.ne_of_gt (And.left (And.right (And.right (And.right (And.right (And.right (by with_reducible assumption))))))) | exact Nat.ne_of_gt (And.left (And.right (And.right (And.right (And.right (And.right (And.right (by with_reducible assumption)))))))) | exact Nat.ne_of_gt (And.left (And.right (And.right (And.right (And.right (And.right (And.right (And.right (by with_reducible assumption))))))))) | exact Nat.ne_of_gt (And.left (And.right (And.right (And.right (And.right (And.right (And.right (And.right (And.right (by with_reducible assumption)))))))))) | exact Nat.ne_of_gt (And.left (And.right (And.right (And.right (And.right (And.right (And.right (And.right (And.right (And.right (by with_reducible assumption))))))))))) | exact Nat.ne_of_gt (And.left (And.right (And.right (And.right (And.right (And.right (And.right (And.right (And.right (And.right (And.right (by with_reducible assumption)))))))))))) | exact Nat.ne_of_gt (And.left (And.right (And.right (And.right (And.right (And.right (And.right (And.right (And.right (And.right (And.right (And.right (by with_reducible assumption))))))))))))) | exact Nat.ne_of_gt (And.left (And.right (And.right (And.right (And.right (And.right (And.right (And.right (And.right (And.right (And.right (And.right (And.right (by with_reducible assumption))))))))))))))))
  (k_with "UnrEnd" => (k_dflt (refine' UnrEnd_drop1 (by k_asm) (by k_asm) (by exact tup_ne_itR) (by repeat (first | exact off_lt (by assumption) | refine off_cons (News.ne (by assumption) (by k_mem) (by k_mem) tup_ne_itR) ?_)) ?_)))
  trivial
theorem denied_ok {prog : Program} {w : World} {news : Led} {v : Value} {x : Sh} {many : Int} {tm : Nat} (hv : ShIn news v x) (h0 : 0 ≤ many) (hm : many ≤ 3) :
   Does prog w 562 [v, .int many tm] 2 10 news (fun r news' => ShIn news' r (Sh.negs many.toNat x) ∧ Evo [] news news') := by
  obtain ⟨a, rfl⟩ := hv.ref
  have hc : many = 0 ∨ many = 1 ∨ many = 2 ∨ many = 3 := by omega
  have fin : ∀ {news' : Led}, Evo [] news news' → ShIn news' (.ref a) x := fun e => hv.mono e
  rcases hc with rfl | rfl | rfl | rfl
  all_goals
    unfold Does
    intro p loose mean mg mb dp un gd env outer A₀ base h₀ L m s R B F X N T hf hke hdp hun hret
    refine' code_def B F X N T rfl hf hke ?k6 ?k7 ?k8 ?k9 ?kB ?_ ?c2 ?c3 ?c4 ?c5
    case k6 => k_dflt k_is
    case k7 => k_dflt k_is
    case k8 => show dp < 1000; omega
    case k9 => exact BindsTo.of_eq rfl
    case c5 => decide
    case kB => exact locs rfl
    case c2 => exact rfl
    case c3 => exact rfl
    case c4 => exact rfl
    intro g' L' h' FG' F' N' B' X' T'
    (try dsimp only)
    (try k_fold)
    k_steps
    all_goals
      refine hret _ _ _ _ (by k_asm) (by k_asm) ⟨?_, ?_⟩
      · show ShIn _ _ (Sh.negs (Int.toNat _) x)
        repeat (first | exact fin (by repeat (first | exact Evo.refl | refine Evo.then ?_)) | refine ShIn.neg (by k_dflt k_mem) ?_)
      · repeat (first | exact Evo.refl | refine Evo.then ?_)
end
section
def use : Nat → Nat
  | 0 => 1
  | f + 1 => 2 * use f + 2
def ShapeDoes (prog : Program) (w : World) (fd lst : Addr) (f : Nat) : Prop :=
  ∀ (news : Led) (k tm : Nat) (z : Int), z = f → Feed prog w news fd lst k → k + use f < 900 →
    Does prog w 569 [.ref fd, .int z tm] (4 + 2 * f) (20 + 10 * f) news (fun r news' => ∃ x k', ShIn news' r x ∧ Feed prog w news' fd lst k' ∧ x.dp ≤ 3 * f + 1 ∧ k' ≤ k + use f ∧ Evo [fd] news news')
example : True := by
  k_with_none
  (k_with "k_ne" => (refine neN ?_; (try dsimp only); first | exact Nat.ne_of_gt (by with_reducible assumption) | exact Nat.ne_of_lt (by with_reducible assumption) | exact Nat.ne_of_gt (And.left (by with_reducible assumption)) | exact Nat.ne_of_lt (And.left (by with_reducible assumption)) | exact Nat.ne_of_gt (And.left (And.right (by with_reducible assumption))) | exact Nat.ne_of_lt (And.left (And.right (by with_reducible assumption))) | exact Nat.ne_of_gt (And.left (And.right (And.right (by with_reducible assumption)))) | exact Nat.ne_of_lt (And.left (And.right (And.right (by with_reducible assumption)))) | exact Nat.ne_of_gt (And.left (And.right (And.right (And.right (by with_reducible assumption))))) | exact Nat.ne_of_lt (And.left (And.right (And.right (And.right (by with_reducible assumption))))) | exact Nat.ne_of_gt (And.left (And.right (And.right (And.right (And.right (by with_reducible assumption)))))) | exact Nat.ne_of_gt (And.left (And.right (And.right (And.right (And.right (And.right (by with_reducible assumption))))))) | exact Nat.ne_of_gt (And.left (And.right (And.right (And.right (And.right (And.right (And.right (by with_reducible assumption)))))))) | exact Nat.ne_of_gt (And.left (And.right (And.right (And.right (And.right (And.right (And.right (And.right (by with_reducible assumption))))))))) | exact Nat.ne_of_gt (And.left (And.right (And.right (And.right (And.right (And.right (And.right (And.right (And.right (by with_reducible assumption)))))))))) | exact Nat.ne_of_gt (And.left (And.right (And.right (And.right (And.right (And.right (And.right (And.right (And.right (And.right (by with_reducible assumption))))))))))) | exact Nat.ne_of_gt (And.left (And.right (And.right (And.right (And.right (And.right (And.right (And.right (And.right (And.right (And.right (by with_reducible assumption)))))))))))) | exact Nat.ne_of_gt (And.left (And.right (And.right (And.right (And.right (And.right (And.right (And.right (And.right (And.right (And.right (And.right (by with_reducible assumption))))))))))))) | exact Nat.ne_of_gt (And.left (And.right (And.right (And.right (And.right (And.right (And.right (And.right (And.right (And.right (And.right (And.right (And.right (by with_reducible assumption))))))))))))))))
  (k_with "call ref" => ((with_reducible show wpAny _ _ (call (Value.ref 555) _ _) _ _ _); k_dflt (refine' Does.on (by k_asm) (by k_asm) (by k_asm) (by k_asm) (by k_asm) (next_ok (by assumption) (by omega) (by decide)) rfl rfl (by (first | exact room1 (by assumption) (by decide) | exact room0 (by assumption) (by decide) | (dsimp only [Around.deeper, Around.under, Around.in1]; omega))) (by (first | exact room1 (by assumption) (by decide) | exact room0 (by assumption) (by decide) | (dsimp only [Around.deeper, Around.under, Around.in1]; omega))) ?_); rintro _ _ _ _ _ _ ⟨_, _, e9, _, _, _⟩; subst e9))
  trivial
theorem shape0 {prog : Program} {w : World} {fd lst : Addr} : ShapeDoes prog w fd lst 0 := by
  unfold ShapeDoes
  intro news k tm z hz hF hk
  subst hz
  unfold Does
  intro p loose mean mg mb dp un gd env outer A₀ base h₀ L m s R B F X N T hf hke hdp hun hret
  refine' code_def B F X N T rfl hf hke ?k6 ?k7 ?k8 ?k9 ?kB ?_ ?c2 ?c3 ?c4 ?c5
  case k6 => k_dflt k_is
  case k7 => k_dflt k_is
  case k8 => show dp < 1000; omega
  case k9 => exact BindsTo.of_eq rfl
  case c5 => decide
  case kB => exact locs rfl
  case c2 => exact rfl
  case c3 => exact rfl
  case c4 => exact rfl
  intro g' L' h' FG' F' N' B' X' T'
  (try dsimp only)
  (try k_fold)
  k_steps
  exact hret _ _ _ _ (by k_asm) (by k_asm) ⟨_, k + 1, .c (.head _) (by omega), Feed.cons (by assumption), Nat.le_refl _, Nat.le_refl _, Evo.then (by assumption)⟩
end
section
example : True := by
  k_with_none
  (k_with "k_ne" => (refine neN ?_; (try dsimp only); first | exact Nat.ne_of_gt (by with_reducible assumption) | exact Nat.ne_of_lt (by with_reducible assumption) | exact Nat.ne_of_gt (And.left (by with_reducible assumption)) | exact Nat.ne_of_lt (And.left (by with_reducible assumption)) | exact Nat.ne_of_gt (And.left (And.right (by with_reducible assumption))) | exact Nat.ne_of_lt (And.left (And.right (by with_reducible assumption))) | exact Nat.ne_of_gt (And.left (And.right (And.right (by with_reducible assumption)))) | exact Nat.ne_of_lt (And.left (And.right (And.right (by with_reducible assumption)))) | exact Nat.ne_of_gt (And.left (And.right (And.right (And.right (by with_reducible assumption))))) | exact Nat.ne_of_lt (And.left (And.right (And.right (And.right (by with_reducible assumption))))) | exact Nat.ne_of_gt (And.left (And.right (And.right (And.right (And.right (by with_reducible assumption)))))) | exact Nat.ne_of_gt (And.left (And.right (And.right (And.right (And.right (And.right (by with_reducible assumption))))))) | exact Nat.ne_of_gt (And.left (And.right (And.right (And.right (And.right (And.right (And.right (by with_reducible assumption)))))))) | exact Nat.ne_of_gt (And.left (And.right (And.right (And.right (And.right (And.right (And.right (And.right (by with_reducible assumption))))))))) | exact Nat.ne_of_gt (And.left (And.right (And.right (And.right (And.right (And.right (And.right (And.right (And.right (by with_reducible assumption)))))))))) | exact Nat.ne_of_gt (And.left (And.right (And.right (And.right (And.right (And.right (And.right (And.right (And.right (And.right (by with_reducible assumption))))))))))) | exact Nat.ne_of_gt (And.left (And.right (And.right (And.right (And.right (And.right (And.right (And.right (And.right (And.right (And.right (by with_reducible assumption)))))))))))) | exact Nat.ne_of_gt (And.left (And.right (And.right (And.right (And.right (And.right (And.right (And.right (And.right (And.right (And.right (And.right (by with_reducible assumption))))))))))))) | exact Nat.ne_of_gt (And.left (And.right (And.right (And.right (And.right (And.right (And.right (And.right (And.right (And.right (And.right (And.right (And.right (by with_reducible assumption))))))))))))))))
  (k_with "call ref" => ((with_reducible show wpAny _ _ (call (Value.ref 555) _ _) _ _ _); k_dflt (refine' Does.on (by k_asm) (by k_asm) (by k_asm) (by k_asm) (by k_asm) (next_ok (by assumption) (by omega) (by decide)) rfl rfl (by (first | exact room1 (by assumption) (by decide) | exact room0 (by assumption) (by decide) | (dsimp only [Around.deeper, Around.under, Around.in1]; omega))) (by (first | exact room1 (by assumption) (by decide) | exact room0 (by assumption) (by decide) | (dsimp only [Around.deeper, Around.under, Around.in1]; omega))) ?_); rintro _ _ _ _ _ _ ⟨_, _, e9, _, _, _⟩; subst e9))
  (k_with "call ref" => ((with_reducible show wpAny _ _ (call (Value.ref 569) _ _) _ _ _); k_dflt (refine' Does.on (by k_asm) (by k_asm) (by k_asm) (by k_asm) (by k_asm) (‹ShapeDoes _ _ _ _ _› _ _ _ _ (by omega) (by first | assumption | exact Feed.cons (by assumption)) (by omega)) rfl rfl (by (first | exact room1 (by assumption) (by decide) | exact room0 (by assumption) (by decide) | (dsimp only [Around.deeper, Around.under, Around.in1]; omega))) (by (first | exact room1 (by assumption) (by decide) | exact room0 (by assumption) (by decide) | (dsimp only [Around.deeper, Around.under, Around.in1]; omega))) ?_); rintro _ _ _ _ _ _ ⟨_, _, _, _, _, _, _⟩))
  (k_with "ktr_rel" => first | assumption | exact ShIn.mono (Evo.cons (S := [])) (by ktr_rel) | exact ShIn.mono (by assumption) (by ktr_rel))
  (k_with "call ref" => ((with_reducible show wpAny _ _ (call (Value.ref 562) _ _) _ _ _); k_dflt (refine' Does.on (by k_asm) (by k_asm) (by k_asm) (by k_asm) (by k_asm) (denied_ok (by ktr_rel) (by omega) (by omega)) rfl rfl (by (first | exact room1 (by assumption) (by decide) | exact room0 (by assumption) (by decide) | (dsimp only [Around.deeper, Around.under, Around.in1]; omega))) (by (first | exact room1 (by assumption) (by decide) | exact room0 (by assumption) (by decide) | (dsimp only [Around.deeper, Around.under, Around.in1]; omega))) ?_); rintro _ _ _ _ _ _ ⟨_, _⟩))
  (k_with "subscriptTail" => ((with_reducible show wpAny _ _ (subscriptTail _ _ (Value.ref _) (Value.int _ _)) _ _ _); k_dflt (refine' item_two (by k_asm) (by k_mem) (by omega) (by omega) ?_ ?_); all_goals intro _))
  (k_with "ktd_rel" => first | exact Evo.refl | assumption | (refine Evo.then ?_; ktd_rel) | (refine Evo.trans ?_ (by assumption); ktd_rel) | (refine Evo.trans ?_ (Evo.nil (by assumption)); ktd_rel))
  trivial
theorem dp_one {x : Sh} {f : Nat} (h : x.dp = 1) : x.dp ≤ 3 * (f + 1) + 1 := by omega
theorem dp_con {a b : Sh} {f : Nat} (h : a.dp ≤ 3 * f + 1) (h' : b.dp ≤ 3 * f + 1) : (Sh.con a b).dp ≤ 3 * (f + 1) + 1 := by simp only [Sh.dp]; omega
theorem dp_dis {a b : Sh} {f : Nat} (h : a.dp ≤ 3 * f + 1) (h' : b.dp ≤ 3 * f + 1) : (Sh.dis a b).dp ≤ 3 * (f + 1) + 1 := by simp only [Sh.dp]; omega
theorem dp_negs {a : Sh} {f : Nat} {z : Int} (h : a.dp ≤ 3 * f + 1) (h' : z ≤ 3) : (Sh.negs z.toNat a).dp ≤ 3 * (f + 1) + 1 := by rw [Sh.dp_negs]; omega
theorem shapeS {prog : Program} {w : World} {fd lst : Addr} {f : Nat} (IH : ShapeDoes prog w fd lst f) : ShapeDoes prog w fd lst (f + 1) := by
  unfold ShapeDoes
  intro news k tm z hz hF hk
  have hp : 0 < z := by omega
  have hu9 : use (f + 1) = 2 * use f + 2 := rfl
  unfold Does
  intro p loose mean mg mb dp un gd env outer A₀ base h₀ L m s R B F X N T hf hke hdp hun hret
  refine' code_def B F X N T rfl hf hke ?k6 ?k7 ?k8 ?k9 ?kB ?_ ?c2 ?c3 ?c4 ?c5
  case k6 => k_dflt k_is
  case k7 => k_dflt k_is
  case k8 => show dp < 1000; omega
  case k9 => exact BindsTo.of_eq rfl
  case c5 => decide
  case kB => exact locs rfl
  case c2 => exact rfl
  case c3 => exact rfl
  case c4 => exact rfl
  intro g' L' h' FG' F' N' B' X' T'
  (try dsimp only)
  (try k_fold)
  k_steps
  · exact hret _ _ _ _ (by k_asm) (by k_asm) ⟨_, _, ShIn.c (List.Mem.head _) (by omega), Feed.cons (by assumption), dp_one rfl, (by omega), (by ktd_rel)⟩
  · exact hret _ _ _ _ (by k_asm) (by k_asm) ⟨_, _, ShIn.tt (List.Mem.head _), Feed.cons (by assumption), dp_one rfl, (by omega), (by ktd_rel)⟩
  · exact hret _ _ _ _ (by k_asm) (by k_asm) ⟨_, _, ShIn.ff (List.Mem.head _), Feed.cons (by assumption), dp_one rfl, (by omega), (by ktd_rel)⟩
  · exact hret _ _ _ _ (by k_asm) (by k_asm) ⟨_, _, (by assumption), Feed.mono (by assumption) (by assumption), dp_negs (by assumption) (by omega), (by omega), (by ktd_rel)⟩
  · exact hret _ _ _ _ (by k_asm) (by k_asm) ⟨_, _, ShIn.con (List.Mem.head _) (by ktr_rel) (by ktr_rel), Feed.cons (by assumption), dp_con (by assumption) (by assumption), (by omega), (by ktd_rel)⟩
  · exact hret _ _ _ _ (by k_asm) (by k_asm) ⟨_, _, ShIn.dis (List.Mem.head _) (by ktr_rel) (by ktr_rel), Feed.cons (by assumption), dp_dis (by assumption) (by assumption), (by omega), (by ktd_rel)⟩
theorem shape_ok {prog : Program} {w : World} {fd lst : Addr} {news : Led} {k tm : Nat} (hF : Feed prog w news fd lst k) (hk : k < 800) :
    Does prog w 569 [.ref fd, .int 2 tm] 8 40 news (fun r news' => ∃ x k', ShIn news' r x ∧ Feed prog w news' fd lst k' ∧ x.dp ≤ 7 ∧ k' ≤ k + 10 ∧ Evo [fd] news news') :=
  shapeS (shapeS shape0) news k tm 2 rfl hF (by simp only [use]; omega)
end
section
def bareJ (x₀ : Sh) (b₀ : Bool) (news : Led) (n : Nat) (m₁ : Str → Option Value) (news₁ : Led) : Prop :=
  ∃ v x b, m₁ (Str.ofString "shape") = some v ∧ m₁ (Str.ofString "is_up") = some (.bool b) ∧ ShIn news₁ v x ∧ x.dp = n ∧ x.bare = x₀.bare ∧ xor b x.par = xor b₀ x₀.par ∧ Evo [] news news₁
example : True := by
  k_with_none
  (k_with "k_ne" => (refine neN ?_; (try dsimp only); first | exact Nat.ne_of_gt (by with_reducible assumption) | exact Nat.ne_of_lt (by with_reducible assumption) | exact Nat.ne_of_gt (And.left (by with_reducible assumption)) | exact Nat.ne_of_lt (And.left (by with_reducible assumption)) | exact Nat.ne_of_gt (And.left (And.right (by with_reducible assumption))) | exact Nat.ne_of_lt (And.left (And.right (by with_reducible assumption))) | exact Nat.ne_of_gt (And.left (And.right (And.right (by with_reducible assumption)))) | exact Nat.ne_of_lt (And.left (And.right (And.right (by with_reducible assumption)))) | exact Nat.ne_of_gt (And.left (And.right (And.right (And.right (by with_reducible assumption))))) | exact Nat.ne_of_lt (And.left (And.right (And.right (And.right (by with_reducible assumption))))) | exact Nat.ne_of_gt (And.left (And.right (And.right (And.right (And.right (by with_reducible assumption)))))) | exact Nat.ne_of_gt (And.left (And.right (And.right (And.right (And.right (And.right (by with_reducible assumption))))))) | exact Nat.ne_of_gt (And.left (And.right (And.right (And.right (And.right (And.right (And.right (by with_reducible assumption)))))))) | exact Nat.ne_of_gt (And.left (And.right (And.right (And.right (And.right (And.right (And.right (And.right (by with_reducible assumption))))))))) | exact Nat.ne_of_gt (And.left (And.right (And.right (And.right (And.right (And.right (And.right (And.right (And.right (by with_reducible assumption)))))))))) | exact Nat.ne_of_gt (And.left (And.right (And.right (And.right (And.right (And.right (And.right (And.right (And.right (And.right (by with_reducible assumption))))))))))) | exact Nat.ne_of_gt (And.left (And.right (And.right (And.right (And.right (And.right (And.right (And.right (And.right (And.right (And.right (by with_reducible assumption)))))))))))) | exact Nat.ne_of_gt (And.left (And.right (And.right (And.right (And.right (And.right (And.right (And.right (And.right (And.right (And.right (And.right (by with_reducible assumption))))))))))))) | exact Nat.ne_of_gt (And.left (And.right (And.right (And.right (And.right (And.right (And.right (And.right (And.right (And.right (And.right (And.right (And.right (by with_reducible assumption))))))))))))))))
  (k_with "eval Name" => (k_dflt (refine' ld (by k_asm) (by assumption) ?_; k_whole)))
  (k_with "subscriptTail" => ((with_reducible show wpAny _ _ (subscriptTail _ _ (Value.ref _) (Value.int _ _)) _ _ _); k_dflt (refine' item_tupleT (by exact News.isTup (by k_asm) (by k_mem)) (by decide) (by decide) (by rfl) (by rfl) ?_; k_whole)))
  trivial
theorem bareJ_neg {x₀ y : Sh} {b₀ b₁ : Bool} {news news₁ : Led} {n k : Nat} {m : Str → Option Value} {u : Value} {a : Addr} {vs : List Value}
    (hs : m (Str.ofString "shape") = some u) (hu : m (Str.ofString "is_up") = some (.bool (!b₁))) (hy : ShIn news₁ u y) (hn : (Sh.neg y).dp = n) (hb : (Sh.neg y).bare = x₀.bare) (hp : xor b₁ (Sh.neg y).par = xor b₀ x₀.par) (he : Evo [] news news₁) :
    ∃ n', n' < n ∧ bareJ x₀ b₀ news n' m ((a, tupO vs k) :: news₁) :=
  ⟨y.dp, hn ▸ Nat.lt_succ_self _, u, y, _, hs, hu, hy.mono (Evo.cons (S := [])), rfl, hb, by rw [← hp, Sh.par]; cases b₁ <;> simp, he.then⟩
theorem bare_step {h₀ h' : Heap} {L : Addr} {s : Shared} {Q : Flow → Shared → Prop} {tk : Nat} {x₀ y : Sh} {b₀ b₁ : Bool} {news news₁ : Led} {n k : Nat} {m : Str → Option Value} {u : Value} {a : Addr} {vs : List Value}
    (F : Fr h₀ L h' m) (N : News h₀ L h' ((a, tupO vs k) :: news₁))
    (hs : m (Str.ofString "shape") = some u) (hu : m (Str.ofString "is_up") = some (.bool (!b₁))) (hy : ShIn news₁ u y) (hn : (Sh.neg y).dp = n) (hb : (Sh.neg y).bare = x₀.bare) (hp : xor b₁ (Sh.neg y).par = xor b₀ x₀.par) (he : Evo [] news news₁) :
    WhileStep2 h₀ L s (bareJ x₀ b₀ news) Q n .next { s with heap := h', toks := tk } :=
  let ⟨n', hlt, hJ⟩ := bareJ_neg hs hu hy hn hb hp he
  ⟨h', tk, m, _, n', rfl, F, N, hlt, hJ⟩
theorem bare_ok {prog : Program} {w : World} {news : Led} {v : Value} {x : Sh} {b : Bool} (hv : ShIn news v x) :
   Does prog w 581 [v, .bool b] 2 10 news (fun r news' => ∃ a u n, r = .ref a ∧ (a, tupO [u, .bool (xor b x.par)] n) ∈ news' ∧ ShIn news' u x.bare ∧ Evo [] news news') := by
  unfold Does
  intro p loose mean mg mb dp un gd env outer A₀ base h₀ L m s R B F X N T hf hke hdp hun hret
  refine' code_def B F X N T rfl hf hke ?k6 ?k7 ?k8 ?k9 ?kB ?_ ?c2 ?c3 ?c4 ?c5
  case k6 => k_dflt k_is
  case k7 => k_dflt k_is
  case k8 => show dp < 1000; omega
  case k9 => exact BindsTo.of_eq rfl
  case c5 => decide
  case kB => exact locs rfl
  case c2 => exact rfl
  case c3 => exact rfl
  case c4 => exact rfl
  intro g' L' h' FG' F' N' B' X' T'
  (try dsimp only)
  (try k_fold)
  walk1
  walk1
  refine While_inv2 (bareJ x b news) F' N' ⟨v, x, b, rfl, rfl, hv, rfl, rfl, rfl, Evo.refl⟩ ?_
  clear F' N'
  rintro n m₁ news₁ h₁ tk₁ F' N' ⟨v, x₁, b₁, hs, hu, hv₁, hn, hb, hp, he⟩
  have hv₂ := hv₁
  have endA : ∀ {a : Addr} {vs : List Value} {k : Nat}, x₁.bare = x₁ → x₁.par = false → (b₁ = xor b x.par) ∧ ShIn ((a, tupO vs k) :: news₁) v x.bare ∧ Evo [] news ((a, tupO vs k) :: news₁) := fun e1 e2 =>
    ⟨by rw [← hp, e2, Bool.xor_false], (hb.symm.trans e1).symm ▸ hv₂.mono (Evo.cons (S := [])), he.then⟩
  cases hv₁
  all_goals (try k_fold)
  all_goals k_steps
  · exact hret _ _ _ _ (by k_asm) (by k_asm) ⟨_, _, 0, rfl, by rw [← (endA (a := 0) (vs := []) (k := 0) rfl rfl).1]; exact List.Mem.head _, (endA rfl rfl).2.1, (endA rfl rfl).2.2⟩
  · exact hret _ _ _ _ (by k_asm) (by k_asm) ⟨_, _, 0, rfl, by rw [← (endA (a := 0) (vs := []) (k := 0) rfl rfl).1]; exact List.Mem.head _, (endA rfl rfl).2.1, (endA rfl rfl).2.2⟩
  · exact hret _ _ _ _ (by k_asm) (by k_asm) ⟨_, _, 0, rfl, by rw [← (endA (a := 0) (vs := []) (k := 0) rfl rfl).1]; exact List.Mem.head _, (endA rfl rfl).2.1, (endA rfl rfl).2.2⟩
  · exact bare_step (by k_asm) (by k_asm) (by rfl) (by rfl) (by assumption) hn hb hp he
  · exact hret _ _ _ _ (by k_asm) (by k_asm) ⟨_, _, 0, rfl, by rw [← (endA (a := 0) (vs := []) (k := 0) rfl rfl).1]; exact List.Mem.head _, (endA rfl rfl).2.1, (endA rfl rfl).2.2⟩
  · exact hret _ _ _ _ (by k_asm) (by k_asm) ⟨_, _, 0, rfl, by rw [← (endA (a := 0) (vs := []) (k := 0) rfl rfl).1]; exact List.Mem.head _, (endA rfl rfl).2.1, (endA rfl rfl).2.2⟩
end
section
-- nofill
abbrev Key := Str × List Int × Int × Int
/-- a bank's key: the tuple (op, args, sort, data) -/
def IsKey (h : Heap) (k : Key) (a : Addr) : Prop :=
  PyData.strOk k.1 = true ∧ ∃ t a2 t2 t3 n vs n2, h.get? a = some (tupO [.str k.1 t, .ref a2, .int k.2.2.1 t2, .int k.2.2.2 t3] n) ∧ h.get? a2 = some (tupO vs n2) ∧ IntsAre vs k.2.1
section
variable {prog : Program} {w : World}
theorem ints_items {vs : List Value} {ns : List Int} (h : IntsAre vs ns) : ItemsAre (intKind prog w) ns vs := by
  induction h with
  | nil => exact .nil
  | cons _ _ _ ih => exact .cons (intKind_is _ _ _ _) ih
theorem ints_tup {h : Heap} {a : Addr} {vs : List Value} {n : Nat} {ns : List Int} (ho : h.get? a = some (tupO vs n)) (hi : IntsAre vs ns) : IsTupleKey (intKind prog w) h ns a :=
  ⟨_, vs.toArray, n, ho, rfl, rfl, by simpa using ints_items hi⟩
def keyHash (prog : Program) (w : World) (k : Key) : Int := reduceHash (Builtin.Tuple.tupleHashOf [hashStr w k.1, tupleKeyHash (intKind prog w) k.2.1, hashInt k.2.2.1, hashInt k.2.2.2])
theorem intsAre_inj {vs : List Value} {a b : List Int} (x : IntsAre vs a) (y : IntsAre vs b) : a = b := by
  induction x generalizing b with
  | nil => cases y; rfl
  | cons _ _ _ ih => cases y with | cons _ _ y => rw [ih y]
theorem key_inj {h : Heap} {a : Addr} {x y : Key} (hx : IsKey h x a) (hy : IsKey h y a) : x = y := by
  obtain ⟨_, t, a2, t2, t3, n, vs, n2, e1, e2, e3⟩ := hx
  obtain ⟨_, t', a2', t2', t3', n', vs', n2', f1, f2, f3⟩ := hy
  rw [e1] at f1
  obtain ⟨x1, x2, x3, x4⟩ := x
  obtain ⟨y1, y2, y3, y4⟩ := y
  have q := Option.some.inj f1
  injection q with _ _ q _
  injection q with q _
  have q' : [Value.str x1 t, .ref a2, .int x3 t2, .int x4 t3] = [Value.str y1 t', .ref a2', .int y3 t2', .int y4 t3'] := by simpa using q
  simp only [List.cons.injEq, Value.str.injEq, Value.ref.injEq, Value.int.injEq, and_true] at q'
  obtain ⟨⟨r1, _⟩, r2, ⟨r3, _⟩, r4, _⟩ := q'
  subst r1 r2 r3 r4
  rw [e2] at f2
  have q := Option.some.inj f2
  injection q with _ _ q _
  injection q with q _
  have q' : vs = vs' := by simpa using q
  subst q'
  have q : x2 = y2 := intsAre_inj e3 f3
  rw [q]
theorem tup_off {h h' : Heap} {a d : Addr} {o : Obj} {es ep} {vs : List Value} {n : Nat} (e : h.get? a = some (tupO vs n)) (ho : h.get? d = some o) (hd : o.data = .dict es ep) (hs : Heap.SameBut d h h') : h'.get? a = some (tupO vs n) := by
  refine (hs.2 a ?_).trans e
  rintro rfl
  rw [e] at ho
  cases ho
  cases hd
theorem key_keeps {h h' : Heap} {k : Key} {a d : Addr} {o : Obj} {es ep} (x : IsKey h k a) (ho : h.get? d = some o) (hd : o.data = .dict es ep) (hs : Heap.SameBut d h h') : IsKey h' k a :=
  let ⟨ok, t, a2, t2, t3, n, vs, n2, e1, e2, e3⟩ := x
  ⟨ok, t, a2, t2, t3, n, vs, n2, tup_off e1 ho hd hs, tup_off e2 ho hd hs, e3⟩
theorem key_hash {A : Around} {E : Value → Shared → Prop} {s : Shared} {k : Key} {a : Addr} {Q : Int → Shared → Prop} (hu : A.units + 5 < cLine) (x : IsKey s.heap k a) (h : Q (keyHash prog w k) { s with toks := s.toks + (k.2.1.length + 5) }) :
    wpAny (model prog w) A (pyHash (.ref a)) Q E s := by
  obtain ⟨ok, t, a2, t2, t3, n, vs, n2, e1, e2, e3⟩ := x
  refine W.pyHash_slot (T := "tuple") ⟨_, e1, rfl⟩ F.slot_tuple_hash F.entry_tuple_hash (F.args_tuple_hash_1 _) (beq_builtin_none _) (.inr (by omega)) ?_
  show wpAny _ _ (Builtin.Tuple.tupleItemsOf (.ref a) >>= _) _ _ s
  refine wpAny_bind (wpAny_tupleItemsOf e1 rfl ?_)
  refine wpAny_bind ?_
  rw [← Array.forIn_toList]
  show wpAny _ _ (forIn [_, _, _, _] _ _) _ _ _
  simp only [List.forIn_cons, List.forIn_nil]
  refine wpAny_bind (wpAny_bind (wpAny_pyHash_str ?_))
  refine wpAny_bind (wpAny_pure (wpAny_pure ?_))
  refine wpAny_bind (wpAny_bind (wpAny_pyHash_tuple (knd := intKind prog w) (s := { s with toks := s.toks + 1 }) (by have := @Around.in1_units A; simp only [Around.in1]; omega) (ints_tup e2 e3) ?_))
  refine wpAny_bind (wpAny_pure (wpAny_pure ?_))
  refine wpAny_bind (wpAny_bind (wpAny_pyHash_int ?_))
  refine wpAny_bind (wpAny_pure (wpAny_pure ?_))
  refine wpAny_bind (wpAny_bind (wpAny_pyHash_int ?_))
  refine wpAny_bind (wpAny_pure (wpAny_pure ?_))
  refine wpAny_pure ?_
  show wpAny _ _ (retInt (Builtin.Tuple.tupleHashOf _)) _ _ _
  refine wpAny_bind (wpAny_mkInt (wpAny_pure ⟨_, _, rfl, ?_⟩))
  have e : s.toks + 1 + (k.2.1.length + 1) + 1 + 1 + 1 = s.toks + (k.2.1.length + 5) := by omega
  simp only [e]
  exact h
def keyData (k : Key) : PyData := .tuple [.str k.1, .tuple (k.2.1.map .int), .int k.2.2.1, .int k.2.2.2]
theorem ints_reads {h : Heap} {vs : List Value} {ns : List Int} (x : IntsAre vs ns) : ReadsAll h vs (ns.map .int) [] := by
  induction x with
  | nil => exact .nil
  | cons _ _ _ ih => exact ReadsAll.cons (Reads.int _ _) ih
theorem key_reads {h : Heap} {k : Key} {a : Addr} (x : IsKey h k a) : Reads h (.ref a) (keyData k) [] := by
  obtain ⟨ok, t, a2, t2, t3, n, vs, n2, e1, e2, e3⟩ := x
  refine Reads.tuple e1 rfl rfl ?_
  exact ReadsAll.cons (Reads.str _ _) (ReadsAll.cons (Reads.tuple e2 rfl rfl (by simpa using ints_reads e3)) (ReadsAll.cons (Reads.int _ _) (ReadsAll.cons (Reads.int _ _) ReadsAll.nil)))
theorem ints_lay (ns : List Int) : PyData.canLayAll0 (ns.map .int) = true ∧ PyData.depthAll (ns.map .int) ≤ 1 := by
  induction ns with
  | nil => simp [PyData.canLayAll0, PyData.depthAll]
  | cons a r ih =>
    simp only [List.map_cons, PyData.canLayAll0, PyData.depthAll, PyData.canLay0, PyData.depth, ih.1]
    exact ⟨rfl, Nat.max_le.mpr ⟨by decide, ih.2⟩⟩
theorem ints_eqv : ∀ a b : List Int, PyData.eqvAll (a.map .int) (b.map .int) = decide (a = b)
  | [], [] => by simp [PyData.eqvAll]
  | [], _ :: _ => by simp [PyData.eqvAll]
  | _ :: _, [] => by simp [PyData.eqvAll]
  | x :: a, y :: b => by
    simp only [List.map_cons, PyData.eqvAll, ints_eqv a b, PyData.eqv]
    rw [Bool.eq_iff_iff]; simp
theorem key_eqv (x y : Key) : PyData.eqv (keyData x) (keyData y) = decide (x = y) := by
  obtain ⟨x1, x2, x3, x4⟩ := x
  obtain ⟨y1, y2, y3, y4⟩ := y
  simp only [keyData, PyData.eqv, PyData.eqvAll, ints_eqv]
  rw [Bool.eq_iff_iff]; simp
theorem key_eq {A : Around} {E : Value → Shared → Prop} {s : Shared} {x y : Key} {a b : Addr} {Q : Bool → Shared → Prop} (hu : A.units + 5 < cLine) (hx : IsKey s.heap x a) (hy : IsKey s.heap y b) (h : Q (decide (x = y)) s) :
    wpAny (model prog w) A (eqBool (.ref a) (.ref b)) Q E s := by
  have lay : ∀ z : Key, PyData.strOk z.1 = true → (keyData z).canLay0 = true ∧ (keyData z).depth ≤ 3 := fun z ok => by
    have q := ints_lay z.2.1
    have q2 := q.2
    simp only [keyData, PyData.canLay0, PyData.canLayAll0, PyData.depth, PyData.depthAll, ok, q.1]
    exact ⟨rfl, by omega⟩
  have l1 := lay x hx.1
  have l2 := lay y hy.1
  have l3 := Nat.min_le_left (keyData x).depth (keyData y).depth
  have l4 := l1.2
  exact SeqAt.eqBoolOverData prog w A E s _ _ _ _ _ _ Q (key_reads hx) (key_reads hy) l1.1 l2.1 (by omega) (by rw [key_eqv]; exact h)
theorem quiet_at {A : Around} {E : Value → Shared → Prop} {s : Shared} {a : Addr} {items : List Value} {n k : Nat} {Q : Bool → Shared → Prop} (ho : s.heap.get? a = some (tupO items n))
    (hall : ∀ v ∈ items, ∀ Q' : Bool → Shared → Prop, Q' true s → wpAny (model prog w) A (eqIsQuiet k v) Q' E s) (h : Q true s) : wpAny (model prog w) A (eqIsQuiet (k + 1) (.ref a)) Q E s := by
  have hT : s.TypeIs (.ref a) "tuple" := ⟨_, ho, rfl⟩
  unfold eqIsQuiet
  refine wpAny_bind (wpAny_specialOf hT F.slot_tuple_eq.lookup ?_)
  show wpAny _ _ (isInstance (.ref a) (.type "tuple") >>= _) _ _ s
  refine wpAny_bind (wpAny_isInstance hT isSubtype_tuple_tuple ?_)
  simp only [Bool.not_true, Bool.false_eq_true, if_false]
  refine wpAny_bind (wpAny_seqItems ho rfl ?_)
  refine wpAny_bind ?_
  show wpAny _ _ (forIn items.toArray _ _) _ _ s
  rw [← Array.forIn_toList]
  refine wpAny_forIn_list _ (fun rest r s' => r.1 = none ∧ s' = s ∧ ∀ v ∈ rest, v ∈ items) _ ?_ ?_ _ _ ⟨rfl, rfl, fun v hv => by simpa using hv⟩
  · rintro v rest r s' ⟨hr, rfl, hin⟩
    refine wpAny_bind (hall v (hin v List.mem_cons_self) _ ?_)
    simp only [Bool.not_true, Bool.false_eq_true, if_false]
    exact wpAny_pure ⟨rfl, rfl, fun u hu' => hin u (List.mem_cons_of_mem _ hu')⟩
  · rintro ⟨r1, r2⟩ s' ⟨hr, rfl, _⟩
    simp only at hr
    subst hr
    exact wpAny_pure h
theorem key_quiet {A : Around} {E : Value → Shared → Prop} {s : Shared} {k : Key} {a : Addr} {Q : Bool → Shared → Prop} (x : IsKey s.heap k a) (h : Q true s) : wpAny (model prog w) A (eqIsQuiet 8 (.ref a)) Q E s := by
  obtain ⟨ok, t, a2, t2, t3, n, vs, n2, e1, e2, e3⟩ := x
  have flat : ∀ {v : Value} {Q' : Bool → Shared → Prop} {j : Nat}, carriedByValue v = true → Q' true s → wpAny (model prog w) A (eqIsQuiet j v) Q' E s := fun hv hq => by rw [eqIsQuiet_byValue _ hv]; exact wpAny_pure hq
  refine quiet_at e1 (fun v hv Q' hq => ?_) h
  simp only [List.mem_cons, List.not_mem_nil, or_false] at hv
  rcases hv with rfl | rfl | rfl | rfl
  · exact flat rfl hq
  · exact quiet_at e2 (fun v hv Q' hq => flat ((ints_items (prog := prog) (w := w) e3).byValue v hv) hq) hq
  · exact flat rfl hq
  · exact flat rfl hq
def keyKind (prog : Program) (w : World) : HeapKind prog w Key where
  is := IsKey
  hash := keyHash prog w
  draws := fun k => k.2.1.length + 5
  room := fun A => A.units + 5 < cLine
  inj := fun hx hy => key_inj hx hy
  keeps := fun x ho hd hs => key_keeps x ho hd hs
  pyHash := fun hu hk h => key_hash hu hk h
  eqBool := fun hu hx hy h => key_eq hu hx hy h
  quiet := fun hk h => key_quiet hk h
end
end
section
-- nofill
def KeyIn (news : Led) (k : Key) (a : Addr) : Prop :=
  PyData.strOk k.1 = true ∧ ∃ t a2 t2 t3 n vs n2, (a, tupO [.str k.1 t, .ref a2, .int k.2.2.1 t2, .int k.2.2.2 t3] n) ∈ news ∧ (a2, tupO vs n2) ∈ news ∧ IntsAre vs k.2.1
theorem KeyIn.at {h₀ h : Heap} {L a : Addr} {news : Led} {k : Key} (x : KeyIn news k a) (N : News h₀ L h news) : IsKey h k a :=
  let ⟨ok, t, a2, t2, t3, n, vs, n2, e1, e2, e3⟩ := x; ⟨ok, t, a2, t2, t3, n, vs, n2, N.get e1, N.get e2, e3⟩
theorem KeyIn.mono {S : List Addr} {news news' : Led} {k : Key} {a : Addr} (e : Evo S news news') (x : KeyIn news k a) : KeyIn news' k a :=
  let ⟨ok, t, a2, t2, t3, n, vs, n2, e1, e2, e3⟩ := x; ⟨ok, t, a2, t2, t3, n, vs, n2, e.tup e1, e.tup e2, e3⟩
/-- the bank's table of numbers -/
def Nums (prog : Program) (w : World) (news : Led) (ln : Addr) (xs : List (Key × Addr × Value)) : Prop :=
  (ln == sysModules) = false ∧ ∃ o es ep, (ln, o) ∈ news ∧ o.ExactDict ∧ o.data = .dict es ep ∧ es.toList = xs.map (entryOfKey (keyKind prog w)) ∧ (xs.map (·.1)).Nodup ∧ ∀ x ∈ xs, KeyIn news x.1 x.2.1
theorem Nums.at {prog : Program} {w : World} {h₀ h : Heap} {L ln : Addr} {news : Led} {xs : List (Key × Addr × Value)} (x : Nums prog w news ln xs) (N : News h₀ L h news) : h.DictOfH (keyKind prog w) ln xs :=
  let ⟨_, o, es, ep, hm, hc, hd, he, hn, hk⟩ := x; ⟨o, es, ep, N.get hm, hc, hd, he, fun y hy => (hk y hy).at N, hn⟩
theorem Nums.mono {prog : Program} {w : World} {ln : Addr} {S : List Addr} {news news' : Led} {xs : List (Key × Addr × Value)} (hS : ln ∉ S) (e : Evo S news news') (x : Nums prog w news ln xs) : Nums prog w news' ln xs :=
  let ⟨lo, o, es, ep, hm, hc, hd, he, hn, hk⟩ := x; ⟨lo, o, es, ep, e _ hm (fun z => absurd z hS), hc, hd, he, hn, fun y hy => (hk y hy).mono e⟩
section
variable {prog : Program} {w : World} {A : Around} {E : Value → Shared → Prop} {s : Shared} {h₀ : Heap} {L a ln l : Addr} {m : Str → Option Value} {news : Led} {k : Key} {xs : List (Key × Addr × Value)} {v : Value} {vs : List Value} {n : Nat}
theorem nums_get {dflt : Value} {Q : Value → Shared → Prop} (N : News h₀ L s.heap news) (x : Nums prog w news ln xs) (hk : KeyIn news k a) (hu : A.units + 6 < cLine)
    (h : ∀ tk, Q (((atKey xs k).map (·.2)).getD dflt) { s with toks := tk }) : wpAny (model prog w) A (call (.builtin "dict.get") [.ref ln, .ref a, dflt]) Q E s :=
  call_meetsIn PySem.F.slot_dict_get (x.at N).typeIs PySem.F.entry_dict_get (PySem.F.args_dict_get_3 _ _ _) (meetsH_dict_get_default (keyKind prog w) ln a x.1 dflt) ⟨(show A.in1.units + 5 < cLine by simp only [Around.in1]; omega), k, xs, hk.at N, x.at N, h _⟩
theorem nums_get_none {dflt : Value} {Q : Value → Shared → Prop} (N : News h₀ L s.heap news) (x : Nums prog w news ln xs) (hk : KeyIn news k a) (hq : atKey xs k = none) (hu : A.units + 6 < cLine)
    (h : ∀ tk, Q dflt { s with toks := tk }) : wpAny (model prog w) A (call (.builtin "dict.get") [.ref ln, .ref a, dflt]) Q E s :=
  nums_get N x hk hu (by rw [hq]; exact h)
theorem nums_get_some {dflt : Value} {p : Addr × Value} {Q : Value → Shared → Prop} (N : News h₀ L s.heap news) (x : Nums prog w news ln xs) (hk : KeyIn news k a) (hq : atKey xs k = some p) (hv : p.2 = v) (hu : A.units + 6 < cLine)
    (h : ∀ tk, Q v { s with toks := tk }) : wpAny (model prog w) A (call (.builtin "dict.get") [.ref ln, .ref a, dflt]) Q E s :=
  nums_get N x hk hu (by rw [hq]; subst hv; exact h)
theorem nums_method {pl : Sem Bool} {Q : Value × List Value → Shared → Prop} (N : News h₀ L s.heap news) (x : Nums prog w news ln xs) (h : Q (.builtin "dict.get", [.ref ln]) s) :
    wpAny (model prog w) A (getMethod (.ref ln) "get" pl) Q E s :=
  getMethod_builtin (x.at N).typeIs PySem.F.plainAttrs_dict PySem.F.slot_dict_get PySem.F.type_dict_get (dictOfH_noDict (x.at N)) h
theorem nums_set {Q : Unit → Shared → Prop} (F : Fr h₀ L s.heap m) (N : News h₀ L s.heap news) (x : Nums prog w news ln xs) (hk : KeyIn news k a) (hu : A.units + 6 < cLine) (hz : xs.length ≤ 10000)
    (h : ∀ h' o', o'.cls = .type "dict" → Fr h₀ L h' m → News h₀ L h' (upd news ln o') → Nums prog w (upd news ln o') ln (storedH xs k a v) → Q () { s with heap := h', toks := s.toks + (k.2.1.length + 5) }) :
    wpAny (model prog w) A (setItem (.ref ln) (.ref a) v) Q E s := by
  have hD := x.at N
  obtain ⟨lo, o, es, ep, hm, hc, hd, he, hn, hkk⟩ := x
  refine wpAny_setItem_heap (hsz := by rw [sizeLine_eq]; omega) (knd := keyKind prog w) (show A.in1.units + 5 < cLine by simp only [Around.in1]; omega) (hk.at N) hD fun h' hm' hs => ?_
  obtain ⟨o', es', ep', ho', hc', hd', he', _, hn'⟩ := hm'
  have e : Evo [ln] news (upd news ln o') := Evo.upd N hm (notT_cls (by rw [hc.1]; decide))
  refine h h' o' hc'.1 (F.change hs (N _ hm).2.1 (N.fresh hm)) (News.replace N hs ho') ⟨lo, o', es', ep', mem_upd_self hm, hc', hd', he', hn', fun y hy => ?_⟩
  rcases mem_storedH hy with ⟨z, hz, e1, e2⟩ | ⟨e1, e2⟩
  · rw [e1, e2]; exact (hkk z hz).mono e
  · rw [e1, e2]; exact hk.mono e
theorem len_lst {c : Nat} {Q : Value → Shared → Prop} (N : News h₀ L s.heap news) (hm : (l, lstO vs n) ∈ news) (hl : vs.length = c) (hc : c ≤ 1000000) (h : ∀ t tk, Q (.int c t) { s with toks := tk }) :
    wpAny (model prog w) A (call (.builtin "len") [.ref l]) Q E s := by
  subst hl
  refine len_list (News.isList N hm) (by rw [List.size_toArray]; omega) ?_
  rw [List.size_toArray]
  exact h _ _
theorem len_tup {c : Nat} {Q : Value → Shared → Prop} (N : News h₀ L s.heap news) (hm : (l, tupO vs n) ∈ news) (hl : vs.length = c) (hc : c ≤ 1000000) (h : ∀ t tk, Q (.int c t) { s with toks := tk }) :
    wpAny (model prog w) A (call (.builtin "len") [.ref l]) Q E s := by
  subst hl
  refine len_tuple (News.isTup N hm) (by rw [List.size_toArray]; omega) ?_
  rw [List.size_toArray]
  exact h _ _
theorem append_upd {Q : Value → Shared → Prop} (F : Fr h₀ L s.heap m) (N : News h₀ L s.heap news) (hm : (l, lstO vs n) ∈ news) (hz : vs.length ≤ 10000)
    (h : ∀ h', Fr h₀ L h' m → News h₀ L h' (upd news l (lstO (vs ++ [v]) (n + 1))) → Q .none { s with heap := h' }) : wpAny (model prog w) A (call (.builtin "list.append") [.ref l, v]) Q E s := by
  have z := N _ hm
  refine append_at (hsz := by rw [List.size_toArray, sizeLine_eq]; omega) z.1 fun h' hs ho' => h h' (F.change hs z.2.1 z.2.2) (News.replace N hs ?_)
  rw [ho']
  simp
end

theorem Evo.upd' {S : List Addr} {news X : Led} {d : Addr} {o' : Obj} (h : Evo S news X) (hd : d ∈ S) (hnt : ∀ p ∈ news, p.1 = d → ¬ IsT p.2) : Evo S news (Mine.upd X d o') :=
  fun p hp q => mem_upd_ne (h p hp q) fun e => hnt p hp e (q (e ▸ hd))
theorem News.nt {h₀ h : Heap} {L d : Addr} {o : Obj} {news : Led} (N : News h₀ L h news) (hm : (d, o) ∈ news) (hc : ¬ IsT o) : ∀ p ∈ news, p.1 = d → ¬ IsT p.2 := fun p hp e q => by
  obtain ⟨a, ob⟩ := p
  obtain rfl : a = d := e
  exact hc (News.same N hp hm ▸ q)
theorem tup_ne_lst {vs us : List Value} {n k : Nat} : tupO vs n ≠ lstO us k := fun e => absurd (show Value.type "tuple" = Value.type "list" from congrArg Obj.cls e) (by decide)
theorem tup_ne_cls {vs : List Value} {n : Nat} {o : Obj} (h : o.cls ≠ .type "tuple") : tupO vs n ≠ o := fun e => h (e ▸ rfl)
theorem ne_of_new {news : Led} {D l : Addr} {o : Obj} (h : ∀ p ∈ news, p.1 < D) (hm : (l, o) ∈ news) : D ≠ l := Nat.ne_of_gt (h _ hm)
theorem lst_cls {vs : List Value} {n : Nat} : ¬ IsT (lstO vs n) := notT_cls (by show Value.type "list" ≠ Value.type "tuple"; decide)
end
section
-- nofill
structure BankA where
  b : Addr
  db : Addr
  lo : Addr
  la : Addr
  ls : Addr
  ld : Addr
  ln : Addr
def BankA.all (S : BankA) : List Addr := [S.b, S.db, S.lo, S.la, S.ls, S.ld, S.ln]
def BankA.mut (S : BankA) : List Addr := [S.lo, S.la, S.ls, S.ld, S.ln]
def bankNames : List Str := ["make", "op", "args", "bool_term", "declare_fun", "fresh_const"]
/-- the bank's own dict: the lists and no method's name -/
def BankDict (S : BankA) (es : List DictEntry) : Prop :=
  getL "term_ops" es = some (some (.ref S.lo)) ∧ getL "term_args" es = some (some (.ref S.la)) ∧ getL "term_sorts" es = some (some (.ref S.ls)) ∧ getL "term_datas" es = some (some (.ref S.ld)) ∧
  getL "numbers" es = some (some (.ref S.ln)) ∧ ∀ x ∈ bankNames, getL x es = some none
/-- the table T of the bank's terms -/
structure Bank (prog : Program) (w : World) (news : Led) (S : BankA) (T : List Key) : Prop where
  inst : (S.b, instObj 415 S.db) ∈ news
  dict : ∃ es n, (S.db, dictOf es n) ∈ news ∧ BankDict S es
  ops : ∃ (vs : List Value) (n : Nat), (S.lo, lstO vs n) ∈ news ∧ vs.length = T.length ∧ ∀ (i : Nat) (k : Key), T[i]? = some k → ∃ t : Tok, vs[i]? = some (Value.str k.1 t)
  args : ∃ (vs : List Value) (n : Nat), (S.la, lstO vs n) ∈ news ∧ vs.length = T.length ∧ ∀ (i : Nat) (k : Key), T[i]? = some k → ∃ (a : Addr) (us : List Value) (n' : Nat), vs[i]? = some (Value.ref a) ∧ (a, tupO us n') ∈ news ∧ IntsAre us k.2.1
  sorts : ∃ (vs : List Value) (n : Nat), (S.ls, lstO vs n) ∈ news ∧ vs.length = T.length
  datas : ∃ (vs : List Value) (n : Nat), (S.ld, lstO vs n) ∈ news ∧ vs.length = T.length
  nums : ∃ xs, Nums prog w news S.ln xs ∧ xs.length + 1 = T.length ∧ (∀ (k : Key) (p : Addr × Value), atKey xs k = some p → ∃ (i : Nat) (t : Tok), p.2 = Value.int i t ∧ 1 ≤ i ∧ T[i]? = some k) ∧ ∀ (i : Nat) (k : Key), 1 ≤ i → T[i]? = some k → atKey xs k ≠ none
  nodup : T.Nodup
  zero : T[0]? = some (Str.ofString "", [], 0, 0)
  apart : S.all.Nodup
theorem Bank.mono {prog : Program} {w : World} {news news' : Led} {S : BankA} {T : List Key} {X : List Addr} (B : Bank prog w news S T) (hX : ∀ a ∈ S.all, a ∉ X) (e : Evo X news news') : Bank prog w news' S T := by
  have k : ∀ {a : Addr} {o : Obj}, a ∈ S.all → (a, o) ∈ news → (a, o) ∈ news' := fun ha hm => e _ hm fun z => absurd z (hX _ ha)
  obtain ⟨es, n, d1, d2⟩ := B.dict
  obtain ⟨vo, no, o1, o2⟩ := B.ops
  obtain ⟨va, na, a1, a2, a3⟩ := B.args
  obtain ⟨vs, ns, s1, s2⟩ := B.sorts
  obtain ⟨vd, nd, e1, e2⟩ := B.datas
  obtain ⟨xs, x1, x2⟩ := B.nums
  exact ⟨k (by simp [BankA.all]) B.inst, ⟨es, n, k (by simp [BankA.all]) d1, d2⟩, ⟨vo, no, k (by simp [BankA.all]) o1, o2⟩,
    ⟨va, na, k (by simp [BankA.all]) a1, a2, fun i q h => let ⟨a, us, n', h1, h2, h3⟩ := a3 i q h; ⟨a, us, n', h1, e.tup h2, h3⟩⟩, ⟨vs, ns, k (by simp [BankA.all]) s1, s2⟩, ⟨vd, nd, k (by simp [BankA.all]) e1, e2⟩,
    ⟨xs, x1.mono (hX _ (by simp [BankA.all])) e, x2⟩, B.nodup, B.zero, B.apart⟩
end
section
-- nofill
theorem get_snoc {α : Type} {T : List α} {k q : α} {i : Nat} (h : (T ++ [k])[i]? = some q) : (T[i]? = some q) ∨ (i = T.length ∧ q = k) := by
  rcases Nat.lt_trichotomy i T.length with hl | hl | hl
  · rw [List.getElem?_append_left hl] at h; exact .inl h
  · subst hl; rw [List.getElem?_append_right (Nat.le_refl _), Nat.sub_self] at h; exact .inr ⟨rfl, (Option.some.inj h).symm⟩
  · rw [List.getElem?_append_right (by omega)] at h
    have : i - T.length ≠ 0 := by omega
    obtain ⟨j, hj⟩ := Nat.exists_eq_succ_of_ne_zero this
    rw [hj] at h
    simp at h
theorem get_old {α : Type} {T : List α} {k q : α} {i : Nat} (h : T[i]? = some q) : (T ++ [k])[i]? = some q := by
  rw [List.getElem?_append_left (List.getElem?_eq_some_iff.mp h).1]; exact h
theorem get_new {α : Type} {T : List α} {k : α} : (T ++ [k])[T.length]? = some k := by
  rw [List.getElem?_append_right (Nat.le_refl _), Nat.sub_self]; rfl
theorem atKey_snoc {xs : List (Key × Addr × Value)} {k : Key} {a : Addr} {v : Value} (hq : atKey xs k = none) (q : Key) : atKey (xs ++ [(k, a, v)]) q = if q = k then some (a, v) else atKey xs q := by
  unfold atKey at *
  rw [List.find?_append]
  by_cases h : q = k
  · subst h
    rw [Option.map_eq_none_iff.mp hq]
    simp
  · have : decide (k = q) = false := decide_eq_false fun e => h e.symm
    simp only [h, if_false, List.find?_cons, this, List.find?_nil, Option.or_none]
theorem Bank.push {prog : Program} {w : World} {news X : Led} {S : BankA} {T : List Key} {k : Key} {t D a2 n2 tk : Nat} {us vo va vs vd : List Value} {no na ns nd : Nat} {xs : List (Key × Addr × Value)}
    (B : Bank prog w news S T) (hop : k.1 ≠ Str.ofString "") (hI : IntsAre us k.2.1) (hq : atKey xs k = none)
    (hol : vo.length = T.length) (hov : ∀ (i : Nat) (k : Key), T[i]? = some k → ∃ t : Tok, vo[i]? = some (Value.str k.1 t))
    (hal : va.length = T.length) (hav : ∀ (i : Nat) (k : Key), T[i]? = some k → ∃ (a : Addr) (us : List Value) (n' : Nat), va[i]? = some (Value.ref a) ∧ (a, tupO us n') ∈ news ∧ IntsAre us k.2.1)
    (hsl : vs.length = T.length) (hdl : vd.length = T.length) (hxl : xs.length + 1 = T.length)
    (hx1 : ∀ (k : Key) (p : Addr × Value), atKey xs k = some p → ∃ (i : Nat) (t : Tok), p.2 = Value.int i t ∧ 1 ≤ i ∧ T[i]? = some k) (hx2 : ∀ (i : Nat) (k : Key), 1 ≤ i → T[i]? = some k → atKey xs k ≠ none)
    (e : Evo S.mut news X) (hin : (S.b, instObj 415 S.db) ∈ X) (hdk : ∀ es n, (S.db, dictOf es n) ∈ news → (S.db, dictOf es n) ∈ X)
    (ho : (S.lo, lstO (vo ++ [.str k.1 t]) no) ∈ X) (ha : (S.la, lstO (va ++ [.ref a2]) na) ∈ X) (ha2 : (a2, tupO us n2) ∈ X) {v1 v2 : Value} (hs : (S.ls, lstO (vs ++ [v1]) ns) ∈ X) (hd : (S.ld, lstO (vd ++ [v2]) nd) ∈ X)
    (hN : Nums prog w X S.ln (storedH xs k D (.int T.length tk))) : Bank prog w X S (T ++ [k]) := by
  have h1 : 1 ≤ T.length := by omega
  have hnk : k ∉ T := fun hm => by
    obtain ⟨i, hi⟩ := List.getElem?_of_mem hm
    by_cases hi0 : 1 ≤ i
    · exact hx2 i k hi0 hi hq
    · obtain rfl : i = 0 := by omega
      rw [B.zero] at hi
      exact hop (by rw [← Option.some.inj hi])
  obtain ⟨es, n, d1, d2⟩ := B.dict
  rw [storedH_new hq] at hN
  refine ⟨hin, ⟨es, n, hdk _ _ d1, d2⟩, ⟨_, _, ho, by simp [hol], fun i q h => ?_⟩, ⟨_, _, ha, by simp [hal], fun i q h => ?_⟩, ⟨_, _, hs, by simp [hsl]⟩, ⟨_, _, hd, by simp [hdl]⟩,
    ⟨_, hN, by simp; omega, fun q p h => ?_, fun i q hi h => ?_⟩, ?_, ?_, B.apart⟩
  · rcases get_snoc h with h | ⟨rfl, rfl⟩
    · obtain ⟨t', ht⟩ := hov i q h
      exact ⟨t', get_old ht⟩
    · exact ⟨t, by rw [← hol]; exact get_new⟩
  · rcases get_snoc h with h | ⟨rfl, rfl⟩
    · obtain ⟨a, u, n', h1, h2, h3⟩ := hav i q h
      exact ⟨a, u, n', get_old h1, e.tup h2, h3⟩
    · exact ⟨a2, us, n2, by rw [← hal]; exact get_new, ha2, hI⟩
  · rw [atKey_snoc hq] at h
    split at h
    · rename_i hk
      cases h
      exact ⟨T.length, tk, rfl, h1, by rw [hk]; exact get_new⟩
    · obtain ⟨i, t', e1, e2, e3⟩ := hx1 q p h
      exact ⟨i, t', e1, e2, get_old e3⟩
  · rw [atKey_snoc hq]
    split
    · simp
    · rename_i hk
      rcases get_snoc h with h | ⟨_, h⟩
      · exact hx2 i q hi h
      · exact absurd h hk
  · exact List.nodup_append.mpr ⟨B.nodup, by simp, fun a ha b hb e => hnk (List.mem_singleton.mp hb ▸ e ▸ ha)⟩
  · exact get_old B.zero
end
section
example : True := by
  k_with_none
  (k_with "k_ne" => (refine neN ?_; (try dsimp only); first | exact Nat.ne_of_gt (by with_reducible assumption) | exact Nat.ne_of_lt (by with_reducible assumption) | exact Nat.ne_of_gt (And.left (by with_reducible assumption)) | exact Nat.ne_of_lt (And.left (by with_reducible assumption)) | exact Nat.ne_of_gt (And.left (And.right (by with_reducible assumption))) | exact Nat.ne_of_lt (And.left (And.right (by with_reducible assumption))) | exact Nat.ne_of_gt (And.left (And.right (And.right (by with_reducible assumption)))) | exact Nat.ne_of_lt (And.left (And.right (And.right (by with_reducible assumption)))) | exact Nat.ne_of_gt (And.left (And.right (And.right (And.right (by with_reducible assumption))))) | exact Nat.ne_of_lt (And.left (And.right (And.right (And.right (by with_reducible assumption))))) | exact Nat.ne_of_gt (And.left (And.right (And.right (And.right (And.right (by with_reducible assumption)))))) | exact Nat.ne_of_gt (And.left (And.right (And.right (And.right (And.right (And.right (by with_reducible assumption))))))) | exact Nat.ne_of_gt (And.left (And.right (And.right (And.right (And.right (And.right (And.right (by with_reducible assumption)))))))) | exact Nat.ne_of_gt (And.left (And.right (And.right (And.right (And.right (And.right (And.right (And.right (by with_reducible assumption))))))))) | exact Nat.ne_of_gt (And.left (And.right (And.right (And.right (And.right (And.right (And.right (And.right (And.right (by with_reducible assumption)))))))))) | exact Nat.ne_of_gt (And.left (And.right (And.right (And.right (And.right (And.right (And.right (And.right (And.right (And.right (by with_reducible assumption))))))))))) | exact Nat.ne_of_gt (And.left (And.right (And.right (And.right (And.right (And.right (And.right (And.right (And.right (And.right (And.right (by with_reducible assumption)))))))))))) | exact Nat.ne_of_gt (And.left (And.right (And.right (And.right (And.right (And.right (And.right (And.right (And.right (And.right (And.right (And.right (by with_reducible assumption))))))))))))) | exact Nat.ne_of_gt (And.left (And.right (And.right (And.right (And.right (And.right (And.right (And.right (And.right (And.right (And.right (And.right (And.right (by with_reducible assumption))))))))))))))))
  (k_with "k_mem" => first | assumption | exact mem_upd_self (by k_mem) | exact mem_upd_ne (by k_mem) (by first | assumption | exact Ne.symm (by assumption) | exact ne_of_new (by assumption) (by assumption)) | exact List.Mem.head _ | exact List.Mem.tail _ (by k_mem))
  (k_with "call builtin:len" => (k_dflt (refine' len_lst (by k_asm) (by k_mem) (by assumption) (by omega) ?_); intro _ _))
  (k_with "call builtin:list.append" => (k_dflt (refine' append_upd (by k_asm) (by k_asm) (by k_mem) (by first | decide | omega) ?_); intro _ _ _))
  (k_with "k_get" => assumption)
  (k_with "getMethod ref" => (k_dflt (refine' nums_method (by k_asm) (by first | assumption | exact Nums.mono (S := []) (fun h => nomatch h) Evo.cons (by assumption)) ?_)))
  (k_with "call builtin:dict.get" => (k_dflt (first
      | (refine' nums_get_none (by k_asm) (by exact Nums.mono (S := []) (fun h => nomatch h) Evo.cons (by assumption)) (by exact ⟨by assumption, _, _, _, _, _, _, _, by k_mem, by k_mem, by assumption⟩) (by assumption) (by (rw [cLine_is]; dsimp only [Around.deeper]; omega)) ?_)
      | (refine' nums_get_some (by k_asm) (by exact Nums.mono (S := []) (fun h => nomatch h) Evo.cons (by assumption)) (by exact ⟨by assumption, _, _, _, _, _, _, _, by k_mem, by k_mem, by assumption⟩) (by assumption) (by assumption) (by (rw [cLine_is]; dsimp only [Around.deeper]; omega)) ?_)); intro _))
  trivial
theorem evo4 {news : Led} {p : Addr × Obj} {d1 d2 d3 d4 : Addr} {o1 o2 o3 o4 : Obj} (h1 : ∀ p ∈ news, p.1 = d1 → ¬ IsT p.2) (h2 : ∀ p ∈ news, p.1 = d2 → ¬ IsT p.2) (h3 : ∀ p ∈ news, p.1 = d3 → ¬ IsT p.2) (h4 : ∀ p ∈ news, p.1 = d4 → ¬ IsT p.2) :
    Evo [d1, d2, d3, d4] news (upd (upd (upd (upd (p :: news) d1 o1) d2 o2) d3 o3) d4 o4) :=
  Evo.upd' (Evo.upd' (Evo.upd' (Evo.upd' Evo.cons (by simp) h1) (by simp) h2) (by simp) h3) (by simp) h4
theorem Nums.evo4 {prog : Program} {w : World} {ln : Addr} {news : Led} {xs : List (Key × Addr × Value)} {p : Addr × Obj} {d1 d2 d3 d4 : Addr} {o1 o2 o3 o4 : Obj} (x : Nums prog w news ln xs) (n1 : ¬ d1 = ln) (n2 : ¬ d2 = ln) (n3 : ¬ d3 = ln) (n4 : ¬ d4 = ln)
    (h1 : ∀ p ∈ news, p.1 = d1 → ¬ IsT p.2) (h2 : ∀ p ∈ news, p.1 = d2 → ¬ IsT p.2) (h3 : ∀ p ∈ news, p.1 = d3 → ¬ IsT p.2) (h4 : ∀ p ∈ news, p.1 = d4 → ¬ IsT p.2) :
    Nums prog w (upd (upd (upd (upd (p :: news) d1 o1) d2 o2) d3 o3) d4 o4) ln xs :=
  x.mono (by simp only [List.mem_cons, List.not_mem_nil, or_false, not_or]; exact ⟨Ne.symm n1, Ne.symm n2, Ne.symm n3, Ne.symm n4⟩) (Mine.evo4 h1 h2 h3 h4)
example : True := by
  (k_with "setItem ref ref" => (k_dflt (refine' nums_set (by k_asm) (by k_asm) (by exact Nums.evo4 (by assumption) (by assumption) (by assumption) (by assumption) (by assumption) (by assumption) (by assumption) (by assumption) (by assumption)) (by exact ⟨by assumption, _, _, _, _, _, _, _, by k_mem, by k_mem, by assumption⟩) (by (rw [cLine_is]; dsimp only [Around.deeper]; omega)) (by omega) ?_); intro _ _ _ _ _ _))
  (k_with "ite" => (first | (refine ite_neg (by simp only [beq_iff_eq]; omega) ?_) | (refine ite_pos (by simp only [beq_iff_eq]; omega) ?_)))
  trivial
theorem make_ok {prog : Program} {w : World} {news : Led} {S : BankA} {T : List Key} {k : Key} {t t2 t3 a2 n2 : Nat} {us : List Value} (hB : Bank prog w news S T) (hT : T.length ≤ 5000) (hok : PyData.strOk k.1 = true) (hop : k.1 ≠ Str.ofString "")
   (ha : (a2, tupO us n2) ∈ news) (hI : IntsAre us k.2.1) :
   Does prog w 244 [.ref S.b, .str k.1 t, .ref a2, .int k.2.2.1 t2, .int k.2.2.2 t3] 2 20 news (fun r news' => ∃ (i : Nat) (tk : Tok) (T' : List Key), r = .int i tk ∧ Bank prog w news' S (T ++ T') ∧ (T ++ T').length ≤ T.length + 1 ∧ (T ++ T')[i]? = some k ∧ 1 ≤ i ∧ Evo S.mut news news') := by
  obtain ⟨hin, ⟨es, ne, hde, hes⟩, ⟨vo, no, ho, hol, hov⟩, ⟨va, na, haa, hal, hav⟩, ⟨vs, ns, hs, hsl⟩, ⟨vd, nd, hd, hdl⟩, ⟨xs, hx, hxl, hx1, hx2⟩, hnd, hz, hap⟩ := id hB
  obtain ⟨g1, g2, g3, g4, g5, g6⟩ := hes
  rcases hq : atKey xs k with _ | ⟨pa, pv⟩
  rotate_left
  · obtain ⟨i, ti, hpv, hi1, hi2⟩ := hx1 k _ hq
    have hpv : pv = .int i ti := hpv
    subst hpv
    have hi0 : ¬ (i : Int) = 0 := by omega
    have hpv : (pa, Value.int (i : Int) ti).2 = .int i ti := rfl
    unfold Does
    intro p loose mean mg mb dp un gd env outer A₀ base h₀ L m s R B F X N T hf hke hdp hun hret
    refine' code_def B F X N T rfl hf hke ?k6 ?k7 ?k8 ?k9 ?kB ?_ ?c2 ?c3 ?c4 ?c5
    case k6 => k_dflt k_is
    case k7 => k_dflt k_is
    case k8 => show dp < 1000; omega
    case k9 => exact BindsTo.of_eq rfl
    case c5 => decide
    case kB => exact locs rfl
    case c2 => exact rfl
    case c3 => exact rfl
    case c4 => exact rfl
    intro g' L' h' FG' F' N' B' X' T'
    (try dsimp only)
    (try k_fold)
    k_steps
    exact hret _ _ _ _ (by k_asm) (by k_asm) ⟨i, ti, [], rfl, by rw [List.append_nil]; exact hB.mono (fun _ _ h => absurd h List.not_mem_nil) (Evo.cons (S := [])), by rw [List.append_nil]; omega, by rw [List.append_nil]; exact hi2, hi1, Evo.cons⟩
  simp only [BankA.all, List.nodup_cons, List.mem_cons, List.not_mem_nil, or_false, not_or, not_false_eq_true, List.nodup_nil, and_true] at hap
  obtain ⟨⟨p1, p2, p3, p4, p5, p6⟩, ⟨p7, p8, p9, p10, p11⟩, ⟨p12, p13, p14, p15⟩, ⟨p16, p17, p18⟩, ⟨p19, p20⟩, p21⟩ := hap
  unfold Does
  intro p loose mean mg mb dp un gd env outer A₀ base h₀ L m s R B F X N T hf hke hdp hun hret
  refine' code_def B F X N T rfl hf hke ?k6 ?k7 ?k8 ?k9 ?kB ?_ ?c2 ?c3 ?c4 ?c5
  case k6 => k_dflt k_is
  case k7 => k_dflt k_is
  case k8 => show dp < 1000; omega
  case k9 => exact BindsTo.of_eq rfl
  case c5 => decide
  case kB => exact locs rfl
  case c2 => exact rfl
  case c3 => exact rfl
  case c4 => exact rfl
  intro g' L' h' FG' F' N' B' X' T'
  (try dsimp only)
  (try k_fold)
  have q1 : a2 ≠ S.lo := News.ne N ha ho tup_ne_lst
  have q2 : a2 ≠ S.la := News.ne N ha haa tup_ne_lst
  have q3 : a2 ≠ S.ls := News.ne N ha hs tup_ne_lst
  have q4 : a2 ≠ S.ld := News.ne N ha hd tup_ne_lst
  have r1 := News.nt N ho lst_cls
  have r2 := News.nt N haa lst_cls
  have r3 := News.nt N hs lst_cls
  have r4 := News.nt N hd lst_cls
  have r5 := News.nt N hx.2.choose_spec.choose_spec.choose_spec.1 (notT_cls (by rw [hx.2.choose_spec.choose_spec.choose_spec.2.1.1]; decide))
  have q5 : a2 ≠ S.ln := News.ne N ha hx.2.choose_spec.choose_spec.choose_spec.1 (tup_ne_cls (by rw [hx.2.choose_spec.choose_spec.choose_spec.2.1.1]; decide))
  k_steps
  have e5 : ∀ {o1 o2 o3 o4 o5 : Obj} {q : Addr × Obj}, Evo S.mut news (upd (upd (upd (upd (upd (q :: news) S.lo o1) S.la o2) S.ls o3) S.ld o4) S.ln o5) := fun {o1 o2 o3 o4 o5 q} =>
    Evo.upd' ((evo4 r1 r2 r3 r4).weaken (T := S.mut) (by simp [BankA.mut])) (by simp [BankA.mut]) r5
  exact hret _ _ _ _ (by k_asm) (by k_asm) ⟨_, _, [k], rfl,
    Bank.push hB hop hI hq hol hov hal hav hsl hdl hxl hx1 hx2 e5 (by k_mem) (fun _ _ h => mem_upd_ne (mem_upd_ne (mem_upd_ne (mem_upd_ne (mem_upd_ne (List.Mem.tail _ h) p7) p8) p9) p10) p11) (by k_mem) (by k_mem) (by k_mem) (by k_mem) (by k_mem) (by assumption),
    by simp, get_new, (by omega), e5⟩
end
section
-- nofill
section
open PyProof.Rows.LCg
variable {prog : Program} {w : World} {A : Around} {E : Value → Shared → Prop} {s : Shared} {h₀ : Heap} {L : Addr} {m : Str → Option Value} {env : Env}
/-- what a turn of a comprehension (its element) must bring -/
def Turn (prog : Program) (w : World) (A : Around) (h₀ : Heap) (L : Addr) (m : Str → Option Value) (env : Env) (elt : Expr) (x : Str) (scope : Scope) (cl : List (Str × Addr)) (s₂ : Shared) (S : List Addr) (X₀ : Led) (n : Nat) (P : Nat → Value → Prop) (J : Nat → List Value → Led → Prop) : Prop :=
  ∀ i v ys Y C oC m₂ h tk (E' : Value → Shared → Prop), i < n → P i v → J i ys Y → Evo S X₀ Y → (C, oC) ∈ Y → NsObj oC m₂ → m₂ x = some v → Fr h₀ L h m → News h₀ L h Y →
    wpAny (model prog w) A (eval elt (compEnvC scope cl C env)) (fun y s' => ∃ h' tk' Y', s' = { s₂ with heap := h', toks := tk' } ∧ Fr h₀ L h' m ∧ News h₀ L h' Y' ∧ Evo S Y Y' ∧ J (i + 1) (ys ++ [y]) Y') E' { s₂ with heap := h, toks := tk }
/-- the same, with the clause's tests -/
def TurnEnd (h₀ : Heap) (L : Addr) (m : Str → Option Value) (s₂ : Shared) (S : List Addr) (Y : Led) (Jn : List Value → Led → Prop) (ys : List Value) (s' : Shared) : Prop :=
  ∃ h' tk' Y', s' = { s₂ with heap := h', toks := tk' } ∧ Fr h₀ L h' m ∧ News h₀ L h' Y' ∧ Evo S Y Y' ∧ Jn ys Y'
def TurnT (prog : Program) (w : World) (A : Around) (h₀ : Heap) (L : Addr) (m : Str → Option Value) (env : Env) (elt : Expr) (ifs : List Expr) (x : Str) (scope : Scope) (cl : List (Str × Addr)) (s₂ : Shared) (S : List Addr) (X₀ : Led) (n : Nat) (P : Nat → Value → Prop) (J : Nat → List Value → Led → Prop) : Prop :=
  ∀ i v ys Y C oC m₂ h tk (E' : Value → Shared → Prop), i < n → P i v → J i ys Y → Evo S X₀ Y → (C, oC) ∈ Y → NsObj oC m₂ → m₂ x = some v → Fr h₀ L h m → News h₀ L h Y →
    wpAny (model prog w) A (forIn ifs true fun c r => if r = true then do let ok ← isTrue c (compEnvC scope cl C env) (eval c (compEnvC scope cl C env)); pure (ForInStep.yield ok) else pure (ForInStep.yield r))
      (fun ok s₃ => if ok = true then wpAny (model prog w) A (eval elt (compEnvC scope cl C env)) (fun y s' => TurnEnd h₀ L m s₂ S Y (J (i + 1)) (ys ++ [y]) s') E' s₃ else TurnEnd h₀ L m s₂ S Y (J (i + 1)) ys s₃) E' { s₂ with heap := h, toks := tk }
theorem Turn.toT {m : Str → Option Value} {elt : Expr} {x : Str} {scope : Scope} {cl : List (Str × Addr)} {s₂ : Shared} {S : List Addr} {X₀ : Led} {n : Nat} {P : Nat → Value → Prop} {J : Nat → List Value → Led → Prop}
    (t : Turn prog w A h₀ L m env elt x scope cl s₂ S X₀ n P J) : TurnT prog w A h₀ L m env elt [] x scope cl s₂ S X₀ n P J := fun i v ys Y C oC m₂ h tk E' a1 a2 a3 a4 a5 a6 a7 a8 a9 => by
  refine wpAny_tests_nil ?_
  simp only [if_true]
  exact t i v ys Y C oC m₂ h tk E' a1 a2 a3 a4 a5 a6 a7 a8 a9
/-- no item passes the test -/
def TurnNo (prog : Program) (w : World) (A : Around) (h₀ : Heap) (L : Addr) (m : Str → Option Value) (env : Env) (c : Expr) (x : Str) (scope : Scope) (cl : List (Str × Addr)) (s₂ : Shared) (S : List Addr) (X₀ : Led) (n : Nat) (P : Nat → Value → Prop) (J : Nat → List Value → Led → Prop) : Prop :=
  ∀ i v ys Y C oC m₂ h tk (E' : Value → Shared → Prop), i < n → P i v → J i ys Y → Evo S X₀ Y → (C, oC) ∈ Y → NsObj oC m₂ → m₂ x = some v → Fr h₀ L h m → News h₀ L h Y →
    wpAny (model prog w) A (isTrue c (compEnvC scope cl C env) (eval c (compEnvC scope cl C env))) (fun ok s₃ => ok = false ∧ TurnEnd h₀ L m s₂ S Y (J (i + 1)) ys s₃) E' { s₂ with heap := h, toks := tk }
theorem TurnNo.toT {m : Str → Option Value} {elt c : Expr} {x : Str} {scope : Scope} {cl : List (Str × Addr)} {s₂ : Shared} {S : List Addr} {X₀ : Led} {n : Nat} {P : Nat → Value → Prop} {J : Nat → List Value → Led → Prop}
    (t : TurnNo prog w A h₀ L m env c x scope cl s₂ S X₀ n P J) : TurnT prog w A h₀ L m env elt [c] x scope cl s₂ S X₀ n P J := fun i v ys Y C oC m₂ h tk E' a1 a2 a3 a4 a5 a6 a7 a8 a9 => by
  refine wpAny_tests_one (wpAny_mono (t i v ys Y C oC m₂ h tk E' a1 a2 a3 a4 a5 a6 a7 a8 a9) (fun ok s₃ h₃ => ?_) fun _ _ e => e)
  obtain ⟨rfl, h₃⟩ := h₃
  exact h₃
/-- what is told of a comprehension's turns may not hang on the block's own three objects -/
def Holds3 (X₀ : Led) (J : Nat → List Value → Led → Prop) : Prop := ∀ i ys Y Y' S₃, (∀ p ∈ X₀, p.1 ∉ S₃) → Evo S₃ Y Y' → J i ys Y → J i ys Y'
theorem nsObj_notT {o : Obj} {m : Str → Option Value} (x : NsObj o m) : ¬ IsT o := fun ⟨_, _, e, _⟩ => by obtain ⟨_, _, hd, _⟩ := x; rw [hd] at e; cases e
theorem evo_same {Y : Led} {h h' : Heap} {a : Addr} {o o' : Obj} (N : News h₀ L h Y) (hm : (a, o) ∈ Y) (hs : Heap.SameBut a h h') (ho : h'.get? a = some o') (hT : ¬ IsT o) : News h₀ L h' (upd Y a o') ∧ Evo [a] Y (upd Y a o') ∧ (a, o') ∈ upd Y a o' :=
  ⟨News.replace N hs ho, Evo.upd N hm hT, mem_upd_self hm⟩
theorem comp_block {elt iter : Expr} {ifs : List Expr} {x : Str} {px : Pos} {scope : Scope} {cl : List (Str × Addr)} {pos : Pos} {s₂ : Shared} {I : Addr} {fp : List Addr} {n : Nat} {P : Nat → Value → Prop} {St : Nat → Heap → Prop} {S : List Addr} {X₀ : Led} {J : Nat → List Value → Led → Prop}
    {RR : Value → Addr → Result → Shared → Prop}
    (W : Walks prog w A I fp [I] n P St) (hsz : n ≤ 1000) (hIo : ∀ i h, St i h → ∃ o, h.get? I = some o ∧ ¬ IsT o)
    (hSt : ∀ i h h' o Y, St i h → h.get? I = some o → h'.get? I = some o → News h₀ L h' Y → Evo S X₀ Y → St i h')
    (hcell : ∀ y ∈ scope.names, y.2 ≠ .cell) (hkind : scope.kind = .function) (hx : scope.names.lookup x = some .local) (hst : St 0 s₂.heap) (hfp : ∀ b ∈ fp, b < s₂.heap.objs.size)
    (F : Fr h₀ L s₂.heap m) (N : News h₀ L s₂.heap X₀) (hIL : L ≠ I) (hI₀ : h₀.get? I = none) (off : ∀ p ∈ X₀, p.1 ≠ I) (hS : ∀ a ∈ S, ∃ o, (a, o) ∈ X₀)
    (hJ0 : J 0 [] X₀) (hmono : Holds3 X₀ J) (step : TurnT prog w A h₀ L m env elt ifs x scope cl s₂ S X₀ n P J)
    (hRR : ∀ D C h tk m' ys Y, Fr h₀ L h m → News h₀ L h Y → (D, lst ys) ∈ Y → J n ys Y → Evo S X₀ Y → h.Ns C m' → h₀.get? C = none → C ≠ L → (∀ p ∈ Y, p.1 ≠ C) → RR (.ref D) C (.ok .next) { s₂ with heap := h, toks := tk }) :
    wpAny (model prog w) A (newList []) (fun acc s₃ => wpAny (model prog w) A (newFunctionEnv scope env.globals cl [] env.qual none .none (some env)) (fun cenv s₄ =>
      codeAny (model prog w) A (.compStart (.ListComp elt [⟨.Name x px, iter, ifs, 0⟩] scope pos) 0 (.ref I) acc { cenv with scope := relabel scope env }) (RR acc cenv.locals) s₄) E s₃) E s₂ := by
  refine wpAny_newObj_type (wpAny_newFunctionEnv hcell (by intro y hy; simp at hy) (fun h₁ hns₁ hsb₁ => ?_) hkind)
  dsimp only at hns₁ hsb₁ ⊢
  generalize hH2 : s₂.heap.push { cls := .type "list", dict := none, data := .seq ([] : List Value).toArray } = H2 at hns₁ hsb₁ ⊢
  generalize hDd : s₂.heap.objs.size = D at *
  generalize hCc : H2.objs.size = C at *
  have hC : C = D + 1 := by rw [← hCc, ← hH2, Heap.size_push, hDd]
  have old : ∀ b o, s₂.heap.get? b = some o → h₁.get? b = some o := fun b o e => hsb₁.extBut b o (by rw [hC]; exact Nat.ne_of_lt (Nat.lt_succ_of_lt (hDd ▸ Heap.lt_size e))) (Heap.get?_push_of_some _ (hH2 ▸ Heap.get?_push_of_some _ e))
  have nDC : D ≠ C := by rw [hC]; exact Nat.ne_of_lt (Nat.lt_succ_self D)
  have hacc : h₁.get? D = some (lst []) := hsb₁.extBut _ _ nDC (Heap.get?_push_of_some _ (hH2 ▸ hDd ▸ Heap.get?_push_size _ rfl))
  have hst₁ : St 0 h₁ := W.frame _ _ _ hst fun b _ o e => old b o e
  have fresh₀ : ∀ a, D ≤ a → h₀.get? a = none := fun a ha => by
    cases e : h₀.get? a with
    | none => rfl
    | some o' => exact absurd (Heap.lt_size (F.keep a o' e)) (Nat.not_lt.mpr (hDd ▸ ha))
  have hLlt : L < D := hDd ▸ F.ns.lt
  have hIlt : I < D := hfp I (W.sub I (List.mem_singleton.mpr rfl))
  have nLD : L ≠ D := Nat.ne_of_lt hLlt
  have nLC : L ≠ C := by rw [hC]; exact Nat.ne_of_lt (Nat.lt_succ_of_lt hLlt)
  have nID : I ≠ D := Nat.ne_of_lt hIlt
  have nIC : I ≠ C := by rw [hC]; exact Nat.ne_of_lt (Nat.lt_succ_of_lt hIlt)
  have hDC : D ≤ C := by rw [hC]; exact Nat.le_succ D
  have hX : ∀ p ∈ X₀, p.1 < D := fun p hp => hDd ▸ Heap.lt_size (N p hp).1
  have off3 : ∀ p ∈ X₀, p.1 ∉ [I, C, D] := fun p hp hm => by
    have h1 := hX p hp
    have h2 := off p hp
    simp only [List.mem_cons, List.not_mem_nil, or_false] at hm
    rcases hm with e | e | e
    · exact h2 e
    · rw [e] at h1; exact absurd h1 (Nat.not_lt.mpr hDC)
    · rw [e] at h1; exact Nat.lt_irrefl _ h1
  have S3 : ∀ {Y Y' : Led} {a : Addr}, a ∈ [I, C, D] → Evo S X₀ Y → Evo [a] Y Y' → Evo S X₀ Y' := fun ha h1 h2 p hp q => h2 p (h1 p hp q) fun z => absurd (List.mem_singleton.mp z ▸ ha) (off3 p hp)
  have J3 : ∀ {i ys} {Y Y' : Led} {a : Addr}, a ∈ [I, C, D] → J i ys Y → Evo [a] Y Y' → J i ys Y' := fun ha h1 h2 => hmono _ _ _ _ _ (fun p hp z => off3 p hp (List.mem_singleton.mp z ▸ ha)) h2 h1
  obtain ⟨oI₁, heI₁, _⟩ := hIo _ _ hst₁
  obtain ⟨oC₁, heC₁, hoC₁⟩ := ns_obj hns₁
  have loop : ∀ s₃ : Shared, s₃ = { s₂ with heap := h₁, toks := s₂.toks + ([] : List (Str × Value)).length } →
      codeAny (model prog w) A (.compLoop (.ListComp elt [⟨.Name x px, iter, ifs, 0⟩] scope pos) 0 (.ref I) (.ref D) (compEnvC scope cl C env)) (RR (.ref D) C) s₃ := by
    rintro s₃ rfl
    refine codeAny_compLoop_tests
      (fun k s' => ∃ h' tk i ys Y oI oC m', s' = { s₂ with heap := h', toks := tk } ∧ i ≤ n ∧ k = n + 1 - i ∧ ys.length ≤ i ∧ St i h' ∧ Fr h₀ L h' m ∧ News h₀ L h' Y ∧ (I, oI) ∈ Y ∧ (C, oC) ∈ Y ∧ NsObj oC m' ∧ (D, lst ys) ∈ Y ∧ J i ys Y ∧ Evo S X₀ Y) ?_ (n + 1)
      ⟨h₁, _, 0, [], (I, oI₁) :: (C, oC₁) :: (D, lst []) :: X₀, oI₁, oC₁, _, rfl, Nat.zero_le _, rfl, Nat.le_refl _, hst₁, F.keeps old, fun p hp => ?_, List.Mem.head _, List.Mem.tail _ (List.Mem.head _), hoC₁, List.Mem.tail _ (List.Mem.tail _ (List.Mem.head _)), hmono _ _ _ _ [] (fun _ _ h => nomatch h) (fun p hp _ => .tail _ (.tail _ (.tail _ hp))) hJ0, fun p hp _ => .tail _ (.tail _ (.tail _ hp))⟩
    · rintro k s' ⟨h', tk, i, ys, Y, oI, oC, m', rfl, hi, rfl, hyl, hst', F', N', mI, mC, hoC, mD, hJ, hE⟩
      by_cases hlt : i < n
      · refine W.item i _ _ _ hlt hst' fun v h₂ tk₂ hPv hst₂ hk₂ => ?_
        have zI := N' _ mI
        have zC := N' _ mC
        have zD := N' _ mD
        obtain ⟨oI₂, heI₂, hTI₂⟩ := hIo _ _ hst₂
        have hTI : ¬ IsT oI := by
          obtain ⟨o', e, h⟩ := hIo _ _ hst'
          rw [zI.1] at e; cases e; exact h
        have N₂ : News h₀ L h₂ (upd Y I oI₂) := fun p hp => by
          obtain ⟨q, hq, rfl⟩ := List.mem_map.mp hp
          by_cases hqI : q.1 = I
          · rw [if_pos hqI]; exact ⟨heI₂, zI.2⟩
          · rw [if_neg hqI]; exact ⟨hk₂ _ _ (by simpa using hqI) (N' q hq).1, (N' q hq).2⟩
        have E₂ : Evo [I] Y (upd Y I oI₂) := Evo.upd N' mI hTI
        have F₂ : Fr h₀ L h₂ m := fr_but F' hk₂ hIL hI₀
        have mC₂ : (C, oC) ∈ upd Y I oI₂ := mem_upd_ne mC (Ne.symm nIC)
        have hn₂ : h₂.Ns C m' := hoC.ns (N₂ _ mC₂).1
        refine wpAny_assign_Name (wpAny_storeName_local (lookup_relabel_local hx) hn₂ (fun h₃ hn₃ hs₃ => ?_) (by simp [compEnvC, relabel, hkind]))
        obtain ⟨oC₃, heC₃, hoC₃⟩ := ns_obj hn₃
        obtain ⟨N₃, E₃, mC₃⟩ := evo_same N₂ mC₂ hs₃ heC₃ (nsObj_notT hoC)
        have F₃ : Fr h₀ L h₃ m := F₂.change hs₃ (N₂ _ mC₂).2.1 (N₂ _ mC₂).2.2
        have mI₃ : (I, oI₂) ∈ upd (upd Y I oI₂) C oC₃ := mem_upd_ne (mem_upd_self mI) nIC
        have mD₃ : (D, lst ys) ∈ upd (upd Y I oI₂) C oC₃ := mem_upd_ne (mem_upd_ne mD (Ne.symm nID)) nDC
        have hE₃ : Evo S X₀ (upd (upd Y I oI₂) C oC₃) := S3 (by simp) (S3 (by simp) hE E₂) E₃
        have hJ₃ : J i ys (upd (upd Y I oI₂) C oC₃) := J3 (by simp) (J3 (by simp) hJ E₂) E₃
        have hst₃ : St (i + 1) h₃ := hSt _ _ _ _ _ hst₂ heI₂ (N₃ _ mI₃).1 N₃ hE₃
        have after : ∀ s₄ ys', TurnEnd h₀ L m s₂ S (upd (upd Y I oI₂) C oC₃) (J (i + 1)) ys' s₄ → ∃ h₄ tk₄ Y₄, s₄ = { s₂ with heap := h₄, toks := tk₄ } ∧ St (i + 1) h₄ ∧ Fr h₀ L h₄ m ∧ News h₀ L h₄ Y₄ ∧ (I, oI₂) ∈ Y₄ ∧ (C, oC₃) ∈ Y₄ ∧ (D, lst ys) ∈ Y₄ ∧ J (i + 1) ys' Y₄ ∧ Evo S X₀ Y₄ := by
          rintro s₄ ys' ⟨h₄, tk₄, Y₄, rfl, F₄, N₄, E₄, hJ₄⟩
          have offS : ∀ a ∈ [I, C, D], a ∉ S := fun a ha hs => by
            obtain ⟨o, ho⟩ := hS a hs
            exact off3 _ ho ha
          have mI₄ := E₄ _ mI₃ fun z => absurd z (offS I (by simp))
          have mC₄ := E₄ _ mC₃ fun z => absurd z (offS C (by simp))
          have mD₄ := E₄ _ mD₃ fun z => absurd z (offS D (by simp))
          have hE₄ : Evo S X₀ Y₄ := hE₃.trans E₄
          have hst₄ : St (i + 1) h₄ := hSt _ _ _ _ _ hst₃ (N₃ _ mI₃).1 (N₄ _ mI₄).1 N₄ hE₄
          exact ⟨h₄, tk₄, Y₄, rfl, hst₄, F₄, N₄, mI₄, mC₄, mD₄, hJ₄, hE₄⟩
        refine wpAny_mono (step i v ys _ C oC₃ _ h₃ _ _ hlt hPv hJ₃ hE₃ mC₃ hoC₃ (by simp) F₃ N₃) (fun ok s₃ h₃ => ?_) fun _ _ e => e
        cases ok with
        | false =>
          simp only [Bool.false_eq_true, if_false] at h₃ ⊢
          obtain ⟨h₄, tk₄, Y₄, rfl, hst₄, F₄, N₄, mI₄, mC₄, mD₄, hJ₄, hE₄⟩ := after _ _ h₃
          exact ⟨n + 1 - (i + 1), by omega, h₄, tk₄, i + 1, ys, _, oI₂, oC₃, _, rfl, hlt, rfl, by omega, hst₄, F₄, N₄, mI₄, mC₄, hoC₃, mD₄, hJ₄, hE₄⟩
        | true =>
          simp only [if_true] at h₃ ⊢
          refine wpAny_mono h₃ (fun y s₄ h₄ => ?_) fun _ _ e => e
          obtain ⟨h₄, tk₄, Y₄, rfl, hst₄, F₄, N₄, mI₄, mC₄, mD₄, hJ₄, hE₄⟩ := after _ _ h₄
          refine append_at (hsz := by show ys.toArray.size ≤ sizeLine; rw [List.size_toArray, sizeLine_eq]; omega) (N₄ _ mD₄).1 fun h₅ hs₅ hD₅ => ?_
          obtain ⟨N₅, E₅, mD₅⟩ := evo_same N₄ mD₄ hs₅ (hD₅.trans (congrArg some (lst_snoc ys y))) (notT_cls (by show Value.type "list" ≠ Value.type "tuple"; decide))
          have mI₅ := mem_upd_ne (o' := lst (ys ++ [y])) mI₄ nID
          have hE₅ := S3 (by simp) hE₄ E₅
          exact ⟨n + 1 - (i + 1), by omega, h₅, tk₄, i + 1, ys ++ [y], _, oI₂, oC₃, _, rfl, hlt, rfl, by rw [List.length_append, List.length_singleton]; omega, hSt _ _ _ _ _ hst₄ (N₄ _ mI₄).1 (N₅ _ mI₅).1 N₅ hE₅, F₄.change hs₅ (N₄ _ mD₄).2.1 (N₄ _ mD₄).2.2, N₅,
            mI₅, mem_upd_ne mC₄ (Ne.symm nDC), hoC₃, mD₅, J3 (by simp) hJ₄ E₅, hE₅⟩
      · obtain rfl : i = n := Nat.le_antisymm hi (Nat.not_lt.mp hlt)
        refine W.done _ _ _ hst' fun h₂ tk₂ hk₂ => ?_
        have hTI : ¬ IsT oI := by
          obtain ⟨o', e, h⟩ := hIo _ _ hst'
          rw [(N' _ mI).1] at e; cases e; exact h
        have EF : Evo [I, C] Y (Y.filter fun p => p.1 ≠ I ∧ p.1 ≠ C) := fun p hp q => by
          refine List.mem_filter.mpr ⟨hp, decide_eq_true ⟨fun e => ?_, fun e => ?_⟩⟩
          · obtain ⟨a, ob⟩ := p
            obtain rfl : a = I := e
            exact hTI (News.same N' hp mI ▸ q (by simp))
          · obtain ⟨a, ob⟩ := p
            obtain rfl : a = C := e
            exact nsObj_notT hoC (News.same N' hp mC ▸ q (by simp))
        have offIC : ∀ p ∈ X₀, p.1 ∉ [I, C] := fun p hp z => off3 p hp (by simp only [List.mem_cons, List.not_mem_nil, or_false] at z ⊢; rcases z with z | z <;> simp [z])
        refine hRR D C h₂ tk₂ m' ys (Y.filter fun p => p.1 ≠ I ∧ p.1 ≠ C) (fr_but F' hk₂ hIL hI₀) (fun p hp => ?_) (EF _ mD fun z => by simp only [List.mem_cons, List.not_mem_nil, or_false] at z; rcases z with z | z; exact absurd z (Ne.symm nID); exact absurd z nDC)
          (hmono _ _ _ _ _ offIC EF hJ) (fun p hp q => EF p (hE p hp q) fun z => absurd z (offIC p hp)) (hoC.ns (hk₂ _ _ (by simpa using Ne.symm nIC) (N' _ mC).1)) (N' _ mC).2.2 (N' _ mC).2.1 (fun p hp => (of_decide_eq_true (List.mem_filter.mp hp).2).2)
        have z := List.mem_filter.mp hp
        exact ⟨hk₂ _ _ (by simpa using (of_decide_eq_true z.2).1) (N' p z.1).1, (N' p z.1).2⟩
    · rcases List.mem_cons.mp hp with rfl | hp
      · exact ⟨heI₁, Ne.symm hIL, hI₀⟩
      · rcases List.mem_cons.mp hp with rfl | hp
        · exact ⟨heC₁, Ne.symm nLC, fresh₀ C hDC⟩
        · rcases List.mem_cons.mp hp with rfl | hp
          · exact ⟨hacc, Ne.symm nLD, fresh₀ D (Nat.le_refl _)⟩
          · exact ⟨old _ _ (N p hp).1, (N p hp).2⟩
  exact codeAny_compStart_list (loop _ rfl) (W.self 0 _ _ _ hst₁ (loop _ rfl))

/-- how a source is walked -/
def Iters (prog : Program) (w : World) (A : Around) (h₀ : Heap) (L : Addr) (xv : Value) (s₁ : Shared) (S : List Addr) (X₀ : Led) (n : Nat) (P : Nat → Value → Prop) : Prop :=
  ∀ (Q' : Value → Shared → Prop) (E' : Value → Shared → Prop),
    (∀ I fp St h₂, Walks prog w A I fp [I] n P St → (∀ i h, St i h → ∃ o, h.get? I = some o ∧ ¬ IsT o) → (∀ i h h' o Y, St i h → h.get? I = some o → h'.get? I = some o → News h₀ L h' Y → Evo S X₀ Y → St i h') → St 0 h₂ → (∀ b ∈ fp, b < h₂.objs.size) →
      (∀ b o, s₁.heap.get? b = some o → h₂.get? b = some o) → I = s₁.heap.objs.size → (∀ b ∈ fp, b = I ∨ ∃ o, (b, o) ∈ X₀ ∧ (b ∈ S → IsT o)) → Q' (.ref I) { s₁ with heap := h₂ }) → wpAny (model prog w) A (pyIter xv) Q' E' s₁
theorem iters_tup {ax : Addr} {its : List Value} {n : Nat} {S : List Addr} {X₀ : Led} (hh : A.handled = none) (N : News h₀ L s.heap X₀) (hm : (ax, tupO its n) ∈ X₀) : Iters prog w A h₀ L (.ref ax) s S X₀ its.length (fun i v => its[i]? = some v) := fun Q' E' k => by
  have hl : s.heap.IsTuple ax its.toArray := ⟨_, N.get hm, rfl, _, rfl⟩
  have hlt : ax < s.heap.objs.size := Heap.lt_size (N.get hm)
  refine wpAny_pyIter_tuple hl (k s.heap.objs.size [s.heap.objs.size, ax] (fun i h => h.IsTupleIter s.heap.objs.size ax i ∧ h.IsTuple ax its.toArray) _ (by simpa using Walks.tuple (prog := prog) (w := w) hh s.heap.objs.size ax (Nat.ne_of_lt hlt) its.toArray)
    (fun i h st => ?_) (fun i h h' o Y st e e' N' hE => ?_) ⟨⟨_, Heap.get?_push_size _ rfl, rfl, rfl⟩, hl.push _⟩ (fun b hb => ?_) (fun b o e => Heap.get?_push_of_some _ e) rfl fun b hb => (List.mem_cons.mp hb).elim .inl fun hb => .inr ⟨_, List.mem_singleton.mp hb ▸ hm, fun _ => ⟨_, _, rfl, rfl⟩⟩)
  · obtain ⟨o, e, c, _⟩ := st.1
    exact ⟨o, e, notT_cls (by rw [c]; decide)⟩
  · exact ⟨by obtain ⟨o', q, r⟩ := st.1; rw [e] at q; cases q; exact ⟨o, e', r⟩, ⟨_, N'.get (hE.tup hm), rfl, _, rfl⟩⟩
  · show b < (s.heap.push _).objs.size
    rw [Heap.size_push]
    rcases List.mem_cons.mp hb with rfl | hb
    · exact Nat.lt_succ_self _
    · rw [List.mem_singleton.mp hb]; exact Nat.lt_succ_of_lt hlt
theorem iters_list {ax : Addr} {its : List Value} {n : Nat} {S : List Addr} {X₀ : Led} (hh : A.handled = none) (N : News h₀ L s.heap X₀) (hm : (ax, lstO its n) ∈ X₀) (hS : ax ∉ S) : Iters prog w A h₀ L (.ref ax) s S X₀ its.length (fun i v => its[i]? = some v) := fun Q' E' k => by
  have hl : s.heap.IsList ax its.toArray := News.isList N hm
  have hlt : ax < s.heap.objs.size := Heap.lt_size (N.get hm)
  refine wpAny_pyIter_list hl (k s.heap.objs.size [s.heap.objs.size, ax] (fun i h => h.IsListIter s.heap.objs.size ax i ∧ h.IsList ax its.toArray) _ (by simpa using Walks.list (prog := prog) (w := w) hh s.heap.objs.size ax (Nat.ne_of_lt hlt) its.toArray)
    (fun i h st => ?_) (fun i h h' o Y st e e' N' hE => ?_) ⟨⟨_, Heap.get?_push_size _ rfl, rfl, rfl⟩, hl.push _⟩ (fun b hb => ?_) (fun b o e => Heap.get?_push_of_some _ e) rfl fun b hb => (List.mem_cons.mp hb).elim .inl fun hb => .inr ⟨_, List.mem_singleton.mp hb ▸ hm, fun z => absurd (List.mem_singleton.mp hb ▸ z) hS⟩)
  · obtain ⟨o, e, c, _⟩ := st.1
    exact ⟨o, e, notT_cls (by rw [c]; decide)⟩
  · exact ⟨by obtain ⟨o', q, r⟩ := st.1; rw [e] at q; cases q; exact ⟨o, e', r⟩, News.isList N' (hE _ hm fun z => absurd z hS)⟩
  · show b < (s.heap.push _).objs.size
    rw [Heap.size_push]
    rcases List.mem_cons.mp hb with rfl | hb
    · exact Nat.lt_succ_self _
    · rw [List.mem_singleton.mp hb]; exact Nat.lt_succ_of_lt hlt
theorem iters_range {r : Addr} {a b : Int} {t u v : Tok} {n : Nat} {S : List Addr} {X₀ : Led} (hh : A.handled = none) (hr : IsRange s.heap r a b 1 t u v) (hsm : Builtin.Range.small a b 1 = true) (hn : Builtin.Range.rangeSize a b 1 = ((n : Nat) : Int)) :
    Iters prog w A h₀ L (.ref r) s S X₀ n (fun i v => ∃ t, v = .int (a + (i : Int)) t) := fun Q' E' k => by
  refine wpAny_pyIter_range hr hsm (k s.heap.objs.size [s.heap.objs.size] (fun i h => IsRangeIter h s.heap.objs.size (a + (i : Nat) * 1) ((n : Int) - (i : Nat)) 1) _ (range_walks hh a n)
    (fun i h st => ⟨_, st, notT_cls (by show Value.type "range_iterator" ≠ Value.type "tuple"; decide)⟩) (fun i h h' o Y st e e' N' hE => ?_) (by show IsRangeIter _ _ _ _ _; rw [hn]; simpa using Heap.get?_push_size _ rfl) (fun b hb => ?_) (fun b o e => Heap.get?_push_of_some _ e) rfl fun b hb => .inl (List.mem_singleton.mp hb))
  · have st' : h.get? s.heap.objs.size = some _ := st
    show h'.get? s.heap.objs.size = some _
    rw [e', ← e]; exact st'
  · rw [List.mem_singleton.mp hb]
    show s.heap.objs.size < (s.heap.push _).objs.size
    rw [Heap.size_push]; exact Nat.lt_succ_self _
/-- the source is reached: what the turns bring, and what is behind them -/
def SrcJ (prog : Program) (w : World) (A : Around) (h₀ : Heap) (L : Addr) (m : Str → Option Value) (env : Env) (elt : Expr) (x : Str) (scope : Scope) (cl : List (Str × Addr)) (Fin : Shared → Addr → Heap → Nat → List Value → Led → Prop) (xv : Value) (s₁ : Shared) : Prop :=
  ∃ X₀ S n P J, Iters prog w A h₀ L xv s₁ S X₀ n P ∧ Fr h₀ L s₁.heap m ∧ News h₀ L s₁.heap X₀ ∧ n ≤ 1000 ∧ (∀ a ∈ S, ∃ o, (a, o) ∈ X₀) ∧ J 0 [] X₀ ∧ Holds3 X₀ J ∧
    (∀ g, Turn prog w A h₀ L m env elt x scope cl { s₁ with heap := g } S X₀ n P J) ∧ ∀ D h tk ys Y, J n ys Y → Evo S X₀ Y → News h₀ L h Y → (D, lst ys) ∈ Y → Fin s₁ D h tk ys Y
theorem comp_eval {elt iter : Expr} {x : Str} {px : Pos} {scope : Scope} {cl : List (Str × Addr)} {pos : Pos} {Q : Value → Shared → Prop} (_F₀ : Fr h₀ L s.heap m)
    (hclos : closureFor scope env = pure cl) (hcell : ∀ y ∈ scope.names, y.2 ≠ .cell) (hkind : scope.kind = .function)
    (hnames : ∀ y ∈ scope.names, y.2 = .local → scope.names.lookup y.1 = some .local) (hx : scope.names.lookup x = some .local)
    (h : wpAny (model prog w) A (eval iter env) (SrcJ prog w A h₀ L m env elt x scope cl (fun s₁ D h tk _ _ => Fr h₀ L h m → Q (.ref D) { s₁ with heap := h, toks := tk })) E s)
    (hs : ∀ x, foldedSetIterable iter env x = pure x := by intro _; rfl) :
    wpAny (model prog w) A (eval (.ListComp elt [⟨.Name x px, iter, [], 0⟩] scope pos) env) Q E s := by
  rw [eval_ListComp]
  refine wpAny_comprehension_free (use := none) rfl hs hclos hkind hnames (wpAny_mono h (fun xv s₁ h₁ => ?_) fun _ _ e => e)
  obtain ⟨X₀, S, n, P, J, hI, F, N, hsz, hS, hJ0, hm, hT, hfin⟩ := h₁
  refine hI _ _ fun I fp St h₂ W hIo hSt hst hfp up hIe _ => ?_
  subst hIe
  refine comp_block W hsz hIo hSt hcell hkind hx hst hfp (F.keeps up) (N.grown up) (Nat.ne_of_lt F.ns.lt) (next_is_new F) (fun p hp => Nat.ne_of_lt (Heap.lt_size (N p hp).1)) hS hJ0 hm (hT h₂).toT ?_
  intro D C h tk m' ys Y F' N' mD hJ hE hn hC₀ hCL offC
  exact ⟨m', hn, fun h'' hs'' => hfin D h'' tk ys Y hJ hE (fun p hp => ⟨hs''.extBut _ _ (offC p hp) (N' p hp).1, (N' p hp).2⟩) mD (F'.change hs'' hCL hC₀)⟩
theorem comp_assign {elt iter : Expr} {x y : Str} {px py : Pos} {scope : Scope} {cl : List (Str × Addr)} {pos spos : Pos} {Q : Flow → Shared → Prop} (_F₀ : Fr h₀ L s.heap m) (hLe : env.locals = L)
    (hsw : swapsWith (.ListComp elt [⟨.Name x px, iter, [], 0⟩] scope pos) (some (.Name y py)) spos.line env = pure true)
    (hclos : closureFor scope env = pure cl) (hcell : ∀ z ∈ scope.names, z.2 ≠ .cell) (hkind : scope.kind = .function)
    (hnames : ∀ z ∈ scope.names, z.2 = .local → scope.names.lookup z.1 = some .local) (hx : scope.names.lookup x = some .local)
    (hy : env.kindOf y = some .local) (hp : (env.scope.kind == .class || (env.scope.kind == .module && env.locals != env.globals)) = false)
    (h : wpAny (model prog w) A (eval iter env) (SrcJ prog w A h₀ L m env elt x scope cl (fun s₁ D h tk _ _ => Fr h₀ L h (fun z => if z = y then some (.ref D) else m z) → Q .next { s₁ with heap := h, toks := tk })) E s)
    (hs : ∀ x, foldedSetIterable iter env x = pure x := by intro _; rfl) :
    wpAny (model prog w) A (exec (.Assign [.Name y py] (.ListComp elt [⟨.Name x px, iter, [], 0⟩] scope pos) spos) env) Q E s := by
  subst hLe
  rw [exec_Assign_Name_used _ _ _ _ hsw]
  refine wpAny_bind (wpAny_standAt (wpAny_bind ?_))
  show wpAny _ A (do let _ ← comprehension (.ListComp elt [⟨.Name x px, iter, [], 0⟩] scope pos) scope env _ (newList []) false (eval iter env) (some (assign (.Name y py) env))) _ _ s
  refine wpAny_bind (wpAny_mono (wpAny_comprehension_free (use := some (assign (.Name y py) env)) (Q := fun _ s' => Q .next s') rfl hs hclos hkind hnames
    (wpAny_mono h (fun xv s₁ h₁ => ?_) fun _ _ e => e)) (fun _ s' hq => wpAny_pure (wpAny_pure hq)) fun _ _ e => e)
  obtain ⟨X₀, S, n, P, J, hI, F, N, hsz, hS, hJ0, hm, hT, hfin⟩ := h₁
  refine hI _ _ fun I fp St h₂ W hIo hSt hst hfp up hIe _ => ?_
  subst hIe
  refine comp_block W hsz hIo hSt hcell hkind hx hst hfp (F.keeps up) (N.grown up) (Nat.ne_of_lt F.ns.lt) (next_is_new F) (fun p hp => Nat.ne_of_lt (Heap.lt_size (N p hp).1)) hS hJ0 hm (hT h₂).toT ?_
  intro D C h tk m' ys Y F' N' mD hJ hE hn hC₀ hCL offC
  show wpAny _ A (assign (.Name y py) env (.ref D)) _ _ _
  refine wpAny_assign_Name (wpAny_storeName_local hy F'.ns (fun h₂ hn₂ hs₂ => ?_) hp)
  have hL₀ : h₀.get? env.locals = none := Heap.get?_none_of_le F'.above
  have F₂ : Fr h₀ env.locals h₂ (fun z => if z = y then some (.ref D) else m z) := ⟨hn₂, fun b o e => hs₂.extBut b o (fun q => by rw [q, hL₀] at e; cases e) (F'.keep b o e), F'.above⟩
  refine ⟨m', hn.sameBut hs₂ hCL, fun h'' hs'' => hfin D h'' _ ys Y hJ hE (fun p hp => ?_) mD (F₂.change hs'' hCL hC₀)⟩
  have z : h₂.get? p.1 = some p.2 := hs₂.extBut _ _ (N' p hp).2.1 (N' p hp).1
  exact ⟨hs''.extBut _ _ (offC p hp) z, (N' p hp).2⟩
/-- the source of a comprehension whose test lets no item pass -/
def SrcNo (prog : Program) (w : World) (A : Around) (h₀ : Heap) (L : Addr) (m : Str → Option Value) (env : Env) (c : Expr) (x : Str) (scope : Scope) (cl : List (Str × Addr)) (Fin : Shared → Addr → Heap → Nat → List Value → Led → Prop) (xv : Value) (s₁ : Shared) : Prop :=
  ∃ X₀ S n P J, Iters prog w A h₀ L xv s₁ S X₀ n P ∧ Fr h₀ L s₁.heap m ∧ News h₀ L s₁.heap X₀ ∧ n ≤ 1000 ∧ (∀ a ∈ S, ∃ o, (a, o) ∈ X₀) ∧ J 0 [] X₀ ∧ Holds3 X₀ J ∧
    (∀ g, TurnNo prog w A h₀ L m env c x scope cl { s₁ with heap := g } S X₀ n P J) ∧ ∀ D h tk ys Y, J n ys Y → Evo S X₀ Y → News h₀ L h Y → (D, lst ys) ∈ Y → Fin s₁ D h tk ys Y
theorem comp_no {elt iter c : Expr} {x : Str} {px : Pos} {scope : Scope} {cl : List (Str × Addr)} {pos : Pos} {Q : Value → Shared → Prop} (_F₀ : Fr h₀ L s.heap m)
    (hclos : closureFor scope env = pure cl) (hcell : ∀ y ∈ scope.names, y.2 ≠ .cell) (hkind : scope.kind = .function)
    (hnames : ∀ y ∈ scope.names, y.2 = .local → scope.names.lookup y.1 = some .local) (hx : scope.names.lookup x = some .local)
    (h : wpAny (model prog w) A (eval iter env) (SrcNo prog w A h₀ L m env c x scope cl (fun s₁ D h tk _ _ => Fr h₀ L h m → Q (.ref D) { s₁ with heap := h, toks := tk })) E s)
    (hs : ∀ x, foldedSetIterable iter env x = pure x := by intro _; rfl) :
    wpAny (model prog w) A (eval (.ListComp elt [⟨.Name x px, iter, [c], 0⟩] scope pos) env) Q E s := by
  rw [eval_ListComp]
  refine wpAny_comprehension_free (use := none) rfl hs hclos hkind hnames (wpAny_mono h (fun xv s₁ h₁ => ?_) fun _ _ e => e)
  obtain ⟨X₀, S, n, P, J, hI, F, N, hsz, hS, hJ0, hm, hT, hfin⟩ := h₁
  refine hI _ _ fun I fp St h₂ W hIo hSt hst hfp up hIe _ => ?_
  subst hIe
  refine comp_block W hsz hIo hSt hcell hkind hx hst hfp (F.keeps up) (N.grown up) (Nat.ne_of_lt F.ns.lt) (next_is_new F) (fun p hp => Nat.ne_of_lt (Heap.lt_size (N p hp).1)) hS hJ0 hm (hT h₂).toT ?_
  intro D C h tk m' ys Y F' N' mD hJ hE hn hC₀ hCL offC
  exact ⟨m', hn, fun h'' hs'' => hfin D h'' tk ys Y hJ hE (fun p hp => ⟨hs''.extBut _ _ (offC p hp) (N' p hp).1, (N' p hp).2⟩) mD (F'.change hs'' hCL hC₀)⟩
end
end
section
-- nofill
section
open PyProof.Rows.LCg
variable {prog : Program} {w : World} {A : Around} {E : Value → Shared → Prop} {s : Shared} {h₀ : Heap} {env : Env}
def ForEnd (h₀ : Heap) (L : Addr) (s₂ : Shared) (S : List Addr) (Y : Led) (Jn : (Str → Option Value) → Led → Prop) (Q : Flow → Shared → Prop) : Flow → Shared → Prop
  | .ret v, s' => Q (.ret v) s'
  | .brk, s' => Q .next s'
  | _, s' => ∃ h' tk' m' Y', s' = { s₂ with heap := h', toks := tk' } ∧ Fr h₀ L h' m' ∧ News h₀ L h' Y' ∧ Evo S Y Y' ∧ Jn m' Y'
theorem ForEnd.intro {L : Addr} {s₂ : Shared} {S : List Addr} {Y Y' : Led} {Jn : (Str → Option Value) → Led → Prop} {Q : Flow → Shared → Prop} {h' : Heap} {tk' : Nat} {m' : Str → Option Value} (F : Fr h₀ L h' m') (N : News h₀ L h' Y') (e : Evo S Y Y') (hJ : Jn m' Y') :
    ForEnd h₀ L s₂ S Y Jn Q .next { s₂ with heap := h', toks := tk' } := ⟨h', tk', m', Y', rfl, F, N, e, hJ⟩
theorem ForEnd.ret {L : Addr} {s₂ s' : Shared} {S : List Addr} {Y : Led} {Jn : (Str → Option Value) → Led → Prop} {Q : Flow → Shared → Prop} {v : Value} (h : Q (.ret v) s') : ForEnd h₀ L s₂ S Y Jn Q (.ret v) s' := h
def ForTurn (prog : Program) (w : World) (A : Around) (h₀ : Heap) (env : Env) (x : Str) (body : List Stmt) (s₂ : Shared) (S : List Addr) (X₀ : Led) (n : Nat) (P : Nat → Value → Prop) (J : Nat → (Str → Option Value) → Led → Prop) (Q : Flow → Shared → Prop) (E : Value → Shared → Prop) : Prop :=
  ∀ i v m₁ Y h tk, i < n → P i v → J i m₁ Y → Evo S X₀ Y → Fr h₀ env.locals h (fun y => if y = x then some v else m₁ y) → News h₀ env.locals h Y →
    wpAny (model prog w) A (execs body env) (ForEnd h₀ env.locals s₂ S Y (J (i + 1)) Q) E { s₂ with heap := h, toks := tk }
def HoldsF (X₀ : Led) (J : Nat → (Str → Option Value) → Led → Prop) : Prop := ∀ i m Y Y' S₃, (∀ p ∈ X₀, p.1 ∉ S₃) → Evo S₃ Y Y' → J i m Y → J i m Y'
def ForJ (prog : Program) (w : World) (A : Around) (h₀ : Heap) (env : Env) (x : Str) (body : List Stmt) (Q : Flow → Shared → Prop) (E : Value → Shared → Prop) (xv : Value) (s₁ : Shared) : Prop :=
  ∃ X₀ S n P m₀ J, Iters prog w A h₀ env.locals xv s₁ S X₀ n P ∧ Fr h₀ env.locals s₁.heap m₀ ∧ News h₀ env.locals s₁.heap X₀ ∧ (∀ a ∈ S, ∃ o, (a, o) ∈ X₀) ∧ J 0 m₀ X₀ ∧ HoldsF X₀ J ∧
    (∀ g, ForTurn prog w A h₀ env x body { s₁ with heap := g } S X₀ n P J Q E) ∧ ∀ h tk m' Y, J n m' Y → Evo S X₀ Y → Fr h₀ env.locals h m' → News h₀ env.locals h Y → Q .next { s₁ with heap := h, toks := tk }
theorem for_led {x : Str} {px pos : Pos} {iter : Expr} {body : List Stmt} {Q : Flow → Shared → Prop} {m : Str → Option Value} (_F₀ : Fr h₀ env.locals s.heap m) (hx : env.kindOf x = some .local)
    (hp : (env.scope.kind == .class || (env.scope.kind == .module && env.locals != env.globals)) = false)
    (h : wpAny (model prog w) A (eval iter env) (ForJ prog w A h₀ env x body Q E) E s)
    (hs : ∀ x, foldedSetIterable iter env x = pure x := by intro _; rfl)
    (hE : PassesOwn (model prog w) A env E := by passes_own) :
    wpAny (model prog w) A (exec (.For (.Name x px) iter body [] pos) env) Q E s := by
  refine For_invV h₀ hx hp (wpAny_mono h (fun xv s₁ h₁ => ?_) fun _ _ e => e) hs hE
  obtain ⟨X₀, S, n, P, m₀, J, hI, F, N, hS, hJ0, hmono, turn, fin⟩ := h₁
  refine hI _ _ fun I fp St h₂ W hIo hSt hst hfp up hIe hfo => ?_
  have offX : ∀ p ∈ X₀, p.1 ≠ I := fun p hp e => Nat.lt_irrefl I (by have := Heap.lt_size (N p hp).1; rw [← hIe, e] at this; exact this)
  have hIL : env.locals ≠ I := hIe ▸ Nat.ne_of_lt F.ns.lt
  have hI₀ : h₀.get? I = none := hIe ▸ next_is_new F
  have hIS : I ∉ S := fun z => let ⟨o, ho⟩ := hS I z; offX _ ho rfl
  refine ⟨I, fp, [I], n, P, St, m₀, X₀, fun i m Y => J i m Y ∧ Evo S X₀ Y, rfl, W, fun z => ?_, fun b hb => by rw [List.mem_singleton.mp hb]; exact hI₀, fun p hp z => offX p hp (List.mem_singleton.mp z), hst, F.keeps up, N.grown up, ⟨hJ0, Evo.refl⟩, ?_, ?_⟩
  · rcases hfo _ z with e | ⟨o, ho, _⟩
    · exact hIL e
    · exact (N _ ho).2.1 rfl
  · rintro i v m₁ Y s₂ own ⟨hh, tk, rfl⟩ hi hP ⟨hJ, hE'⟩ hoff hown hget hall hst' F' N'
    have eR : Evo [] Y (own ++ Y) := fun p hp _ => List.mem_append.mpr (.inr hp)
    refine wpAny_mono (turn h₂ i v m₁ (own ++ Y) hh tk hi hP (hmono _ _ _ _ [] (fun _ _ z => nomatch z) eR hJ) (hE'.trans (Evo.nil eR)) F' N') (fun f s' hf => ?_) fun _ _ e => e
    have fin2 : (∃ h' tk' m' Y', s' = { { s₁ with heap := h₂ } with heap := h', toks := tk' } ∧ Fr h₀ env.locals h' m' ∧ News h₀ env.locals h' Y' ∧ Evo S (own ++ Y) Y' ∧ J (i + 1) m' Y') →
        LoopStepU h₀ env.locals [I] own (fun m Y => J (i + 1) m Y ∧ Evo S X₀ Y) { { s₁ with heap := h₂ } with heap := hh, toks := tk } .next s' := by
      rintro ⟨h', tk', m', Y', rfl, F₃, N₃, E₃, hJ₃⟩
      have keepOwn : ∀ p ∈ own, p ∈ Y' := by
        rintro ⟨b, oo⟩ hp
        rcases hfo _ (hown _ hp) with e | ⟨o, ho, hT⟩
        · exact E₃ _ (List.mem_append.mpr (.inl hp)) fun z => absurd (e ▸ z) hIS
        · have hY := hE' _ ho hT
          obtain rfl : oo = o := News.same N' (List.mem_append.mpr (.inl hp)) (List.mem_append.mpr (.inr hY))
          exact E₃ _ (List.mem_append.mpr (.inl hp)) hT
      obtain ⟨oI, hoI, hTI⟩ := hIo _ _ hst'
      have mI := keepOwn _ (hall I (W.sub I (List.mem_singleton.mpr rfl)) hI₀ oI hoI)
      have eF : Evo [I] Y' (Y'.filter fun p => p.1 ≠ I) := fun p hp q => List.mem_filter.mpr ⟨hp, decide_eq_true fun e => by
        obtain ⟨b, ob⟩ := p
        obtain rfl : b = I := e
        exact hTI (News.same N₃ hp mI ▸ q (List.mem_singleton.mpr rfl))⟩
      exact ⟨rfl, h', tk', m', Y'.filter fun p => p.1 ≠ I, rfl, F₃, fun p hp => (List.mem_append.mp hp).elim (fun z => N₃ p (keepOwn p z)) fun z => N₃ p (List.mem_filter.mp z).1,
        fun p hp z => (of_decide_eq_true (List.mem_filter.mp hp).2) (List.mem_singleton.mp z), hmono _ _ _ _ [I] (fun p hp z => offX p hp (List.mem_singleton.mp z)) eF hJ₃,
        fun p hp q => eF p ((hE'.trans (Evo.nil eR)).trans E₃ p hp q) fun z => absurd (List.mem_singleton.mp z) (offX p hp)⟩
    cases f with
    | ret v => exact hf
    | brk => exact hf
    | next => exact fin2 hf
    | cont => exact fin2 hf
  · rintro h' tk m' Y F' N' _ ⟨hJ, hE'⟩
    exact fin h' tk m' Y hJ hE' F' N'
end
end
section
-- nofill
def Sh.size : Sh → Nat
  | .neg a => a.size + 1
  | .con a b => a.size + b.size + 1
  | .dis a b => a.size + b.size + 1
  | _ => 0
theorem Sh.size_lt : ∀ x : Sh, x.size + 1 ≤ 2 ^ x.dp
  | .c _ => (show 0 + 1 ≤ 2 ^ 1 by decide)
  | .tt => (show 0 + 1 ≤ 2 ^ 1 by decide)
  | .ff => (show 0 + 1 ≤ 2 ^ 1 by decide)
  | .neg a => by
    have := Sh.size_lt a
    simp only [Sh.size, Sh.dp, Nat.pow_succ]; omega
  | .con a b => by
    have h1 := Nat.le_trans (Sh.size_lt a) (Nat.pow_le_pow_right (by decide) (Nat.le_max_left a.dp b.dp))
    have h2 := Nat.le_trans (Sh.size_lt b) (Nat.pow_le_pow_right (by decide) (Nat.le_max_right a.dp b.dp))
    simp only [Sh.size, Sh.dp, Nat.pow_succ]; omega
  | .dis a b => by
    have h1 := Nat.le_trans (Sh.size_lt a) (Nat.pow_le_pow_right (by decide) (Nat.le_max_left a.dp b.dp))
    have h2 := Nat.le_trans (Sh.size_lt b) (Nat.pow_le_pow_right (by decide) (Nat.le_max_right a.dp b.dp))
    simp only [Sh.size, Sh.dp, Nat.pow_succ]; omega
theorem Sh.size_negs (n : Nat) (a : Sh) : (Sh.negs n a).size = a.size + n := by
  induction n with
  | zero => rfl
  | succ n ih => rw [Sh.negs, Sh.size, ih]; omega
theorem Sh.size_bare : ∀ a : Sh, a.bare.size ≤ a.size
  | .neg a => Nat.le_succ_of_le (Sh.size_bare a)
  | .c _ => Nat.le_refl _ | .tt => Nat.le_refl _ | .ff => Nat.le_refl _ | .con .. => Nat.le_refl _ | .dis .. => Nat.le_refl _
theorem Sh.dp_bare : ∀ a : Sh, a.bare.dp ≤ a.dp
  | .neg a => Nat.le_succ_of_le (Sh.dp_bare a)
  | .c _ => Nat.le_refl _ | .tt => Nat.le_refl _ | .ff => Nat.le_refl _ | .con .. => Nat.le_refl _ | .dis .. => Nat.le_refl _
/-- the term t of the table says the shape -/
inductive Den (T : List Key) : Nat → Sh → Prop where
  | c {t i : Nat} : T[t]? = some (Str.ofString "app", [], 0, (i : Int)) → i < 3 → Den T t (.c i)
  | tt {t : Nat} : T[t]? = some (Str.ofString "true", [], 0, 0) → Den T t .tt
  | ff {t : Nat} : T[t]? = some (Str.ofString "false", [], 0, 0) → Den T t .ff
  | neg {t a : Nat} {x : Sh} : T[t]? = some (Str.ofString "not", [(a : Int)], 0, 0) → Den T a x → Den T t (.neg x)
  | con {t a b : Nat} {x y : Sh} : T[t]? = some (Str.ofString "and", [(a : Int), (b : Int)], 0, 0) → Den T a x → Den T b y → Den T t (.con x y)
  | dis {t a b : Nat} {x y : Sh} : T[t]? = some (Str.ofString "or", [(a : Int), (b : Int)], 0, 0) → Den T a x → Den T b y → Den T t (.dis x y)
theorem get_more {α : Type} {T T' : List α} {k : α} {i : Nat} (h : T[i]? = some k) : (T ++ T')[i]? = some k := by
  rw [List.getElem?_append_left (List.getElem?_eq_some_iff.mp h).1]; exact h
theorem Den.mono {T : List Key} {t : Nat} {x : Sh} (T' : List Key) (h : Den T t x) : Den (T ++ T') t x := by
  induction h with
  | c h l => exact .c (get_more h) l
  | tt h => exact .tt (get_more h)
  | ff h => exact .ff (get_more h)
  | neg h _ ih => exact .neg (get_more h) ih
  | con h _ _ i j => exact .con (get_more h) i j
  | dis h _ _ i j => exact .dis (get_more h) i j
theorem s_inj {a b : String} (h : Str.ofString a = Str.ofString b) (hd : (Str.ofString a == Str.ofString b) = false) : False := by
  rw [h] at hd; simp at hd
theorem Den.inj {T : List Key} {t : Nat} {x y : Sh} (h : Den T t x) (h' : Den T t y) : x = y := by
  induction h generalizing y with
  | c h l =>
    cases h' with
    | c h' _ => rw [h] at h'; simp only [Option.some.injEq, Prod.mk.injEq, true_and, Int.ofNat_inj] at h'; rw [h']
    | tt h' | ff h' | neg h' | con h' | dis h' => rw [h] at h'; exact (s_inj (Prod.mk.inj (Option.some.inj h')).1 (by decide)).elim
  | tt h =>
    cases h' with
    | tt h' => rfl
    | c h' | ff h' | neg h' | con h' | dis h' => rw [h] at h'; exact (s_inj (Prod.mk.inj (Option.some.inj h')).1 (by decide)).elim
  | ff h =>
    cases h' with
    | ff h' => rfl
    | c h' | tt h' | neg h' | con h' | dis h' => rw [h] at h'; exact (s_inj (Prod.mk.inj (Option.some.inj h')).1 (by decide)).elim
  | neg h _ ih =>
    cases h' with
    | neg h' k =>
      rw [h] at h'
      simp only [Option.some.injEq, Prod.mk.injEq, List.cons.injEq, Int.ofNat_inj, and_true, true_and] at h'
      subst h'
      rw [ih k]
    | c h' | tt h' | ff h' | con h' | dis h' => rw [h] at h'; exact (s_inj (Prod.mk.inj (Option.some.inj h')).1 (by decide)).elim
  | con h _ _ i j =>
    cases h' with
    | con h' k l =>
      rw [h] at h'
      simp only [Option.some.injEq, Prod.mk.injEq, List.cons.injEq, Int.ofNat_inj, and_true, true_and] at h'
      obtain ⟨e1, e2⟩ := h'
      subst e1 e2
      rw [i k, j l]
    | c h' | tt h' | ff h' | neg h' | dis h' => rw [h] at h'; exact (s_inj (Prod.mk.inj (Option.some.inj h')).1 (by decide)).elim
  | dis h _ _ i j =>
    cases h' with
    | dis h' k l =>
      rw [h] at h'
      simp only [Option.some.injEq, Prod.mk.injEq, List.cons.injEq, Int.ofNat_inj, and_true, true_and] at h'
      obtain ⟨e1, e2⟩ := h'
      subst e1 e2
      rw [i k, j l]
    | c h' | tt h' | ff h' | neg h' | con h' => rw [h] at h'; exact (s_inj (Prod.mk.inj (Option.some.inj h')).1 (by decide)).elim
theorem at_uniq {T : List Key} (hn : T.Nodup) {i j : Nat} {k : Key} (h : T[i]? = some k) (h' : T[j]? = some k) : i = j :=
  (List.getElem?_inj (List.getElem?_eq_some_iff.mp h).1 hn).mp (h.trans h'.symm)
theorem Den.uniq {T : List Key} (hn : T.Nodup) {t u : Nat} {x : Sh} (h : Den T t x) (h' : Den T u x) : t = u := by
  induction h generalizing u with
  | c h l => cases h' with | c h' _ => exact at_uniq hn h h'
  | tt h => cases h' with | tt h' => exact at_uniq hn h h'
  | ff h => cases h' with | ff h' => exact at_uniq hn h h'
  | neg h _ ih => cases h' with | neg h' k => rw [ih k] at h; exact at_uniq hn h h'
  | con h _ _ i j => cases h' with | con h' k l => rw [i k, j l] at h; exact at_uniq hn h h'
  | dis h _ _ i j => cases h' with | dis h' k l => rw [i k, j l] at h; exact at_uniq hn h h'
section
variable {prog : Program} {w : World} {A : Around} {E : Value → Shared → Prop} {s : Shared} {h₀ : Heap} {L t : Addr} {m : Str → Option Value} {news : Led} {x : Value} {r : List Value} {n : Nat} {u : Tok} {value slice : PySem.Expr} {Q : Value → Shared → Prop}
theorem slice1 (F : Fr h₀ L s.heap m) (N : News h₀ L s.heap news) (hm : (t, tupO (x :: r) n) ∈ news) (hz : r.length ≤ 100)
    (h : ∀ D h', Fr h₀ L h' m → News h₀ L h' ((D, tupO r 0) :: news) → Q (.ref D) { s with heap := h' })
    (hs : subscripted slice false (.ref t) (.ref s.heap.objs.size) = operate [.ref s.heap.objs.size, .ref t] (getItem (.ref t) (.ref s.heap.objs.size)) := by with_unfolding_all rfl)
    (hg : ∀ r, letTemporaryGo value (.ref t) r = pure () := by intro _; with_unfolding_all rfl) :
    wpAny (model prog w) A (subscriptTail value slice (.ref t) (.ref s.heap.objs.size)) Q E { s with heap := s.heap.push { cls := .type "slice", data := .fields #[.int 1 u, .none, .none] } } :=
  slice_tuple_from (a := 1) F N (News.isTup N hm) (Nat.le_refl _) (by simp) (fun h' F' N' => h _ h' F' (by simpa using N')) hs hg (by rw [sizeLine_eq]; simp; omega)
end
end
section
def TF (news : Led) (S : BankA) (i j : Nat) : Prop :=
  ∃ es n t u, (S.db, dictOf es n) ∈ news ∧ getL "true_number" es = some (some (.int i t)) ∧ getL "false_number" es = some (some (.int j u)) ∧ getL "bool_term" es = some none ∧ getL "make" es = some none
theorem TF.mono {news news' : Led} {S : BankA} {i j : Nat} {X : List Addr} (x : TF news S i j) (h : S.db ∉ X) (e : Evo X news news') : TF news' S i j :=
  let ⟨es, n, t, u, a, r⟩ := x; ⟨es, n, t, u, e _ a fun z => absurd z h, r⟩
example : True := by
  k_with_none
  (k_with "k_ne" => (refine neN ?_; (try dsimp only); first | exact Nat.ne_of_gt (by with_reducible assumption) | exact Nat.ne_of_lt (by with_reducible assumption) | exact Nat.ne_of_gt (And.left (by with_reducible assumption)) | exact Nat.ne_of_lt (And.left (by with_reducible assumption)) | exact Nat.ne_of_gt (And.left (And.right (by with_reducible assumption))) | exact Nat.ne_of_lt (And.left (And.right (by with_reducible assumption))) | exact Nat.ne_of_gt (And.left (And.right (And.right (by with_reducible assumption)))) | exact Nat.ne_of_lt (And.left (And.right (And.right (by with_reducible assumption)))) | exact Nat.ne_of_gt (And.left (And.right (And.right (And.right (by with_reducible assumption))))) | exact Nat.ne_of_lt (And.left (And.right (And.right (And.right (by with_reducible assumption))))) | exact Nat.ne_of_gt (And.left (And.right (And.right (And.right (And.right (by with_reducible assumption)))))) | exact Nat.ne_of_gt (And.left (And.right (And.right (And.right (And.right (And.right (by with_reducible assumption))))))) | exact Nat.ne_of_gt (And.left (And.right (And.right (And.right (And.right (And.right (And.right (by with_reducible assumption)))))))) | exact Nat.ne_of_gt (And.left (And.right (And.right (And.right (And.right (And.right (And.right (And.right (by with_reducible assumption))))))))) | exact Nat.ne_of_gt (And.left (And.right (And.right (And.right (And.right (And.right (And.right (And.right (And.right (by with_reducible assumption)))))))))) | exact Nat.ne_of_gt (And.left (And.right (And.right (And.right (And.right (And.right (And.right (And.right (And.right (And.right (by with_reducible assumption))))))))))) | exact Nat.ne_of_gt (And.left (And.right (And.right (And.right (And.right (And.right (And.right (And.right (And.right (And.right (And.right (by with_reducible assumption)))))))))))) | exact Nat.ne_of_gt (And.left (And.right (And.right (And.right (And.right (And.right (And.right (And.right (And.right (And.right (And.right (And.right (by with_reducible assumption))))))))))))) | exact Nat.ne_of_gt (And.left (And.right (And.right (And.right (And.right (And.right (And.right (And.right (And.right (And.right (And.right (And.right (And.right (by with_reducible assumption))))))))))))))))
  (k_with "k_mem" => first | assumption | exact List.Mem.head _ | exact List.Mem.tail _ (by k_mem))
  (k_with "k_get" => assumption)
  trivial
theorem bool_term_ok {prog : Program} {w : World} {news : Led} {S : BankA} {i j : Nat} {b : Bool} (hin : (S.b, instObj 415 S.db) ∈ news) (hT : TF news S i j) :
    Does prog w 293 [.ref S.b, .bool b] 2 10 news (fun r news' => (∃ t, r = .int (if b then (i : Int) else j) t) ∧ news' = news) := by
  obtain ⟨es, n, t, u, hd, g1, g2, g3, g4⟩ := hT
  cases b
  all_goals
    unfold Does
    intro p loose mean mg mb dp un gd env outer A₀ base h₀ L m s R B F X N T hf hke hdp hun hret
    refine' code_def B F X N T rfl hf hke ?k6 ?k7 ?k8 ?k9 ?kB ?_ ?c2 ?c3 ?c4 ?c5
    case k6 => k_dflt k_is
    case k7 => k_dflt k_is
    case k8 => show dp < 1000; omega
    case k9 => exact BindsTo.of_eq rfl
    case c5 => decide
    case kB => exact locs rfl
    case c2 => exact rfl
    case c3 => exact rfl
    case c4 => exact rfl
    intro g' L' h' FG' F' N' B' X' T'
    (try dsimp only)
    (try k_fold)
    k_steps
    all_goals exact hret _ _ _ _ (by k_asm) (by k_asm) ⟨⟨_, rfl⟩, rfl⟩
end
section
def Consts (T : List Key) (cs : List Value) : Prop := ∀ i, i < 3 → ∃ (t : Nat) (tk : Tok), cs[((i : Nat) : Int).toNat]? = some (.int t tk) ∧ Den T t (.c i)
theorem Consts.mono {T : List Key} {cs : List Value} (h : Consts T cs) (T' : List Key) : Consts (T ++ T') cs := fun i hi => let ⟨t, tk, a, b⟩ := h i hi; ⟨t, tk, a, b.mono T'⟩
def TFs (news : Led) (S : BankA) (T : List Key) : Prop := ∃ i j, TF news S i j ∧ Den T i .tt ∧ Den T j .ff
theorem TFs.mono {news news' : Led} {S : BankA} {T : List Key} {X : List Addr} (x : TFs news S T) (h : S.db ∉ X) (e : Evo X news news') (T' : List Key) : TFs news' S (T ++ T') :=
  let ⟨i, j, a, b, c⟩ := x; ⟨i, j, a.mono h e, b.mono T', c.mono T'⟩
def PutDoes (prog : Program) (w : World) (S : BankA) (so : Addr) (x : Sh) : Prop :=
  ∀ (news : Led) (T : List Key) (v : Value) (cs : List Value) (n : Nat), ShIn news v x → Bank prog w news S T → TFs news S T → (so, lstO cs n) ∈ news → so ∉ S.all → Consts T cs → T.length + x.size ≤ 5000 →
    Does prog w 574 [.ref S.b, .ref so, v] (4 * x.dp + 10) (30 * x.dp + 60) news (fun r news' => ∃ (t : Nat) (tk : Tok) (T' : List Key), r = .int t tk ∧ Bank prog w news' S (T ++ T') ∧ Den (T ++ T') t x ∧ (T ++ T').length ≤ T.length + x.size ∧ Evo S.mut news news')
example : True := by
  k_with_none
  (k_with "k_ne" => (refine neN ?_; (try dsimp only); first | exact Nat.ne_of_gt (by with_reducible assumption) | exact Nat.ne_of_lt (by with_reducible assumption) | exact Nat.ne_of_gt (And.left (by with_reducible assumption)) | exact Nat.ne_of_lt (And.left (by with_reducible assumption)) | exact Nat.ne_of_gt (And.left (And.right (by with_reducible assumption))) | exact Nat.ne_of_lt (And.left (And.right (by with_reducible assumption))) | exact Nat.ne_of_gt (And.left (And.right (And.right (by with_reducible assumption)))) | exact Nat.ne_of_lt (And.left (And.right (And.right (by with_reducible assumption)))) | exact Nat.ne_of_gt (And.left (And.right (And.right (And.right (by with_reducible assumption))))) | exact Nat.ne_of_lt (And.left (And.right (And.right (And.right (by with_reducible assumption))))) | exact Nat.ne_of_gt (And.left (And.right (And.right (And.right (And.right (by with_reducible assumption)))))) | exact Nat.ne_of_gt (And.left (And.right (And.right (And.right (And.right (And.right (by with_reducible assumption))))))) | exact Nat.ne_of_gt (And.left (And.right (And.right (And.right (And.right (And.right (And.right (by with_reducible assumption)))))))) | exact Nat.ne_of_gt (And.left (And.right (And.right (And.right (And.right (And.right (And.right (And.right (by with_reducible assumption))))))))) | exact Nat.ne_of_gt (And.left (And.right (And.right (And.right (And.right (And.right (And.right (And.right (And.right (by with_reducible assumption)))))))))) | exact Nat.ne_of_gt (And.left (And.right (And.right (And.right (And.right (And.right (And.right (And.right (And.right (And.right (by with_reducible assumption))))))))))) | exact Nat.ne_of_gt (And.left (And.right (And.right (And.right (And.right (And.right (And.right (And.right (And.right (And.right (And.right (by with_reducible assumption)))))))))))) | exact Nat.ne_of_gt (And.left (And.right (And.right (And.right (And.right (And.right (And.right (And.right (And.right (And.right (And.right (And.right (by with_reducible assumption))))))))))))) | exact Nat.ne_of_gt (And.left (And.right (And.right (And.right (And.right (And.right (And.right (And.right (And.right (And.right (And.right (And.right (And.right (by with_reducible assumption))))))))))))))))
  (k_with "k_mem" => first | assumption | exact List.Mem.head _ | exact List.Mem.tail _ (by k_mem))
  (k_with "subscriptTail" => ((with_reducible show wpAny _ _ (subscriptTail _ _ (Value.ref _) (Value.int _ _)) _ _ _); k_dflt (first
      | (refine' item_tupleT (by exact News.isTup (by k_asm) (by k_mem)) (by decide) (by decide) (by rfl) (by rfl) ?_; k_whole)
      | (refine' item_at (by k_asm) (by k_mem) (by omega) (by omega) (by assumption) ?_))))
  trivial
theorem put_c {prog : Program} {w : World} {S : BankA} {so : Addr} {i : Nat} : PutDoes prog w S so (.c i) := by
  intro news T v cs n hv hB hT hso hsn hC hz
  cases hv
  rename_i hi
  obtain ⟨t, tkc, hc, hD⟩ := hC _ hi
  unfold Does
  intro p loose mean mg mb dp un gd env outer A₀ base h₀ L m s R B F X N T hf hke hdp hun hret
  refine' code_defC B F X N T rfl hf hke ?k6 ?k7 ?k8 ?k9 ?kB ?kD ?_ ?c2 ?c3 ?c4
  case k6 => k_dflt k_is
  case k7 => k_dflt k_is
  case k8 => show dp < 1000; omega
  case k9 => exact BindsTo.of_eq rfl
  case kB => exact rfl
  case kD => decide +kernel
  case c2 => exact rfl
  case c3 => exact rfl
  case c4 => exact rfl
  intro g' L' h' tk' cells' FG' F' N' Y' B' X' T' l1
  k_cells Y'
  (try simp only [List.cons_append, List.nil_append] at N')
  (try dsimp only)
  (try k_fold)
  k_steps
  all_goals exact hret _ _ _ _ (by k_asm) (by k_asm) ⟨t, _, [], rfl, by rw [List.append_nil]; exact hB.mono (X := []) (fun _ _ h => absurd h List.not_mem_nil) (fun p hp _ => .tail _ (.tail _ hp)), by rw [List.append_nil]; exact hD, by rw [List.append_nil]; exact Nat.le_add_right _ _, fun p hp _ => .tail _ (.tail _ hp)⟩
end
section
example : True := by
  k_with_none
  (k_with "k_ne" => (refine neN ?_; (try dsimp only); first | exact Nat.ne_of_gt (by with_reducible assumption) | exact Nat.ne_of_lt (by with_reducible assumption) | exact Nat.ne_of_gt (And.left (by with_reducible assumption)) | exact Nat.ne_of_lt (And.left (by with_reducible assumption)) | exact Nat.ne_of_gt (And.left (And.right (by with_reducible assumption))) | exact Nat.ne_of_lt (And.left (And.right (by with_reducible assumption))) | exact Nat.ne_of_gt (And.left (And.right (And.right (by with_reducible assumption)))) | exact Nat.ne_of_lt (And.left (And.right (And.right (by with_reducible assumption)))) | exact Nat.ne_of_gt (And.left (And.right (And.right (And.right (by with_reducible assumption))))) | exact Nat.ne_of_lt (And.left (And.right (And.right (And.right (by with_reducible assumption))))) | exact Nat.ne_of_gt (And.left (And.right (And.right (And.right (And.right (by with_reducible assumption)))))) | exact Nat.ne_of_gt (And.left (And.right (And.right (And.right (And.right (And.right (by with_reducible assumption))))))) | exact Nat.ne_of_gt (And.left (And.right (And.right (And.right (And.right (And.right (And.right (by with_reducible assumption)))))))) | exact Nat.ne_of_gt (And.left (And.right (And.right (And.right (And.right (And.right (And.right (And.right (by with_reducible assumption))))))))) | exact Nat.ne_of_gt (And.left (And.right (And.right (And.right (And.right (And.right (And.right (And.right (And.right (by with_reducible assumption)))))))))) | exact Nat.ne_of_gt (And.left (And.right (And.right (And.right (And.right (And.right (And.right (And.right (And.right (And.right (by with_reducible assumption))))))))))) | exact Nat.ne_of_gt (And.left (And.right (And.right (And.right (And.right (And.right (And.right (And.right (And.right (And.right (And.right (by with_reducible assumption)))))))))))) | exact Nat.ne_of_gt (And.left (And.right (And.right (And.right (And.right (And.right (And.right (And.right (And.right (And.right (And.right (And.right (by with_reducible assumption))))))))))))) | exact Nat.ne_of_gt (And.left (And.right (And.right (And.right (And.right (And.right (And.right (And.right (And.right (And.right (And.right (And.right (And.right (by with_reducible assumption))))))))))))))))
  (k_with "k_mem" => first | assumption | exact List.Mem.head _ | exact List.Mem.tail _ (by k_mem))
  (k_with "k_get" => assumption)
  (k_with "subscriptTail" => ((with_reducible show wpAny _ _ (subscriptTail _ _ (Value.ref _) (Value.int _ _)) _ _ _); k_dflt (first
      | (refine' item_tupleT (by exact News.isTup (by k_asm) (by k_mem)) (by decide) (by decide) (by rfl) (by rfl) ?_; k_whole))))
  (k_with "call builtin:len" => ((with_reducible show wpAny _ _ (call (Value.builtin "len") [Value.ref _]) _ _ _); k_dflt (refine' len_tup (by k_asm) (by k_mem) (by rfl) (by decide) ?_); intro _ _))
  (k_with "call ref" => ((with_reducible show wpAny _ _ (call (Value.ref 293) _ _) _ _ _); k_dflt (refine' Does.on (by k_asm) (by k_asm) (by k_asm) (by k_asm) (by k_asm) (bool_term_ok (by k_mem) (by exact TF.mono (X := []) (by assumption) List.not_mem_nil (fun _ h _ => .tail _ (.tail _ h)))) rfl rfl (by (first | exact room1 (by assumption) (by decide) | exact room0 (by assumption) (by decide) | (dsimp only [Around.deeper, Around.under, Around.in1]; omega))) (by (first | exact room1 (by assumption) (by decide) | exact room0 (by assumption) (by decide) | (dsimp only [Around.deeper, Around.under, Around.in1]; omega))) ?_); rintro _ _ _ _ _ _ ⟨⟨_, e9⟩, f9⟩; subst e9; subst f9))
  trivial
theorem put_tt {prog : Program} {w : World} {S : BankA} {so : Addr} : PutDoes prog w S so .tt := by
  intro news T v cs n hv hB hT hso hsn hC hz
  cases hv
  obtain ⟨i, j, hTF, hi, hj⟩ := hT
  have hTF' := hTF
  obtain ⟨es, ne, ti, tj, hd, g1, g2, g3, g4⟩ := hTF'
  have hin := hB.inst
  unfold Does
  intro p loose mean mg mb dp un gd env outer A₀ base h₀ L m s R B F X N T hf hke hdp hun hret
  refine' code_defC B F X N T rfl hf hke ?k6 ?k7 ?k8 ?k9 ?kB ?kD ?_ ?c2 ?c3 ?c4
  case k6 => k_dflt k_is
  case k7 => k_dflt k_is
  case k8 => show dp < 1000; omega
  case k9 => exact BindsTo.of_eq rfl
  case kB => exact rfl
  case kD => decide +kernel
  case c2 => exact rfl
  case c3 => exact rfl
  case c4 => exact rfl
  intro g' L' h' tk' cells' FG' F' N' Y' B' X' T' l1
  k_cells Y'
  (try simp only [List.cons_append, List.nil_append] at N')
  (try dsimp only)
  (try k_fold)
  k_steps
  all_goals exact hret _ _ _ _ (by k_asm) (by k_asm) ⟨i, _, [], rfl, by rw [List.append_nil]; exact hB.mono (X := []) (fun _ _ h => absurd h List.not_mem_nil) (fun p hp _ => .tail _ (.tail _ hp)), by rw [List.append_nil]; exact hi, by rw [List.append_nil]; exact Nat.le_add_right _ _, fun p hp _ => .tail _ (.tail _ hp)⟩
theorem put_ff {prog : Program} {w : World} {S : BankA} {so : Addr} : PutDoes prog w S so .ff := by
  intro news T v cs n hv hB hT hso hsn hC hz
  cases hv
  obtain ⟨i, j, hTF, hi, hj⟩ := hT
  have hTF' := hTF
  obtain ⟨es, ne, ti, tj, hd, g1, g2, g3, g4⟩ := hTF'
  have hin := hB.inst
  unfold Does
  intro p loose mean mg mb dp un gd env outer A₀ base h₀ L m s R B F X N T hf hke hdp hun hret
  refine' code_defC B F X N T rfl hf hke ?k6 ?k7 ?k8 ?k9 ?kB ?kD ?_ ?c2 ?c3 ?c4
  case k6 => k_dflt k_is
  case k7 => k_dflt k_is
  case k8 => show dp < 1000; omega
  case k9 => exact BindsTo.of_eq rfl
  case kB => exact rfl
  case kD => decide +kernel
  case c2 => exact rfl
  case c3 => exact rfl
  case c4 => exact rfl
  intro g' L' h' tk' cells' FG' F' N' Y' B' X' T' l1
  k_cells Y'
  (try simp only [List.cons_append, List.nil_append] at N')
  (try dsimp only)
  (try k_fold)
  k_steps
  all_goals exact hret _ _ _ _ (by k_asm) (by k_asm) ⟨j, _, [], rfl, by rw [List.append_nil]; exact hB.mono (X := []) (fun _ _ h => absurd h List.not_mem_nil) (fun p hp _ => .tail _ (.tail _ hp)), by rw [List.append_nil]; exact hj, by rw [List.append_nil]; exact Nat.le_add_right _ _, fun p hp _ => .tail _ (.tail _ hp)⟩
end
section
inductive DenAll (T : List Key) : List Nat → List Sh → Prop where
  | nil : DenAll T [] []
  | cons {t : Nat} {x : Sh} {ts : List Nat} {xs : List Sh} : Den T t x → DenAll T ts xs → DenAll T (t :: ts) (x :: xs)
theorem DenAll.mono {T : List Key} {ts : List Nat} {xs : List Sh} (T' : List Key) (h : DenAll T ts xs) : DenAll (T ++ T') ts xs := by
  induction h with
  | nil => exact .nil
  | cons h _ ih => exact .cons (h.mono T') ih
theorem DenAll.snoc {T : List Key} {ts : List Nat} {xs : List Sh} {t : Nat} {x : Sh} (h : DenAll T ts xs) (d : Den T t x) : DenAll T (ts ++ [t]) (xs ++ [x]) := by
  induction h with
  | nil => exact .cons d .nil
  | cons h _ ih => exact .cons h ih
theorem intsAre_snoc {vs : List Value} {ns : List Int} {n : Int} {t : Tok} (h : IntsAre vs ns) : IntsAre (vs ++ [.int n t]) (ns ++ [n]) := by
  induction h with
  | nil => exact .cons _ _ .nil
  | cons _ _ _ ih => exact .cons _ _ ih
def sizes : List Sh → Nat
  | [] => 0
  | x :: r => x.size + sizes r
theorem sizes_snoc (l : List Sh) (x : Sh) : sizes (l ++ [x]) = sizes l + x.size := by
  induction l with
  | nil => simp [sizes]
  | cons a r ih => simp only [List.cons_append, sizes, ih]; omega
theorem sizes_take (l : List Sh) (i : Nat) : sizes (l.take i) ≤ sizes l := by
  induction l generalizing i with
  | nil => simp [sizes]
  | cons a r ih => cases i with
    | zero => simp [sizes]
    | succ i => simp only [List.take_succ_cons, sizes]; have := ih i; omega
def KidsJ (prog : Program) (w : World) (S : BankA) (T : List Key) (shs : List Sh) (i : Nat) (ys : List Value) (Y : Led) : Prop :=
  ∃ T' ts, Bank prog w Y S (T ++ T') ∧ IntsAre ys (ts.map fun t : Nat => (t : Int)) ∧ DenAll (T ++ T') ts (shs.take i) ∧ (T ++ T').length ≤ T.length + sizes (shs.take i)
section
variable {prog : Program} {w : World} {A : Around} {E : Value → Shared → Prop} {s : Shared} {h₀ : Heap} {L t : Addr} {news : Led} {x : Value} {r : List Value} {n : Nat} {u : Tok} {value slice : PySem.Expr} {Q : Value → Shared → Prop}
theorem item_first (N : News h₀ L s.heap news) (hm : (t, tupO (x :: r) n) ∈ news) (h : Q x s)
    (hs : subscripted slice false (.ref t) (.int 0 u) = operate [.ref t, .int 0 u] (getItem (.ref t) (.int 0 u)) := by with_unfolding_all rfl) :
    wpAny (model prog w) A (subscriptTail value slice (.ref t) (.int 0 u)) Q E s :=
  item_tupleT (News.isTup N hm) (by decide) (by decide) (j := 0) (by simp [seqIndex?]) rfl h hs
end
example : True := by
  k_with_none
  (k_with "k_ne" => (refine neN ?_; (try dsimp only); first | exact Nat.ne_of_gt (by with_reducible assumption) | exact Nat.ne_of_lt (by with_reducible assumption) | exact Nat.ne_of_gt (And.left (by with_reducible assumption)) | exact Nat.ne_of_lt (And.left (by with_reducible assumption)) | exact Nat.ne_of_gt (And.left (And.right (by with_reducible assumption))) | exact Nat.ne_of_lt (And.left (And.right (by with_reducible assumption))) | exact Nat.ne_of_gt (And.left (And.right (And.right (by with_reducible assumption)))) | exact Nat.ne_of_lt (And.left (And.right (And.right (by with_reducible assumption)))) | exact Nat.ne_of_gt (And.left (And.right (And.right (And.right (by with_reducible assumption))))) | exact Nat.ne_of_lt (And.left (And.right (And.right (And.right (by with_reducible assumption))))) | exact Nat.ne_of_gt (And.left (And.right (And.right (And.right (And.right (by with_reducible assumption)))))) | exact Nat.ne_of_gt (And.left (And.right (And.right (And.right (And.right (And.right (by with_reducible assumption))))))) | exact Nat.ne_of_gt (And.left (And.right (And.right (And.right (And.right (And.right (And.right (by with_reducible assumption)))))))) | exact Nat.ne_of_gt (And.left (And.right (And.right (And.right (And.right (And.right (And.right (And.right (by with_reducible assumption))))))))) | exact Nat.ne_of_gt (And.left (And.right (And.right (And.right (And.right (And.right (And.right (And.right (And.right (by with_reducible assumption)))))))))) | exact Nat.ne_of_gt (And.left (And.right (And.right (And.right (And.right (And.right (And.right (And.right (And.right (And.right (by with_reducible assumption))))))))))) | exact Nat.ne_of_gt (And.left (And.right (And.right (And.right (And.right (And.right (And.right (And.right (And.right (And.right (And.right (by with_reducible assumption)))))))))))) | exact Nat.ne_of_gt (And.left (And.right (And.right (And.right (And.right (And.right (And.right (And.right (And.right (And.right (And.right (And.right (by with_reducible assumption))))))))))))) | exact Nat.ne_of_gt (And.left (And.right (And.right (And.right (And.right (And.right (And.right (And.right (And.right (And.right (And.right (And.right (And.right (by with_reducible assumption))))))))))))))))
  (k_with "k_mem" => first | assumption | exact List.Mem.head _ | exact List.Mem.tail _ (by k_mem))
  (k_with "k_get" => assumption)
  (k_with "subscriptTail" => ((with_reducible show wpAny _ _ (subscriptTail _ _ (Value.ref _) (Value.int _ _)) _ _ _); k_dflt (first
      | (refine' item_first (by k_asm) (by k_mem) ?_))))
  (k_with "call builtin:len" => ((with_reducible show wpAny _ _ (call (Value.builtin "len") [Value.ref _]) _ _ _); k_dflt (refine' len_tup (by k_asm) (by k_mem) (by rfl) (by (simp only [List.length_cons]; omega)) ?_); intro _ _))
  (k_with "eval ListComp" => (k_dflt (refine comp_eval (by k_asm) (by with_unfolding_all rfl) (by decide) (by rfl) (by decide) (by rfl) ?_)))
  (k_with "subscriptTail" => ((with_reducible show wpAny _ _ (subscriptTail _ _ (Value.ref _) (Value.ref _)) _ _ _); with_unfolding_all (refine slice1 (by k_asm) (by k_asm) (by k_mem) (by assumption) ?_); intro _ _ _ _))
  (k_with "call ref" => ((with_reducible show wpAny _ _ (call (Value.ref 574) _ _) _ _ _); k_dflt (refine' Does.on (by k_asm) (by k_asm) (by k_asm) (by k_asm) (by k_asm) ‹Does _ _ 574 _ _ _ _ _› rfl rfl (by (first | exact room1 (by assumption) (by decide) | exact room0 (by assumption) (by decide) | (dsimp only [Around.deeper, Around.under, Around.in1]; omega))) (by (first | exact room1 (by assumption) (by decide) | exact room0 (by assumption) (by decide) | (dsimp only [Around.deeper, Around.under, Around.in1]; omega))) ?_); rintro _ _ _ _ _ _ ⟨_, _, _, e9, _, _, _, _⟩; subst e9))
  (k_with "call type:tuple" => ((with_reducible show wpAny _ _ (call (Value.type "tuple") [Value.ref _]) _ _ _); k_dflt (refine' kde_tupleOf (by k_asm) (by k_asm) (by exact News.isList (by k_asm) (by k_mem)) (by (simp only [List.size_toArray]; omega)) (by exact List.toList_toArray) ?_); intro _ _ _ _ _))
  (k_with "ite" => (first | (refine ite_neg (by assumption) ?_) | (refine ite_neg (by simp only [beq_iff_eq, List.length_cons]; omega) ?_)))
  trivial
theorem Bank.has {prog : Program} {w : World} {news : Led} {S : BankA} {T : List Key} (B : Bank prog w news S T) : ∀ a ∈ S.all, ∃ o, (a, o) ∈ news := by
  obtain ⟨es, n, d1, d2⟩ := B.dict
  obtain ⟨vo, no, o1, o2⟩ := B.ops
  obtain ⟨va, na, a1, a2, a3⟩ := B.args
  obtain ⟨vs, ns, s1, s2⟩ := B.sorts
  obtain ⟨vd, nd, e1, e2⟩ := B.datas
  obtain ⟨xs, x1, x2⟩ := B.nums
  simp only [BankA.all, List.mem_cons, List.not_mem_nil, or_false]
  rintro a (rfl | rfl | rfl | rfl | rfl | rfl | rfl)
  · exact ⟨_, B.inst⟩
  · exact ⟨_, d1⟩
  · exact ⟨_, o1⟩
  · exact ⟨_, a1⟩
  · exact ⟨_, s1⟩
  · exact ⟨_, e1⟩
  · exact ⟨_, x1.2.choose_spec.choose_spec.choose_spec.1⟩
theorem mut_all {S : BankA} {a : Addr} (h : a ∈ S.mut) : a ∈ S.all := by
  simp only [BankA.mut, BankA.all, List.mem_cons, List.not_mem_nil, or_false] at h ⊢
  rcases h with h | h | h | h | h <;> simp [h]
theorem b_mut {S : BankA} (h : S.all.Nodup) : S.db ∉ S.mut := by
  simp only [BankA.all, BankA.mut, List.nodup_cons, List.mem_cons, List.not_mem_nil, or_false, not_or] at h ⊢
  exact h.2.1
theorem sizes_get {l : List Sh} {i : Nat} {x : Sh} (h : l[i]? = some x) : l.take (i + 1) = l.take i ++ [x] := by
  rw [List.take_add_one, h]; rfl
theorem Bank.mono' {prog : Program} {w : World} {news news' : Led} {S : BankA} {T : List Key} (B : Bank prog w news S T) (e : Evo [] news news') : Bank prog w news' S T := B.mono (X := []) (fun _ _ h => nomatch h) e
theorem KidsJ.holds3 {prog : Program} {w : World} {S : BankA} {T T₀ : List Key} {shs : List Sh} {X₀ : Led} (B : Bank prog w X₀ S T₀) : Holds3 X₀ (KidsJ prog w S T shs) := by
  rintro i ys Y Y' S₃ hoff hE ⟨T', ts, hB, h⟩
  exact ⟨T', ts, hB.mono (fun a ha => let ⟨o, ho⟩ := B.has a ha; hoff _ ho) hE, h⟩
theorem KidsJ.next {prog : Program} {w : World} {S : BankA} {T T' T'' : List Key} {shs : List Sh} {i t : Nat} {ts : List Nat} {tk : Tok} {ys : List Value} {Y : Led} {sh : Sh} (hsh : shs[i]? = some sh)
    (h1 : IntsAre ys (ts.map fun t : Nat => (t : Int))) (h2 : DenAll (T ++ T') ts (shs.take i)) (h3 : (T ++ T').length ≤ T.length + sizes (shs.take i))
    (B : Bank prog w Y S ((T ++ T') ++ T'')) (d : Den ((T ++ T') ++ T'') t sh) (hl : ((T ++ T') ++ T'').length ≤ (T ++ T').length + sh.size) : KidsJ prog w S T shs (i + 1) (ys ++ [.int t tk]) Y := by
  refine ⟨T' ++ T'', ts ++ [t], by rw [← List.append_assoc]; exact B, ?_, ?_, ?_⟩
  · rw [List.map_append]; exact intsAre_snoc h1
  · rw [sizes_get hsh, ← List.append_assoc]; exact (h2.mono T'').snoc d
  · rw [sizes_get hsh, sizes_snoc, ← List.append_assoc]; omega
theorem put_room {T T' : List Key} {shs : List Sh} {i : Nat} {sh : Sh} (hsh : shs[i]? = some sh) (h3 : (T ++ T').length ≤ T.length + sizes (shs.take i)) (hz : T.length + (sizes shs + 1) ≤ 5000) : (T ++ T').length + sh.size ≤ 5000 := by
  have h := sizes_take shs (i + 1)
  rw [sizes_get hsh, sizes_snoc] at h
  omega
theorem DenAll.len {T : List Key} {ts : List Nat} {xs : List Sh} (h : DenAll T ts xs) : ts.length = xs.length := by
  induction h with
  | nil => rfl
  | cons _ _ ih => simp [ih]
theorem ints_len {vs : List Value} {ns : List Int} (h : IntsAre vs ns) : vs.length = ns.length := by
  induction h with
  | nil => rfl
  | cons _ _ _ ih => simp [ih]
theorem put_node {prog : Program} {w : World} {S : BankA} {so a n t : Nat} {x : Sh} {op : Str} {shs : List Sh} {its : List Value} {news : Led} {Tb : List Key} {cs : List Value} {nn : Nat}
    (hop : ¬ (op == Str.ofString "c") = true) (hok : PyData.strOk op = true) (hop' : op ≠ Str.ofString "")
    (hm : (a, tupO (.str op t :: its) n) ∈ news) (hi0 : 0 < its.length) (hi2 : its.length ≤ 100) (hsl : shs.length = its.length)
    (hk : ∀ (i : Nat) (v : Value), its[i]? = some v → ∃ sh, shs[i]? = some sh ∧ ShIn news v sh) (IH : ∀ sh ∈ shs, PutDoes prog w S so sh ∧ sh.dp + 1 ≤ x.dp) (hsz : sizes shs + 1 = x.size)
    (hden : ∀ (T : List Key) (t : Nat) (ts : List Nat), DenAll T ts shs → T[t]? = some (op, ts.map (fun t : Nat => (t : Int)), 0, 0) → Den T t x)
    (hB : Bank prog w news S Tb) (hT : TFs news S Tb) (hso : (so, lstO cs nn) ∈ news) (hsn : so ∉ S.all) (hC : Consts Tb cs) (hz : Tb.length + x.size ≤ 5000) :
    Does prog w 574 [.ref S.b, .ref so, .ref a] (4 * x.dp + 10) (30 * x.dp + 60) news (fun r news' => ∃ (t : Nat) (tk : Tok) (T' : List Key), r = .int t tk ∧ Bank prog w news' S (Tb ++ T') ∧ Den (Tb ++ T') t x ∧ (Tb ++ T').length ≤ Tb.length + x.size ∧ Evo S.mut news news') := by
  unfold Does
  intro p loose mean mg mb dp un gd env outer A₀ base h₀ L m s R B F X N T hf hke hdp hun hret
  refine' code_defC B F X N T rfl hf hke ?k6 ?k7 ?k8 ?k9 ?kB ?kD ?_ ?c2 ?c3 ?c4
  case k6 => k_dflt k_is
  case k7 => k_dflt k_is
  case k8 => show dp < 1000; omega
  case k9 => exact BindsTo.of_eq rfl
  case kB => exact rfl
  case kD => decide +kernel
  case c2 => exact rfl
  case c3 => exact rfl
  case c4 => exact rfl
  intro g' L' h' tk' cells' FG' F' N' Y' B' X' T' l1
  k_cells Y'
  (try simp only [List.cons_append, List.nil_append] at N')
  (try dsimp only)
  (try k_fold)
  k_steps
  rename_i c1 c2 o1 o2 e1 e2 e3 D' h5 F5 N5
  have B5 := hB.mono' (Evo.then (p := (D', tupO its 0)) (Evo.then (p := (L' + 1 + 1, c1)) (Evo.then (p := (L' + 1, c2)) Evo.refl)))
  have l2 : ∀ a, L' < a → a ∉ S.mut := fun a ha hm => by
    obtain ⟨o, ho⟩ := hB.has a (mut_all hm)
    exact absurd (l1 _ ho) (Nat.not_lt.mpr (Nat.le_of_lt ha))
  refine ⟨_, S.mut, its.length, fun i v => its[i]? = some v, KidsJ prog w S Tb shs, iters_tup rfl N5 (List.Mem.head _), F5, N5, Nat.le_trans hi2 (by decide), fun a ha => B5.has a (mut_all ha), ⟨[], [], by rw [List.append_nil]; exact B5, .nil, .nil, by simp⟩, KidsJ.holds3 B5, ?_, ?_⟩
  · intro g i v ys Y C oC m₂ h tk E' hi hP hJ hE mC hoC hx F N
    obtain ⟨sh, hsh, hv⟩ := hk i v hP
    obtain ⟨T', ts, hB', h1, h2, h3⟩ := hJ
    have hE0 : Evo S.mut news Y := Evo.trans (Evo.then (Evo.then (Evo.then Evo.refl))) hE
    have mc : (L' + 1 + 1, c1) ∈ Y := hE _ (List.Mem.tail _ (List.Mem.head _)) fun z => absurd z (l2 _ (Nat.lt_succ_of_lt (Nat.lt_succ_self _)))
    have mc2 : (L' + 1, c2) ∈ Y := hE _ (List.Mem.tail _ (List.Mem.tail _ (List.Mem.head _))) fun z => absurd z (l2 _ (Nat.lt_succ_self _))
    have mso : (so, lstO cs nn) ∈ Y := hE0 _ hso fun z => absurd (mut_all z) hsn
    have iH := IH sh (List.mem_of_getElem? hsh)
    have hdp := iH.2
    have D := iH.1 Y (Tb ++ T') v cs nn (hv.mono hE0) hB' (hT.mono (b_mut hB.apart) hE0 T') mso hsn (hC.mono T') (put_room hsh h3 (hsz ▸ hz))
    try k_fold
    k_steps
    · k_asm
    · k_asm
    · assumption
    · exact KidsJ.next hsh h1 h2 h3 (by assumption) (by assumption) (by assumption)
  · intro D h tk ys Y hJ hE N mD
    obtain ⟨T', ts, hB', h1, h2, h3⟩ := hJ
    rw [← hsl, List.take_length] at h2 h3
    have hyl : ys.length ≤ 100 := by rw [ints_len h1, List.length_map, h2.len]; omega
    have hTl : (Tb ++ T').length ≤ 5000 := by omega
    have hE0 : Evo S.mut news Y := Evo.trans (Evo.then (Evo.then (Evo.then Evo.refl))) hE
    have mc : (L' + 1 + 1, c1) ∈ Y := hE _ (List.Mem.tail _ (List.Mem.head _)) fun z => absurd z (l2 _ (Nat.lt_succ_of_lt (Nat.lt_succ_self _)))
    have mc2 : (L' + 1, c2) ∈ Y := hE _ (List.Mem.tail _ (List.Mem.tail _ (List.Mem.head _))) fun z => absurd z (l2 _ (Nat.lt_succ_self _))
    have ma : (a, tupO (.str op t :: its) n) ∈ Y := hE0.tup hm
    have hin := hB'.inst
    obtain ⟨es, ne, hde, g1, g2, g3, g4, g5, g6⟩ := hB'.dict
    have g7 := g6 "make" (by simp [bankNames])
    try k_fold
    k_steps
    refine' Does.use (make_ok (k := (_, _, 0, 0)) ?a ?b ?c ?z ?m ?n) ?d ?e ?f ?g ?h ?i ?j ?k ?l ?_
    case d => k_asm
    case e => k_asm
    case f => k_asm
    case g => k_asm
    case h => k_asm
    case m => exact List.Mem.head _
    case n => assumption
    case a => exact Bank.mono' (by assumption) Evo.cons
    case b => omega
    case c => assumption
    case z => assumption
    case i => rfl
    case j => rfl
    case k => (first | exact room1 (by assumption) (by decide) | (dsimp only [Around.deeper, Around.under, Around.in1]; omega))
    case l => (first | exact room1 (by assumption) (by decide) | (dsimp only [Around.deeper, Around.under, Around.in1]; omega))
    intro r9 n9 h9 tk9 F9 N9 hp9
    obtain ⟨t9, tk9', T9, rfl, hB9, hl9, hD9, hi9, hE9⟩ := hp9
    k_steps
    exact hret _ _ _ _ (by k_asm) (by k_asm) ⟨t9, tk9', T' ++ T9, rfl, by rw [← List.append_assoc]; exact hB9, by rw [← List.append_assoc]; exact hden _ _ _ (h2.mono T9) hD9, by rw [← List.append_assoc]; omega, (Evo.then hE0).trans hE9⟩
end
section
-- nofill
theorem den_neg {T : List Key} {t : Nat} {ts : List Nat} {x : Sh} (h : DenAll T ts [x]) (e : T[t]? = some (Str.ofString "not", ts.map (fun t : Nat => (t : Int)), 0, 0)) : Den T t (.neg x) := by
  cases h with | cons d h => cases h with | nil => exact .neg e d
theorem den_con {T : List Key} {t : Nat} {ts : List Nat} {x y : Sh} (h : DenAll T ts [x, y]) (e : T[t]? = some (Str.ofString "and", ts.map (fun t : Nat => (t : Int)), 0, 0)) : Den T t (.con x y) := by
  cases h with | cons d h => cases h with | cons d' h => cases h with | nil => exact .con e d d'
theorem den_dis {T : List Key} {t : Nat} {ts : List Nat} {x y : Sh} (h : DenAll T ts [x, y]) (e : T[t]? = some (Str.ofString "or", ts.map (fun t : Nat => (t : Int)), 0, 0)) : Den T t (.dis x y) := by
  cases h with | cons d h => cases h with | cons d' h => cases h with | nil => exact .dis e d d'
theorem kids1 {news : Led} {u : Value} {x : Sh} (h : ShIn news u x) : ∀ (i : Nat) (v : Value), [u][i]? = some v → ∃ sh, [x][i]? = some sh ∧ ShIn news v sh := by
  intro i v e
  match i with
  | 0 => cases e; exact ⟨_, rfl, h⟩
  | i + 1 => cases e
theorem kids2 {news : Led} {u v : Value} {x y : Sh} (h : ShIn news u x) (h' : ShIn news v y) : ∀ (i : Nat) (z : Value), [u, v][i]? = some z → ∃ sh, [x, y][i]? = some sh ∧ ShIn news z sh := by
  intro i z e
  match i with
  | 0 => cases e; exact ⟨_, rfl, h⟩
  | 1 => cases e; exact ⟨_, rfl, h'⟩
  | i + 2 => cases e
theorem put_ok {prog : Program} {w : World} {S : BankA} {so : Addr} : ∀ x : Sh, PutDoes prog w S so x := by
  intro x
  induction x with
  | c i => exact put_c
  | tt => exact put_tt
  | ff => exact put_ff
  | neg a ih =>
    intro news T v cs n hv hB hT hso hsn hC hz
    cases hv with
    | neg hm hv =>
      exact put_node (by decide) (by decide +kernel) (fun e => s_inj e (by decide)) hm (by simp) (by simp) rfl (kids1 hv)
          (fun sh hs => by obtain rfl := List.mem_singleton.mp hs; exact ⟨ih, Nat.le_refl _⟩) (by simp [sizes, Sh.size]) (fun T t ts h e => den_neg h e) hB hT hso hsn hC hz
  | con a b iha ihb =>
    intro news T v cs n hv hB hT hso hsn hC hz
    cases hv with
    | con hm hv hu =>
      exact put_node (by decide) (by decide +kernel) (fun e => s_inj e (by decide)) hm (by simp) (by simp) rfl (kids2 hv hu)
          (fun sh hs => by
            rcases List.mem_cons.mp hs with rfl | hs
            · exact ⟨iha, Nat.succ_le_succ (Nat.le_max_left _ _)⟩
            · obtain rfl := List.mem_singleton.mp hs; exact ⟨ihb, Nat.succ_le_succ (Nat.le_max_right _ _)⟩) (by simp [sizes, Sh.size]) (fun T t ts h e => den_con h e) hB hT hso hsn hC hz
  | dis a b iha ihb =>
    intro news T v cs n hv hB hT hso hsn hC hz
    cases hv with
    | dis hm hv hu =>
      exact put_node (by decide) (by decide +kernel) (fun e => s_inj e (by decide)) hm (by simp) (by simp) rfl (kids2 hv hu)
          (fun sh hs => by
            rcases List.mem_cons.mp hs with rfl | hs
            · exact ⟨iha, Nat.succ_le_succ (Nat.le_max_left _ _)⟩
            · obtain rfl := List.mem_singleton.mp hs; exact ⟨ihb, Nat.succ_le_succ (Nat.le_max_right _ _)⟩) (by simp [sizes, Sh.size]) (fun T t ts h e => den_dis h e) hB hT hso hsn hC hz
end
section
example : True := by
  k_with_none
  (k_with "k_ne" => (refine neN ?_; (try dsimp only); first | exact Nat.ne_of_gt (by with_reducible assumption) | exact Nat.ne_of_lt (by with_reducible assumption) | exact Nat.ne_of_gt (And.left (by with_reducible assumption)) | exact Nat.ne_of_lt (And.left (by with_reducible assumption)) | exact Nat.ne_of_gt (And.left (And.right (by with_reducible assumption))) | exact Nat.ne_of_lt (And.left (And.right (by with_reducible assumption))) | exact Nat.ne_of_gt (And.left (And.right (And.right (by with_reducible assumption)))) | exact Nat.ne_of_lt (And.left (And.right (And.right (by with_reducible assumption)))) | exact Nat.ne_of_gt (And.left (And.right (And.right (And.right (by with_reducible assumption))))) | exact Nat.ne_of_lt (And.left (And.right (And.right (And.right (by with_reducible assumption))))) | exact Nat.ne_of_gt (And.left (And.right (And.right (And.right (And.right (by with_reducible assumption)))))) | exact Nat.ne_of_gt (And.left (And.right (And.right (And.right (And.right (And.right (by with_reducible assumption))))))) | exact Nat.ne_of_gt (And.left (And.right (And.right (And.right (And.right (And.right (And.right (by with_reducible assumption)))))))) | exact Nat.ne_of_gt (And.left (And.right (And.right (And.right (And.right (And.right (And.right (And.right (by with_reducible assumption))))))))) | exact Nat.ne_of_gt (And.left (And.right (And.right (And.right (And.right (And.right (And.right (And.right (And.right (by with_reducible assumption)))))))))) | exact Nat.ne_of_gt (And.left (And.right (And.right (And.right (And.right (And.right (And.right (And.right (And.right (And.right (by with_reducible assumption))))))))))) | exact Nat.ne_of_gt (And.left (And.right (And.right (And.right (And.right (And.right (And.right (And.right (And.right (And.right (And.right (by with_reducible assumption)))))))))))) | exact Nat.ne_of_gt (And.left (And.right (And.right (And.right (And.right (And.right (And.right (And.right (And.right (And.right (And.right (And.right (by with_reducible assumption))))))))))))) | exact Nat.ne_of_gt (And.left (And.right (And.right (And.right (And.right (And.right (And.right (And.right (And.right (And.right (And.right (And.right (And.right (by with_reducible assumption))))))))))))))))
  (k_with "k_mem" => first | assumption | exact List.Mem.head _ | exact List.Mem.tail _ (by k_mem))
  (k_with "k_get" => assumption)
  (k_with "subscriptTail" => ((with_reducible show wpAny _ _ (subscriptTail _ _ (Value.ref _) (Value.int _ _)) _ _ _); k_dflt (refine' item_at (by k_asm) (by k_mem) (by omega) (by omega) (by assumption) ?_)))
  trivial
theorem op_ok {prog : Program} {w : World} {S : BankA} {Tb : List Key} {news : Led} {t tk : Nat} {k : Key} (hB : Bank prog w news S Tb) (hT : Tb.length ≤ 5000) (hk : Tb[t]? = some k) :
    Does prog w 202 [.ref S.b, .int t tk] 2 10 news (fun r news' => (∃ u, r = .str k.1 u) ∧ news' = news) := by
  obtain ⟨es, n, hd, g1, g2, g3, g4, g5, g6⟩ := hB.dict
  obtain ⟨vo, no, ho, hol, hov⟩ := hB.ops
  have hin := hB.inst
  obtain ⟨u, hu⟩ := hov t k hk
  have hu' : vo[((t : Nat) : Int).toNat]? = some (.str k.1 u) := hu
  have ht := (List.getElem?_eq_some_iff.mp hk).1
  unfold Does
  intro p loose mean mg mb dp un gd env outer A₀ base h₀ L m s R B F X N T hf hke hdp hun hret
  refine' code_def B F X N T rfl hf hke ?k6 ?k7 ?k8 ?k9 ?kB ?_ ?c2 ?c3 ?c4 ?c5
  case k6 => k_dflt k_is
  case k7 => k_dflt k_is
  case k8 => show dp < 1000; omega
  case k9 => exact BindsTo.of_eq rfl
  case c5 => decide
  case kB => exact locs rfl
  case c2 => exact rfl
  case c3 => exact rfl
  case c4 => exact rfl
  intro g' L' h' FG' F' N' B' X' T'
  (try dsimp only)
  (try k_fold)
  k_steps
  exact hret _ _ _ _ (by k_asm) (by k_asm) ⟨⟨_, rfl⟩, rfl⟩
theorem args_ok {prog : Program} {w : World} {S : BankA} {Tb : List Key} {news : Led} {t tk : Nat} {k : Key} (hB : Bank prog w news S Tb) (hT : Tb.length ≤ 5000) (hk : Tb[t]? = some k) :
    Does prog w 209 [.ref S.b, .int t tk] 2 10 news (fun r news' => (∃ a us n, r = .ref a ∧ (a, tupO us n) ∈ news ∧ IntsAre us k.2.1) ∧ news' = news) := by
  obtain ⟨es, n, hd, g1, g2, g3, g4, g5, g6⟩ := hB.dict
  obtain ⟨vo, no, ho, hol, hov⟩ := hB.args
  have hin := hB.inst
  obtain ⟨a, us, n', hu, hu2, hu3⟩ := hov t k hk
  have hu' : vo[((t : Nat) : Int).toNat]? = some (.ref a) := hu
  have ht := (List.getElem?_eq_some_iff.mp hk).1
  unfold Does
  intro p loose mean mg mb dp un gd env outer A₀ base h₀ L m s R B F X N T hf hke hdp hun hret
  refine' code_def B F X N T rfl hf hke ?k6 ?k7 ?k8 ?k9 ?kB ?_ ?c2 ?c3 ?c4 ?c5
  case k6 => k_dflt k_is
  case k7 => k_dflt k_is
  case k8 => show dp < 1000; omega
  case k9 => exact BindsTo.of_eq rfl
  case c5 => decide
  case kB => exact locs rfl
  case c2 => exact rfl
  case c3 => exact rfl
  case c4 => exact rfl
  intro g' L' h' FG' F' N' B' X' T'
  (try dsimp only)
  (try k_fold)
  k_steps
  exact hret _ _ _ _ (by k_asm) (by k_asm) ⟨⟨_, _, _, rfl, hu2, hu3⟩, rfl⟩
end
section
-- nofill
structure ChkA where
  c : Addr
  dc : Addr
  nm : Addr
  as : Addr
def chkNames : List Str := ["fault_of", "alone_fault", "is_clause", "signed", "signed_literal", "signed_clause", "input_fault"]
def TermsAre (T : List Key) (vs : List Value) (xs : List Sh) : Prop := vs.length = xs.length ∧ ∀ (i : Nat) (x : Sh), xs[i]? = some x → ∃ (t : Nat) (tk : Tok), vs[i]? = some (.int t tk) ∧ Den T t x
structure Chk (prog : Program) (w : World) (news : Led) (S : BankA) (T : List Key) (C : ChkA) (named told : List Sh) : Prop where
  bank : Bank prog w news S T
  small : T.length ≤ 5000
  inst : (C.c, instObj 544 C.dc) ∈ news
  dict : ∃ es n, (C.dc, dictOf es n) ∈ news ∧ getL "bank" es = some (some (.ref S.b)) ∧ getL "names" es = some (some (.ref C.nm)) ∧ getL "assertions" es = some (some (.ref C.as)) ∧ ∀ x ∈ chkNames, getL x es = some none
  names : ∃ v₀ vs n, (C.nm, lstO (v₀ :: vs) n) ∈ news ∧ TermsAre T vs named
  asserts : ∃ vs n, (C.as, lstO vs n) ∈ news ∧ TermsAre T vs told
theorem Chk.mono {prog : Program} {w : World} {news news' : Led} {S : BankA} {T : List Key} {C : ChkA} {named told : List Sh} (K : Chk prog w news S T C named told) (e : Evo [] news news') : Chk prog w news' S T C named told := by
  have k : ∀ {a : Addr} {o : Obj}, (a, o) ∈ news → (a, o) ∈ news' := fun hm => e _ hm fun z => nomatch z
  obtain ⟨es, n, d1, d2⟩ := K.dict
  obtain ⟨v₀, vs, n1, e1, e2⟩ := K.names
  obtain ⟨us, n2, f1, f2⟩ := K.asserts
  exact ⟨K.bank.mono' e, K.small, k K.inst, ⟨es, n, k d1, d2⟩, ⟨v₀, vs, n1, k e1, e2⟩, ⟨us, n2, k f1, f2⟩⟩
def sgn (x : Sh) : Int := if x.par then -1 else 1
theorem sgn_neg (a : Sh) : sgn (.neg a) = -sgn a := by
  cases h : a.par <;> simp [sgn, Sh.par, h]
end
section
theorem Does.post {prog : Program} {w : World} {f : Addr} {args : List Value} {dd uu : Nat} {news : Led} {P P' : Value → Led → Prop} (D : Does prog w f args dd uu news P) (h : ∀ r n, P r n → P' r n) : Does prog w f args dd uu news P' :=
  fun p loose mean mg mb dp un gd env outer A₀ base h₀ L m s R B F X N T hf hke hdp hun hret => D p loose mean mg mb dp un gd env outer A₀ base h₀ L m s R B F X N T hf hke hdp hun fun r n h' tk' F' N' hp => hret r n h' tk' F' N' (h r n hp)
theorem args1_ok {prog : Program} {w : World} {S : BankA} {Tb : List Key} {news : Led} {t tk : Nat} {op : Str} {a i j : Int} (hB : Bank prog w news S Tb) (hT : Tb.length ≤ 5000) (hk : Tb[t]? = some (op, [a], i, j)) :
    Does prog w 209 [.ref S.b, .int t tk] 2 10 news (fun r news' => (∃ b u n, r = .ref b ∧ (b, tupO [.int a u] n) ∈ news) ∧ news' = news) :=
  (args_ok hB hT hk).post fun r n ⟨⟨b, us, n', e, hm, hI⟩, h⟩ => by
    cases hI with
    | cons _ _ h' => cases h' with | nil => exact ⟨⟨b, _, n', e, hm⟩, h⟩
theorem Den.cases2 {T : List Key} {t : Nat} {x : Sh} (h : Den T t x) : (∃ (a : Nat) (y : Sh), x = .neg y ∧ T[t]? = some (Str.ofString "not", [(a : Int)], 0, 0) ∧ Den T a y) ∨ (∃ k, T[t]? = some k ∧ ¬ (k.1 == Str.ofString "not") = true ∧ x.bare = x ∧ sgn x = 1) := by
  cases h with
  | c h _ => exact .inr ⟨_, h, by show ¬ (Str.ofString _ == _) = true; decide, rfl, rfl⟩
  | tt h => exact .inr ⟨_, h, by show ¬ (Str.ofString _ == _) = true; decide, rfl, rfl⟩
  | ff h => exact .inr ⟨_, h, by show ¬ (Str.ofString _ == _) = true; decide, rfl, rfl⟩
  | neg h d => exact .inl ⟨_, _, rfl, h, d⟩
  | con h _ _ => exact .inr ⟨_, h, by show ¬ (Str.ofString _ == _) = true; decide, rfl, rfl⟩
  | dis h _ _ => exact .inr ⟨_, h, by show ¬ (Str.ofString _ == _) = true; decide, rfl, rfl⟩
def signJ (T : List Key) (c : Addr) (x₀ : Sh) (news : Led) (n : Nat) (m₁ : Str → Option Value) (news₁ : Led) : Prop :=
  ∃ (t : Nat) (tk : Tok) (sg : Int) (tk2 : Tok) (x : Sh), m₁ (Str.ofString "self") = some (.ref c) ∧ m₁ (Str.ofString "t") = some (.int t tk) ∧ m₁ (Str.ofString "sign") = some (.int sg tk2) ∧ Den T t x ∧ x.dp = n ∧ x.bare = x₀.bare ∧ sg * sgn x = sgn x₀ ∧ (-1 ≤ sg ∧ sg ≤ 1) ∧ news₁ = news
theorem sign_step {T : List Key} {c : Addr} {x₀ y : Sh} {news : Led} {n t : Nat} {tk tk2 : Tok} {sg sg' : Int} {m : Str → Option Value} (h1 : m (Str.ofString "self") = some (.ref c)) (h2 : m (Str.ofString "t") = some (.int t tk)) (h3 : m (Str.ofString "sign") = some (.int sg' tk2)) (hs : sg' = -sg) (hd : Den T t y) (hn : (Sh.neg y).dp = n) (hb : (Sh.neg y).bare = x₀.bare) (hp : sg * sgn (.neg y) = sgn x₀) (h4 : -1 ≤ sg) (h5 : sg ≤ 1) : ∃ n', n' < n ∧ signJ T c x₀ news n' m news :=
  ⟨y.dp, hn ▸ Nat.lt_succ_self _, t, tk, sg', tk2, y, h1, h2, h3, hd, rfl, hb, by rw [← hp, sgn_neg, hs, Int.neg_mul_comm], by omega, rfl⟩
theorem sign_step2 {h₀ h' : Heap} {L : Addr} {s : Shared} {Q : Flow → Shared → Prop} {T : List Key} {c : Addr} {x₀ y : Sh} {news : Led} {n t tk' : Nat} {tk tk2 : Tok} {sg sg' : Int} {m : Str → Option Value} (F : Fr h₀ L h' m) (N : News h₀ L h' news) (h1 : m (Str.ofString "self") = some (.ref c)) (h2 : m (Str.ofString "t") = some (.int t tk)) (h3 : m (Str.ofString "sign") = some (.int sg' tk2)) (hs : sg' = -sg) (hd : Den T t y) (hn : (Sh.neg y).dp = n) (hb : (Sh.neg y).bare = x₀.bare) (hp : sg * sgn (.neg y) = sgn x₀) (h4 : -1 ≤ sg) (h5 : sg ≤ 1) :
    WhileStep2 h₀ L s (signJ T c x₀ news) Q n .next { s with heap := h', toks := tk' } :=
  let ⟨n', hlt, hJ⟩ := sign_step h1 h2 h3 hs hd hn hb hp h4 h5
  ⟨h', tk', m, _, n', rfl, F, N, hlt, hJ⟩
example : True := by
  k_with_none
  (k_with "k_ne" => (refine neN ?_; (try dsimp only); first | exact Nat.ne_of_gt (by with_reducible assumption) | exact Nat.ne_of_lt (by with_reducible assumption) | exact Nat.ne_of_gt (And.left (by with_reducible assumption)) | exact Nat.ne_of_lt (And.left (by with_reducible assumption)) | exact Nat.ne_of_gt (And.left (And.right (by with_reducible assumption))) | exact Nat.ne_of_lt (And.left (And.right (by with_reducible assumption))) | exact Nat.ne_of_gt (And.left (And.right (And.right (by with_reducible assumption)))) | exact Nat.ne_of_lt (And.left (And.right (And.right (by with_reducible assumption)))) | exact Nat.ne_of_gt (And.left (And.right (And.right (And.right (by with_reducible assumption))))) | exact Nat.ne_of_lt (And.left (And.right (And.right (And.right (by with_reducible assumption))))) | exact Nat.ne_of_gt (And.left (And.right (And.right (And.right (And.right (by with_reducible assumption)))))) | exact Nat.ne_of_gt (And.left (And.right (And.right (And.right (And.right (And.right (by with_reducible assumption))))))) | exact Nat.ne_of_gt (And.left (And.right (And.right (And.right (And.right (And.right (And.right (by with_reducible assumption)))))))) | exact Nat.ne_of_gt (And.left (And.right (And.right (And.right (And.right (And.right (And.right (And.right (by with_reducible assumption))))))))) | exact Nat.ne_of_gt (And.left (And.right (And.right (And.right (And.right (And.right (And.right (And.right (And.right (by with_reducible assumption)))))))))) | exact Nat.ne_of_gt (And.left (And.right (And.right (And.right (And.right (And.right (And.right (And.right (And.right (And.right (by with_reducible assumption))))))))))) | exact Nat.ne_of_gt (And.left (And.right (And.right (And.right (And.right (And.right (And.right (And.right (And.right (And.right (And.right (by with_reducible assumption)))))))))))) | exact Nat.ne_of_gt (And.left (And.right (And.right (And.right (And.right (And.right (And.right (And.right (And.right (And.right (And.right (And.right (by with_reducible assumption))))))))))))) | exact Nat.ne_of_gt (And.left (And.right (And.right (And.right (And.right (And.right (And.right (And.right (And.right (And.right (And.right (And.right (And.right (by with_reducible assumption))))))))))))))))
  (k_with "k_mem" => first | assumption | exact List.Mem.head _ | exact List.Mem.tail _ (by k_mem))
  (k_with "k_get" => assumption)
  (k_with "eval Name" => (k_dflt (refine' ld (by k_asm) (by assumption) ?_; k_whole)))
  (k_with "call ref" => ((with_reducible show wpAny _ _ (call (Value.ref 202) _ _) _ _ _); k_dflt (refine' Does.on (by k_asm) (by k_asm) (by k_asm) (by k_asm) (by k_asm) (op_ok (by assumption) (by omega) (by assumption)) rfl rfl (by (first | exact room1 (by assumption) (by decide) | exact room0 (by assumption) (by decide) | (dsimp only [Around.deeper, Around.under, Around.in1]; omega))) (by (first | exact room1 (by assumption) (by decide) | exact room0 (by assumption) (by decide) | (dsimp only [Around.deeper, Around.under, Around.in1]; omega))) ?_); rintro _ _ _ _ _ _ ⟨⟨_, e9⟩, f9⟩; subst e9; subst f9))
  (k_with "call ref" => ((with_reducible show wpAny _ _ (call (Value.ref 209) _ _) _ _ _); k_dflt (refine' Does.on (by k_asm) (by k_asm) (by k_asm) (by k_asm) (by k_asm) (args1_ok (by assumption) (by omega) (by assumption)) rfl rfl (by (first | exact room1 (by assumption) (by decide) | exact room0 (by assumption) (by decide) | (dsimp only [Around.deeper, Around.under, Around.in1]; omega))) (by (first | exact room1 (by assumption) (by decide) | exact room0 (by assumption) (by decide) | (dsimp only [Around.deeper, Around.under, Around.in1]; omega))) ?_); rintro _ _ _ _ _ _ ⟨⟨_, _, _, e9, _⟩, f9⟩; subst e9; subst f9))
  (k_with "subscriptTail" => ((with_reducible show wpAny _ _ (subscriptTail _ _ (Value.ref _) (Value.int _ _)) _ _ _); k_dflt (refine' item_first (by k_asm) (by k_mem) ?_)))
  (k_with "ite" => (first | (refine ite_neg (by assumption) ?_)))
  trivial
theorem signed_ok {prog : Program} {w : World} {S : BankA} {Tb : List Key} {C : ChkA} {named told : List Sh} {news : Led} {t tk : Nat} {x : Sh} (hK : Chk prog w news S Tb C named told) (hD : Den Tb t x) :
    Does prog w 493 [.ref C.c, .int t tk] 5 20 news (fun r news' => (∃ (u : Nat) (tk : Tok), r = .int (sgn x * u) tk ∧ Den Tb u x.bare) ∧ news' = news) := by
  obtain ⟨es, n, hd, g1, g2, g3, g4⟩ := hK.dict
  obtain ⟨es', n', hd', y1, y2, y3, y4, y5, y6⟩ := hK.bank.dict
  have y7 := y6 "op" (by simp [bankNames])
  have y8 := y6 "args" (by simp [bankNames])
  have hin := hK.inst
  have hin' := hK.bank.inst
  have hsm := hK.small
  have hB := hK.bank
  unfold Does
  intro p loose mean mg mb dp un gd env outer A₀ base h₀ L m s R B F X N T hf hke hdp hun hret
  refine' code_def B F X N T rfl hf hke ?k6 ?k7 ?k8 ?k9 ?kB ?_ ?c2 ?c3 ?c4 ?c5
  case k6 => k_dflt k_is
  case k7 => k_dflt k_is
  case k8 => show dp < 1000; omega
  case k9 => exact BindsTo.of_eq rfl
  case c5 => decide
  case kB => exact locs rfl
  case c2 => exact rfl
  case c3 => exact rfl
  case c4 => exact rfl
  intro g' L' h' FG' F' N' B' X' T'
  (try dsimp only)
  (try k_fold)
  walk1
  walk1
  walk1
  walk1
  walk1
  dsimp only
  walk1
  rename_i h7 F7 N7
  walk1
  refine While_inv2 (signJ Tb C.c x news) F7 N7 ⟨t, _, _, _, x, rfl, rfl, rfl, hD, rfl, rfl, Int.one_mul _, ⟨by decide, by decide⟩, rfl⟩ ?_
  clear F7 N7
  rintro n m₁ news₁ h₁ tk₁ F' N' ⟨t₁, tk1, sg, tk2, x₁, hs, ht, hg, hd₁, hn, hb, hp, h45, rfl⟩
  obtain ⟨h4, h5⟩ := h45
  rcases hd₁.cases2 with ⟨a, y, rfl, hk, hd₂⟩ | ⟨k, hk, hne, hb₂, hp₂⟩
  · try k_fold
    k_steps
    exact sign_step2 (by k_asm) (by k_asm) (by exact hs) (by rfl) (by rfl) (by rfl) hd₂ hn hb hp h4 h5
  · try k_fold
    k_steps
    rw [hb₂] at hb
    rw [hp₂, Int.mul_one] at hp
    subst hp
    exact hret _ _ _ _ (by k_asm) (by k_asm) ⟨⟨_, _, rfl, hb ▸ hd₁⟩, rfl⟩
end
section
def litOf (p : Nat × Bool) : Int := if p.2 then (p.1 : Int) + 1 else -((p.1 : Int) + 1)
def LitTo (T : List Key) (named : List Sh) (p : Nat × Bool) (v : Value) : Prop :=
  ∃ (x : Sh) (u : Nat) (tk : Tok), named[p.1]? = some x ∧ v = .int (if p.2 then sgn x * u else -(sgn x * u)) tk ∧ Den T u x.bare
theorem TermsAre.at {T : List Key} {vs : List Value} {xs : List Sh} {v₀ : Value} {j : Nat} {x : Sh} {k : Int} (h : TermsAre T vs xs) (hj : xs[j]? = some x) (hk : k = (j : Int) + 1) : ∃ (t : Nat) (tk : Tok), (v₀ :: vs)[k.toNat]? = some (.int t tk) ∧ Den T t x := by
  obtain ⟨t, tk, a, b⟩ := h.2 j x hj
  refine ⟨t, tk, ?_, b⟩
  rw [hk, show ((j : Int) + 1).toNat = j + 1 by omega]
  exact a
example : True := by
  k_with_none
  (k_with "k_ne" => (refine neN ?_; (try dsimp only); first | exact Nat.ne_of_gt (by with_reducible assumption) | exact Nat.ne_of_lt (by with_reducible assumption) | exact Nat.ne_of_gt (And.left (by with_reducible assumption)) | exact Nat.ne_of_lt (And.left (by with_reducible assumption)) | exact Nat.ne_of_gt (And.left (And.right (by with_reducible assumption))) | exact Nat.ne_of_lt (And.left (And.right (by with_reducible assumption))) | exact Nat.ne_of_gt (And.left (And.right (And.right (by with_reducible assumption)))) | exact Nat.ne_of_lt (And.left (And.right (And.right (by with_reducible assumption)))) | exact Nat.ne_of_gt (And.left (And.right (And.right (And.right (by with_reducible assumption))))) | exact Nat.ne_of_lt (And.left (And.right (And.right (And.right (by with_reducible assumption))))) | exact Nat.ne_of_gt (And.left (And.right (And.right (And.right (And.right (by with_reducible assumption)))))) | exact Nat.ne_of_gt (And.left (And.right (And.right (And.right (And.right (And.right (by with_reducible assumption))))))) | exact Nat.ne_of_gt (And.left (And.right (And.right (And.right (And.right (And.right (And.right (by with_reducible assumption)))))))) | exact Nat.ne_of_gt (And.left (And.right (And.right (And.right (And.right (And.right (And.right (And.right (by with_reducible assumption))))))))) | exact Nat.ne_of_gt (And.left (And.right (And.right (And.right (And.right (And.right (And.right (And.right (And.right (by with_reducible assumption)))))))))) | exact Nat.ne_of_gt (And.left (And.right (And.right (And.right (And.right (And.right (And.right (And.right (And.right (And.right (by with_reducible assumption))))))))))) | exact Nat.ne_of_gt (And.left (And.right (And.right (And.right (And.right (And.right (And.right (And.right (And.right (And.right (And.right (by with_reducible assumption)))))))))))) | exact Nat.ne_of_gt (And.left (And.right (And.right (And.right (And.right (And.right (And.right (And.right (And.right (And.right (And.right (And.right (by with_reducible assumption))))))))))))) | exact Nat.ne_of_gt (And.left (And.right (And.right (And.right (And.right (And.right (And.right (And.right (And.right (And.right (And.right (And.right (And.right (by with_reducible assumption))))))))))))))))
  (k_with "k_mem" => first | assumption | exact List.Mem.head _ | exact List.Mem.tail _ (by k_mem))
  (k_with "k_get" => assumption)
  (k_with "call ref" => ((with_reducible show wpAny _ _ (call (Value.ref 493) _ _) _ _ _); k_dflt (refine' Does.on (by k_asm) (by k_asm) (by k_asm) (by k_asm) (by k_asm) (signed_ok (by assumption) (by assumption)) rfl rfl (by (first | exact room1 (by assumption) (by decide) | exact room0 (by assumption) (by decide) | (dsimp only [Around.deeper, Around.under, Around.in1]; omega))) (by (first | exact room1 (by assumption) (by decide) | exact room0 (by assumption) (by decide) | (dsimp only [Around.deeper, Around.under, Around.in1]; omega))) ?_); rintro _ _ _ _ _ _ ⟨⟨_, _, e9, _⟩, f9⟩; subst e9; subst f9))
  (k_with "subscriptTail" => ((with_reducible show wpAny _ _ (subscriptTail _ _ (Value.ref _) (Value.int _ _)) _ _ _); k_dflt (refine' item_at (by k_asm) (by k_mem) (by assumption) (by assumption) (by assumption) ?_)))
  (k_with "ite" => (first | (refine ite_neg (by simp; omega) ?_) | (refine ite_pos (by simp; omega) ?_)))
  trivial
theorem literal_ok {prog : Program} {w : World} {S : BankA} {Tb : List Key} {C : ChkA} {named told : List Sh} {news : Led} {p : Nat × Bool} {tk : Nat} {x : Sh} (hK : Chk prog w news S Tb C named told) (hx : named[p.1]? = some x) (hz : p.1 < 1000) :
    Does prog w 500 [.ref C.c, .int (litOf p) tk] 8 40 news (fun r news' => LitTo Tb named p r ∧ news' = news) := by
  obtain ⟨es, n, hd, g1, g2, g3, g4⟩ := hK.dict
  have g5 := g4 "signed" (by simp [chkNames])
  have hin := hK.inst
  obtain ⟨v₀, vs, nn, hn, hT⟩ := hK.names
  obtain ⟨j, b⟩ := p
  cases b
  · have hl : litOf (j, false) = -((j : Int) + 1) := rfl
    generalize litOf (j, false) = lit at *
    obtain ⟨t, _, hv, hDt⟩ := hT.at (v₀ := v₀) (k := if lit < 0 then -lit else lit) hx (by split <;> omega)
    have h0 : 0 ≤ (if lit < 0 then -lit else lit) := by split <;> omega
    have h1 : (if lit < 0 then -lit else lit) < 1000000 := by split <;> omega
    unfold Does
    intro p loose mean mg mb dp un gd env outer A₀ base h₀ L m s R B F X N T hf hke hdp hun hret
    refine' code_def B F X N T rfl hf hke ?k6 ?k7 ?k8 ?k9 ?kB ?_ ?c2 ?c3 ?c4 ?c5
    case k6 => k_dflt k_is
    case k7 => k_dflt k_is
    case k8 => show dp < 1000; omega
    case k9 => exact BindsTo.of_eq rfl
    case c5 => decide
    case kB => exact locs rfl
    case c2 => exact rfl
    case c3 => exact rfl
    case c4 => exact rfl
    intro g' L' h' FG' F' N' B' X' T'
    (try dsimp only)
    (try k_fold)
    k_steps
    exact hret _ _ _ _ (by k_asm) (by k_asm) ⟨⟨x, _, _, hx, rfl, by assumption⟩, rfl⟩
  · have hl : litOf (j, true) = (j : Int) + 1 := rfl
    generalize litOf (j, true) = lit at *
    obtain ⟨t, _, hv, hDt⟩ := hT.at (v₀ := v₀) (k := if lit < 0 then -lit else lit) hx (by split <;> omega)
    have h0 : 0 ≤ (if lit < 0 then -lit else lit) := by split <;> omega
    have h1 : (if lit < 0 then -lit else lit) < 1000000 := by split <;> omega
    unfold Does
    intro p loose mean mg mb dp un gd env outer A₀ base h₀ L m s R B F X N T hf hke hdp hun hret
    refine' code_def B F X N T rfl hf hke ?k6 ?k7 ?k8 ?k9 ?kB ?_ ?c2 ?c3 ?c4 ?c5
    case k6 => k_dflt k_is
    case k7 => k_dflt k_is
    case k8 => show dp < 1000; omega
    case k9 => exact BindsTo.of_eq rfl
    case c5 => decide
    case kB => exact locs rfl
    case c2 => exact rfl
    case c3 => exact rfl
    case c4 => exact rfl
    intro g' L' h' FG' F' N' B' X' T'
    (try dsimp only)
    (try k_fold)
    k_steps
    exact hret _ _ _ _ (by k_asm) (by k_asm) ⟨⟨x, _, _, hx, rfl, by assumption⟩, rfl⟩
end
section
inductive All2 {α β : Type} (R : α → β → Prop) : List α → List β → Prop where
  | nil : All2 R [] []
  | cons {a b as bs} : R a b → All2 R as bs → All2 R (a :: as) (b :: bs)
theorem All2.snoc {α β : Type} {R : α → β → Prop} {as : List α} {bs : List β} {a : α} {b : β} (h : All2 R as bs) (r : R a b) : All2 R (as ++ [a]) (bs ++ [b]) := by
  induction h with
  | nil => exact .cons r .nil
  | cons h _ ih => exact .cons h ih
theorem All2.len {α β : Type} {R : α → β → Prop} {as : List α} {bs : List β} (h : All2 R as bs) : as.length = bs.length := by
  induction h with
  | nil => rfl
  | cons _ _ ih => simp [ih]
theorem All2.at {α β : Type} {R : α → β → Prop} {as : List α} {bs : List β} (h : All2 R as bs) {i : Nat} {b : β} (e : bs[i]? = some b) : ∃ a, as[i]? = some a ∧ R a b := by
  induction h generalizing i with
  | nil => simp at e
  | cons r _ ih => cases i with
    | zero => simp only [List.getElem?_cons_zero, Option.some.injEq] at e; subst e; exact ⟨_, rfl, r⟩
    | succ i => exact ih (by simpa using e)
theorem take_snoc {α : Type} {l : List α} {i : Nat} {x : α} (h : l[i]? = some x) : l.take (i + 1) = l.take i ++ [x] := by
  rw [List.take_add_one, h]; rfl
/-- the clause's tuple -/
def LitIs (p : Nat × Bool) (v : Value) : Prop := ∃ tk : Tok, v = .int (litOf p) tk
example : True := by
  k_with_none
  (k_with "k_ne" => (refine neN ?_; (try dsimp only); first | exact Nat.ne_of_gt (by with_reducible assumption) | exact Nat.ne_of_lt (by with_reducible assumption) | exact Nat.ne_of_gt (And.left (by with_reducible assumption)) | exact Nat.ne_of_lt (And.left (by with_reducible assumption)) | exact Nat.ne_of_gt (And.left (And.right (by with_reducible assumption))) | exact Nat.ne_of_lt (And.left (And.right (by with_reducible assumption))) | exact Nat.ne_of_gt (And.left (And.right (And.right (by with_reducible assumption)))) | exact Nat.ne_of_lt (And.left (And.right (And.right (by with_reducible assumption)))) | exact Nat.ne_of_gt (And.left (And.right (And.right (And.right (by with_reducible assumption))))) | exact Nat.ne_of_lt (And.left (And.right (And.right (And.right (by with_reducible assumption))))) | exact Nat.ne_of_gt (And.left (And.right (And.right (And.right (And.right (by with_reducible assumption)))))) | exact Nat.ne_of_gt (And.left (And.right (And.right (And.right (And.right (And.right (by with_reducible assumption))))))) | exact Nat.ne_of_gt (And.left (And.right (And.right (And.right (And.right (And.right (And.right (by with_reducible assumption)))))))) | exact Nat.ne_of_gt (And.left (And.right (And.right (And.right (And.right (And.right (And.right (And.right (by with_reducible assumption))))))))) | exact Nat.ne_of_gt (And.left (And.right (And.right (And.right (And.right (And.right (And.right (And.right (And.right (by with_reducible assumption)))))))))) | exact Nat.ne_of_gt (And.left (And.right (And.right (And.right (And.right (And.right (And.right (And.right (And.right (And.right (by with_reducible assumption))))))))))) | exact Nat.ne_of_gt (And.left (And.right (And.right (And.right (And.right (And.right (And.right (And.right (And.right (And.right (And.right (by with_reducible assumption)))))))))))) | exact Nat.ne_of_gt (And.left (And.right (And.right (And.right (And.right (And.right (And.right (And.right (And.right (And.right (And.right (And.right (by with_reducible assumption))))))))))))) | exact Nat.ne_of_gt (And.left (And.right (And.right (And.right (And.right (And.right (And.right (And.right (And.right (And.right (And.right (And.right (And.right (by with_reducible assumption))))))))))))))))
  (k_with "k_mem" => first | assumption | exact List.Mem.head _ | exact List.Mem.tail _ (by k_mem))
  (k_with "k_get" => assumption)
  (k_with "call ref" => ((with_reducible show wpAny _ _ (call (Value.ref 500) _ _) _ _ _); k_dflt (refine' Does.on (by k_asm) (by k_asm) (by k_asm) (by k_asm) (by k_asm) ‹Does _ _ 500 _ _ _ _ _› rfl rfl (by (first | exact room1 (by assumption) (by decide) | exact room0 (by assumption) (by decide) | (dsimp only [Around.deeper, Around.under, Around.in1]; omega))) (by (first | exact room1 (by assumption) (by decide) | exact room0 (by assumption) (by decide) | (dsimp only [Around.deeper, Around.under, Around.in1]; omega))) ?_); rintro _ _ _ _ _ _ ⟨_, f9⟩; subst f9))
  (k_with "eval ListComp" => (k_dflt (refine comp_eval (by k_asm) (by with_unfolding_all rfl) (by decide) (by rfl) (by decide) (by rfl) ?_)))
  trivial
theorem clause_ok {prog : Program} {w : World} {S : BankA} {Tb : List Key} {C : ChkA} {named told : List Sh} {news : Led} {ps : List (Nat × Bool)} {its : List Value} {nc : Nat} {cl : Addr} (hK : Chk prog w news S Tb C named told) (hcl : (cl, tupO its nc) ∈ news) (hits : All2 LitIs ps its)
    (hps : ∀ p ∈ ps, p.1 < named.length) (hz : named.length ≤ 100) (hz2 : its.length ≤ 100) :
    Does prog w 505 [.ref C.c, .ref cl] 15 80 news (fun r news' => ∃ D ys, r = .ref D ∧ (D, lstO ys ys.length) ∈ news' ∧ All2 (LitTo Tb named) ps ys ∧ Evo [] news news') := by
  obtain ⟨es, n, hd, g1, g2, g3, g4⟩ := hK.dict
  have g5 := g4 "signed_literal" (by simp [chkNames])
  have hin := hK.inst
  unfold Does
  intro p loose mean mg mb dp un gd env outer A₀ base h₀ L m s R B F X N T hf hke hdp hun hret
  refine' code_defC B F X N T rfl hf hke ?k6 ?k7 ?k8 ?k9 ?kB ?kD ?_ ?c2 ?c3 ?c4
  case k6 => k_dflt k_is
  case k7 => k_dflt k_is
  case k8 => show dp < 1000; omega
  case k9 => exact BindsTo.of_eq rfl
  case kB => exact rfl
  case kD => decide +kernel
  case c2 => exact rfl
  case c3 => exact rfl
  case c4 => exact rfl
  intro g' L' h' tk' cells' FG' F' N' Y' B' X' T' l1
  k_cells Y'
  (try simp only [List.cons_append, List.nil_append] at N')
  (try dsimp only)
  (try k_fold)
  k_steps
  refine ⟨_, [], its.length, fun i v => its[i]? = some v, fun i ys _ => All2 (LitTo Tb named) (ps.take i) ys, iters_tup rfl N' (by k_mem), F', N', Nat.le_trans hz2 (by decide), (fun _ h => nomatch h), .nil, (fun _ _ _ _ _ _ _ h => h), ?_, ?_⟩
  · intro g i v ys Y C' oC m₂ h tk E' hi hP hJ hE mC hoC hx F N
    obtain ⟨p, hp, tkv, rfl⟩ := hits.at hP
    have mc := hE _ (List.Mem.head _) (fun z => nomatch z)
    have hKY := hK.mono (Evo.trans (Evo.then Evo.refl) hE)
    have hpl := hps p (List.mem_of_getElem? hp)
    have D := literal_ok (tk := tkv) hKY (List.getElem?_eq_getElem hpl) (by omega)
    have d1 := hE _ (List.Mem.tail _ hd) (fun z => nomatch z)
    have d2 := hE _ (List.Mem.tail _ hin) (fun z => nomatch z)
    try k_fold
    k_steps
    · k_asm
    · k_asm
    · exact Evo.refl
    · rw [take_snoc hp]; exact All2.snoc hJ (by assumption)
  · intro D h tk ys Y hJ hE N mD
    have hfin : All2 (LitTo Tb named) ps ys := by
      have := hJ
      rwa [← hits.len, List.take_length] at this
    intro F
    try k_fold
    k_steps
    exact hret _ _ _ _ (by k_asm) (by k_asm) ⟨D, ys, rfl, mD, hfin, Evo.trans (Evo.then Evo.refl) hE⟩
end
section
inductive NoteV (news : Led) : Value → Option Int → Prop where
  | int (n : Int) (t : Tok) : NoteV news (.int n t) (some n)
  | bool (b : Bool) : NoteV news (.bool b) none
  | none : NoteV news .none none
  | str (x : Str) (t : Tok) : NoteV news (.str x t) none
  | tup {a : Addr} {vs : List Value} {n : Nat} : (a, tupO vs n) ∈ news → NoteV news (.ref a) none
  | lst {a : Addr} {vs : List Value} {n : Nat} : (a, lstO vs n) ∈ news → NoteV news (.ref a) none
example : True := by
  k_with_none
  (k_with "k_ne" => (refine neN ?_; (try dsimp only); first | exact Nat.ne_of_gt (by with_reducible assumption) | exact Nat.ne_of_lt (by with_reducible assumption) | exact Nat.ne_of_gt (And.left (by with_reducible assumption)) | exact Nat.ne_of_lt (And.left (by with_reducible assumption)) | exact Nat.ne_of_gt (And.left (And.right (by with_reducible assumption))) | exact Nat.ne_of_lt (And.left (And.right (by with_reducible assumption))) | exact Nat.ne_of_gt (And.left (And.right (And.right (by with_reducible assumption)))) | exact Nat.ne_of_lt (And.left (And.right (And.right (by with_reducible assumption)))) | exact Nat.ne_of_gt (And.left (And.right (And.right (And.right (by with_reducible assumption))))) | exact Nat.ne_of_lt (And.left (And.right (And.right (And.right (by with_reducible assumption))))) | exact Nat.ne_of_gt (And.left (And.right (And.right (And.right (And.right (by with_reducible assumption)))))) | exact Nat.ne_of_gt (And.left (And.right (And.right (And.right (And.right (And.right (by with_reducible assumption))))))) | exact Nat.ne_of_gt (And.left (And.right (And.right (And.right (And.right (And.right (And.right (by with_reducible assumption)))))))) | exact Nat.ne_of_gt (And.left (And.right (And.right (And.right (And.right (And.right (And.right (And.right (by with_reducible assumption))))))))) | exact Nat.ne_of_gt (And.left (And.right (And.right (And.right (And.right (And.right (And.right (And.right (And.right (by with_reducible assumption)))))))))) | exact Nat.ne_of_gt (And.left (And.right (And.right (And.right (And.right (And.right (And.right (And.right (And.right (And.right (by with_reducible assumption))))))))))) | exact Nat.ne_of_gt (And.left (And.right (And.right (And.right (And.right (And.right (And.right (And.right (And.right (And.right (And.right (by with_reducible assumption)))))))))))) | exact Nat.ne_of_gt (And.left (And.right (And.right (And.right (And.right (And.right (And.right (And.right (And.right (And.right (And.right (And.right (by with_reducible assumption))))))))))))) | exact Nat.ne_of_gt (And.left (And.right (And.right (And.right (And.right (And.right (And.right (And.right (And.right (And.right (And.right (And.right (And.right (by with_reducible assumption))))))))))))))))
  (k_with "k_mem" => first | assumption | exact List.Mem.head _ | exact List.Mem.tail _ (by k_mem))
  trivial
theorem is_number_ok {prog : Program} {w : World} {news : Led} {v : Value} {k : Option Int} (hv : NoteV news v k) :
    Does prog w 76 [v] 2 10 news (fun r news' => r = .bool k.isSome ∧ news' = news) := by
  cases hv
  all_goals
    unfold Does
    intro p loose mean mg mb dp un gd env outer A₀ base h₀ L m s R B F X N T hf hke hdp hun hret
    refine' code_def B F X N T rfl hf hke ?k6 ?k7 ?k8 ?k9 ?kB ?_ ?c2 ?c3 ?c4 ?c5
    case k6 => k_dflt k_is
    case k7 => k_dflt k_is
    case k8 => show dp < 1000; omega
    case k9 => exact BindsTo.of_eq rfl
    case c5 => decide
    case kB => exact locs rfl
    case c2 => exact rfl
    case c3 => exact rfl
    case c4 => exact rfl
    intro g' L' h' FG' F' N' B' X' T'
    (try dsimp only)
    (try k_fold)
    k_steps
    all_goals exact hret _ _ _ _ (by k_asm) (by k_asm) ⟨rfl, rfl⟩
theorem is_num_yes {prog : Program} {w : World} {news : Led} {v : Value} {i : Int} (hv : NoteV news v (some i)) : Does prog w 76 [v] 2 10 news (fun r news' => r = .bool true ∧ news' = news) := is_number_ok hv
theorem is_num_no {prog : Program} {w : World} {news : Led} {v : Value} (hv : NoteV news v none) : Does prog w 76 [v] 2 10 news (fun r news' => r = .bool false ∧ news' = news) := is_number_ok hv
end
section
-- nofill
def agree (named : List Sh) (ps : List (Nat × Bool)) (y : Sh) : Bool :=
  match ps with
  | [p] => match named[p.1]? with
    | some x => decide (x.bare = y.bare) && decide ((if p.2 then sgn x else -sgn x) = sgn y)
    | none => false
  | _ => false
def due (named told : List Sh) (ps : List (Nat × Bool)) : Option Int → Str
  | none => Str.ofString "note"
  | some n => if 0 ≤ n then match told[n.toNat]? with
    | none => Str.ofString "note"
    | some y => if agree named ps y then Str.ofString "" else Str.ofString "input" else Str.ofString "note"
theorem sgn_cases (x : Sh) : sgn x = 1 ∨ sgn x = -1 := by cases h : x.par <;> simp [sgn, h]
theorem den_pos {T : List Key} {t : Nat} {x : Sh} (h0 : T[0]? = some (Str.ofString "", [], 0, 0)) (h : Den T t x) : 0 < t := by
  refine Nat.pos_of_ne_zero fun e => ?_
  subst e
  cases h with
  | c h _ | tt h | ff h | neg h _ | con h _ _ | dis h _ _ => rw [h0] at h; exact s_inj (Prod.mk.inj (Option.some.inj h)).1 (by decide)
theorem signs_eq {a b : Int} {u v : Nat} (ha : a = 1 ∨ a = -1) (hb : b = 1 ∨ b = -1) (hu : 0 < u) (hv : 0 < v) : a * u = b * v ↔ u = v ∧ a = b := by
  rcases ha with rfl | rfl <;> rcases hb with rfl | rfl <;> constructor <;> intro h <;> omega
theorem ints_of_lits {T : List Key} {named : List Sh} {ps : List (Nat × Bool)} {ys : List Value} {y : Sh} {u : Nat} (hn : T.Nodup) (h0 : T[0]? = some (Str.ofString "", [], 0, 0)) (h : All2 (LitTo T named) ps ys) (hy : Den T u y.bare) :
    ∃ ns, IntsAre ys ns ∧ decide (ns = [sgn y * u]) = agree named ps y := by
  cases h with
  | nil => exact ⟨[], .nil, rfl⟩
  | cons r h =>
    obtain ⟨x, v, tk, hx, rfl, hv⟩ := r
    cases h with
    | nil =>
      refine ⟨[_], .cons _ _ .nil, ?_⟩
      simp only [agree, hx]
      rw [Bool.eq_iff_iff]
      simp only [decide_eq_true_eq, List.cons.injEq, and_true, Bool.and_eq_true]
      have hu := den_pos h0 hy
      have hv' := den_pos h0 hv
      rename_i p
      have key : (if p.2 = true then sgn x * v else -(sgn x * v)) = (if p.2 = true then sgn x else -sgn x) * (v : Int) := by split <;> simp [Int.neg_mul]
      rw [key, signs_eq (by rcases sgn_cases x with e | e <;> split <;> simp [e]) (sgn_cases y) hv' hu]
      constructor
      · rintro ⟨e, e'⟩; subst e; exact ⟨Den.inj hv hy, e'⟩
      · rintro ⟨e, e'⟩; exact ⟨Den.uniq hn (e ▸ hv) hy, e'⟩
    | cons r' h =>
      have rest : ∀ {ps : List (Nat × Bool)} {ys : List Value}, All2 (LitTo T named) ps ys → ∃ ns, IntsAre ys ns := by
        intro ps ys h
        induction h with
        | nil => exact ⟨_, .nil⟩
        | cons r _ ih => obtain ⟨x, v, tk, hx, rfl, hv⟩ := r; obtain ⟨ns, i⟩ := ih; exact ⟨_, .cons _ _ i⟩
      obtain ⟨x', v', tk', hx', rfl, hv'⟩ := r'
      obtain ⟨ns, i⟩ := rest h
      exact ⟨_, .cons _ _ (.cons _ _ i), by simp [agree]⟩
end
section
theorem bads {named told : List Sh} {ps : List (Nat × Bool)} {n : Int} (h : ¬ (0 ≤ n ∧ n < told.length)) : due named told ps (some n) = Str.ofString "note" := by
  simp only [due]
  split
  · rename_i h0
    rw [List.getElem?_eq_none (by omega)]
  · rfl
theorem goods {named told : List Sh} {ps : List (Nat × Bool)} {n : Int} {y : Sh} (h : 0 ≤ n) (hy : told[n.toNat]? = some y) : due named told ps (some n) = if agree named ps y then Str.ofString "" else Str.ofString "input" := by
  simp only [due, if_pos h, hy]
theorem eq_ints_b {prog : Program} {w : World} {A : Around} {E : Value → Shared → Prop} {s : Shared} {a b : Addr} {vs us : List Value} {ns ms : List Int} {q : Bool} {Q : Value → Shared → Prop} (hl : s.heap.IsList a vs.toArray) (hi : IntsAre vs ns) (hl' : s.heap.IsList b us.toArray) (hi' : IntsAre us ms) (hu : A.units + 64 < cLine)
    (hq : decide (ns = ms) = q) (h : Q (.bool q) s) : wpAny (model prog w) A (compareOp .Eq (.ref a) (.ref b)) Q E s :=
  eq_intsK hl hi hl' hi' hu (by rw [hq]; exact h)
example : True := by
  k_with_none
  (k_with "k_ne" => (refine neN ?_; (try dsimp only); first | exact Nat.ne_of_gt (by with_reducible assumption) | exact Nat.ne_of_lt (by with_reducible assumption) | exact Nat.ne_of_gt (And.left (by with_reducible assumption)) | exact Nat.ne_of_lt (And.left (by with_reducible assumption)) | exact Nat.ne_of_gt (And.left (And.right (by with_reducible assumption))) | exact Nat.ne_of_lt (And.left (And.right (by with_reducible assumption))) | exact Nat.ne_of_gt (And.left (And.right (And.right (by with_reducible assumption)))) | exact Nat.ne_of_lt (And.left (And.right (And.right (by with_reducible assumption)))) | exact Nat.ne_of_gt (And.left (And.right (And.right (And.right (by with_reducible assumption))))) | exact Nat.ne_of_lt (And.left (And.right (And.right (And.right (by with_reducible assumption))))) | exact Nat.ne_of_gt (And.left (And.right (And.right (And.right (And.right (by with_reducible assumption)))))) | exact Nat.ne_of_gt (And.left (And.right (And.right (And.right (And.right (And.right (by with_reducible assumption))))))) | exact Nat.ne_of_gt (And.left (And.right (And.right (And.right (And.right (And.right (And.right (by with_reducible assumption)))))))) | exact Nat.ne_of_gt (And.left (And.right (And.right (And.right (And.right (And.right (And.right (And.right (by with_reducible assumption))))))))) | exact Nat.ne_of_gt (And.left (And.right (And.right (And.right (And.right (And.right (And.right (And.right (And.right (by with_reducible assumption)))))))))) | exact Nat.ne_of_gt (And.left (And.right (And.right (And.right (And.right (And.right (And.right (And.right (And.right (And.right (by with_reducible assumption))))))))))) | exact Nat.ne_of_gt (And.left (And.right (And.right (And.right (And.right (And.right (And.right (And.right (And.right (And.right (And.right (by with_reducible assumption)))))))))))) | exact Nat.ne_of_gt (And.left (And.right (And.right (And.right (And.right (And.right (And.right (And.right (And.right (And.right (And.right (And.right (by with_reducible assumption))))))))))))) | exact Nat.ne_of_gt (And.left (And.right (And.right (And.right (And.right (And.right (And.right (And.right (And.right (And.right (And.right (And.right (And.right (by with_reducible assumption))))))))))))))))
  (k_with "k_mem" => first | assumption | exact List.Mem.head _ | exact List.Mem.tail _ (by k_mem))
  (k_with "k_get" => assumption)
  (k_with "call ref" => ((with_reducible show wpAny _ _ (call (Value.ref 76) _ _) _ _ _); k_dflt (refine' Does.on (by k_asm) (by k_asm) (by k_asm) (by k_asm) (by k_asm) (is_num_yes (by assumption)) rfl rfl (by (first | exact room1 (by assumption) (by decide) | exact room0 (by assumption) (by decide) | (dsimp only [Around.deeper, Around.under, Around.in1]; omega))) (by (first | exact room1 (by assumption) (by decide) | exact room0 (by assumption) (by decide) | (dsimp only [Around.deeper, Around.under, Around.in1]; omega))) ?_); rintro _ _ _ _ _ _ ⟨e9, f9⟩; subst e9; subst f9))
  (k_with "call ref" => ((with_reducible show wpAny _ _ (call (Value.ref 76) _ _) _ _ _); k_dflt (refine' Does.on (by k_asm) (by k_asm) (by k_asm) (by k_asm) (by k_asm) (is_num_no (by assumption)) rfl rfl (by (first | exact room1 (by assumption) (by decide) | exact room0 (by assumption) (by decide) | (dsimp only [Around.deeper, Around.under, Around.in1]; omega))) (by (first | exact room1 (by assumption) (by decide) | exact room0 (by assumption) (by decide) | (dsimp only [Around.deeper, Around.under, Around.in1]; omega))) ?_); rintro _ _ _ _ _ _ ⟨e9, f9⟩; subst e9; subst f9))
  (k_with "call ref" => ((with_reducible show wpAny _ _ (call (Value.ref 493) _ _) _ _ _); k_dflt (refine' Does.on (by k_asm) (by k_asm) (by k_asm) (by k_asm) (by k_asm) (signed_ok (by assumption) (by assumption)) rfl rfl (by (first | exact room1 (by assumption) (by decide) | exact room0 (by assumption) (by decide) | (dsimp only [Around.deeper, Around.under, Around.in1]; omega))) (by (first | exact room1 (by assumption) (by decide) | exact room0 (by assumption) (by decide) | (dsimp only [Around.deeper, Around.under, Around.in1]; omega))) ?_); rintro _ _ _ _ _ _ ⟨⟨_, _, e9, _⟩, f9⟩; subst e9; subst f9))
  (k_with "subscriptTail" => ((with_reducible show wpAny _ _ (subscriptTail _ _ (Value.ref _) (Value.int _ _)) _ _ _); k_dflt (refine' item_at (by k_asm) (by k_mem) (by omega) (by omega) (by assumption) ?_)))
  (k_with "call builtin:len" => (k_dflt (refine' len_lst (by k_asm) (by k_mem) (by assumption) (by omega) ?_); intro _ _))
  trivial
theorem input_ok {prog : Program} {w : World} {S : BankA} {Tb : List Key} {C : ChkA} {named told : List Sh} {news : Led} {ps : List (Nat × Bool)} {D : Addr} {ys : List Value} {v : Value} {k : Option Int} (hK : Chk prog w news S Tb C named told)
    (hD : (D, lstO ys ys.length) ∈ news) (hys : All2 (LitTo Tb named) ps ys) (hv : NoteV news v k) (hz : told.length ≤ 100) :
    Does prog w 524 [.ref C.c, .ref D, v] 10 200 news (fun r news' => (∃ t, r = .str (due named told ps k) t) ∧ Evo [] news news') := by
  obtain ⟨es, n, hd, g1, g2, g3, g4⟩ := hK.dict
  have g5 := g4 "signed" (by simp [chkNames])
  have hin := hK.inst
  obtain ⟨vs, nn, hn, hT⟩ := hK.asserts
  have hvl := hT.1
  cases k with
  | none =>
    unfold Does
    intro p loose mean mg mb dp un gd env outer A₀ base h₀ L m s R B F X N T hf hke hdp hun hret
    refine' code_def B F X N T rfl hf hke ?k6 ?k7 ?k8 ?k9 ?kB ?_ ?c2 ?c3 ?c4 ?c5
    case k6 => k_dflt k_is
    case k7 => k_dflt k_is
    case k8 => show dp < 1000; omega
    case k9 => exact BindsTo.of_eq rfl
    case c5 => decide
    case kB => exact locs rfl
    case c2 => exact rfl
    case c3 => exact rfl
    case c4 => exact rfl
    intro g' L' h' FG' F' N' B' X' T'
    (try dsimp only)
    (try k_fold)
    k_steps
    exact hret _ _ _ _ (by k_asm) (by k_asm) ⟨⟨_, rfl⟩, Evo.refl⟩
  | some i =>
    cases hv
    rename_i ti
    have hv : NoteV news (.int i ti) (some i) := NoteV.int i ti
    by_cases hb : 0 ≤ i ∧ i < told.length
    · obtain ⟨y, hy⟩ : ∃ y, told[i.toNat]? = some y := ⟨_, List.getElem?_eq_getElem (by omega)⟩
      obtain ⟨t, tk, ht, hDt⟩ := hT.2 _ _ hy
      rw [goods hb.1 hy]
      unfold Does
      intro p loose mean mg mb dp un gd env outer A₀ base h₀ L m s R B F X N T hf hke hdp hun hret
      refine' code_def B F X N T rfl hf hke ?k6 ?k7 ?k8 ?k9 ?kB ?_ ?c2 ?c3 ?c4 ?c5
      case k6 => k_dflt k_is
      case k7 => k_dflt k_is
      case k8 => show dp < 1000; omega
      case k9 => exact BindsTo.of_eq rfl
      case c5 => decide
      case kB => exact locs rfl
      case c2 => exact rfl
      case c3 => exact rfl
      case c4 => exact rfl
      intro g' L' h' FG' F' N' B' X' T'
      (try dsimp only)
      (try k_fold)
      k_steps
      obtain ⟨ns, hns, hag⟩ := ints_of_lits hK.bank.nodup hK.bank.zero hys (by assumption)
      obtain ⟨q, hq⟩ : ∃ q, agree named ps y = q := ⟨_, rfl⟩
      rw [hq] at hag
      cases q
      all_goals
        refine eq_ints_b (News.isList (by k_asm) (by k_mem)) hns (News.isList (by k_asm) (List.Mem.head _)) (.cons _ _ .nil) (by dsimp only [Around.deeper, Around.under, Around.in1]; rw [cLine_is]; omega) hag ?_
        k_steps
        exact hret _ _ _ _ (by k_asm) (by k_asm) ⟨⟨_, by rw [hq]; rfl⟩, Evo.then Evo.refl⟩
    · rw [bads hb]
      unfold Does
      intro p loose mean mg mb dp un gd env outer A₀ base h₀ L m s R B F X N T hf hke hdp hun hret
      refine' code_def B F X N T rfl hf hke ?k6 ?k7 ?k8 ?k9 ?kB ?_ ?c2 ?c3 ?c4 ?c5
      case k6 => k_dflt k_is
      case k7 => k_dflt k_is
      case k8 => show dp < 1000; omega
      case k9 => exact BindsTo.of_eq rfl
      case c5 => decide
      case kB => exact locs rfl
      case c2 => exact rfl
      case c3 => exact rfl
      case c4 => exact rfl
      intro g' L' h' FG' F' N' B' X' T'
      (try dsimp only)
      (try k_fold)
      k_steps
      all_goals exact hret _ _ _ _ (by k_asm) (by k_asm) ⟨⟨_, rfl⟩, Evo.refl⟩
end
section
def asc : Int → List (Nat × Bool) → Bool
  | _, [] => true
  | a, p :: r => decide (a < (p.1 : Int) + 1) && asc ((p.1 : Int) + 1) r
theorem litOf_abs (p : Nat × Bool) : (if litOf p < 0 then -litOf p else litOf p) = (p.1 : Int) + 1 := by
  unfold litOf
  split <;> split <;> omega
example : True := by
  k_with_none
  (k_with "k_ne" => (refine neN ?_; (try dsimp only); first | exact Nat.ne_of_gt (by with_reducible assumption) | exact Nat.ne_of_lt (by with_reducible assumption) | exact Nat.ne_of_gt (And.left (by with_reducible assumption)) | exact Nat.ne_of_lt (And.left (by with_reducible assumption)) | exact Nat.ne_of_gt (And.left (And.right (by with_reducible assumption))) | exact Nat.ne_of_lt (And.left (And.right (by with_reducible assumption))) | exact Nat.ne_of_gt (And.left (And.right (And.right (by with_reducible assumption)))) | exact Nat.ne_of_lt (And.left (And.right (And.right (by with_reducible assumption)))) | exact Nat.ne_of_gt (And.left (And.right (And.right (And.right (by with_reducible assumption))))) | exact Nat.ne_of_lt (And.left (And.right (And.right (And.right (by with_reducible assumption))))) | exact Nat.ne_of_gt (And.left (And.right (And.right (And.right (And.right (by with_reducible assumption)))))) | exact Nat.ne_of_gt (And.left (And.right (And.right (And.right (And.right (And.right (by with_reducible assumption))))))) | exact Nat.ne_of_gt (And.left (And.right (And.right (And.right (And.right (And.right (And.right (by with_reducible assumption)))))))) | exact Nat.ne_of_gt (And.left (And.right (And.right (And.right (And.right (And.right (And.right (And.right (by with_reducible assumption))))))))) | exact Nat.ne_of_gt (And.left (And.right (And.right (And.right (And.right (And.right (And.right (And.right (And.right (by with_reducible assumption)))))))))) | exact Nat.ne_of_gt (And.left (And.right (And.right (And.right (And.right (And.right (And.right (And.right (And.right (And.right (by with_reducible assumption))))))))))) | exact Nat.ne_of_gt (And.left (And.right (And.right (And.right (And.right (And.right (And.right (And.right (And.right (And.right (And.right (by with_reducible assumption)))))))))))) | exact Nat.ne_of_gt (And.left (And.right (And.right (And.right (And.right (And.right (And.right (And.right (And.right (And.right (And.right (And.right (by with_reducible assumption))))))))))))) | exact Nat.ne_of_gt (And.left (And.right (And.right (And.right (And.right (And.right (And.right (And.right (And.right (And.right (And.right (And.right (And.right (by with_reducible assumption))))))))))))))))
  (k_with "k_mem" => first | assumption | exact List.Mem.head _ | exact List.Mem.tail _ (by k_mem))
  (k_with "k_get" => assumption)
  (k_with "call ref" => ((with_reducible show wpAny _ _ (call (Value.ref 76) _ _) _ _ _); k_dflt (refine' Does.on (by k_asm) (by k_asm) (by k_asm) (by k_asm) (by k_asm) (is_num_yes (NoteV.int _ _)) rfl rfl (by (first | exact room1 (by assumption) (by decide) | exact room0 (by assumption) (by decide) | (dsimp only [Around.deeper, Around.under, Around.in1]; omega))) (by (first | exact room1 (by assumption) (by decide) | exact room0 (by assumption) (by decide) | (dsimp only [Around.deeper, Around.under, Around.in1]; omega))) ?_); rintro _ _ _ _ _ _ ⟨e9, f9⟩; subst e9; subst f9))
  (k_with "call builtin:len" => (k_dflt (first | (refine' len_lst (by k_asm) (by k_mem) (by assumption) (by omega) ?_) | (refine' len_tup (by k_asm) (by k_mem) rfl (by decide) ?_)); intro _ _))
  (k_with "ite" => (first | (refine ite_neg (by simp [litOf_abs]; omega) ?_) | (refine ite_pos (by simp [litOf_abs]; omega) ?_)))
  trivial
theorem tuple4_ok {prog : Program} {w : World} {news : Led} {a : Addr} {x y z u : Value} {n tk : Nat} (ha : (a, tupO [x, y, z, u] n) ∈ news) :
    Does prog w 83 [.ref a, .int 4 tk] 2 10 news (fun r news' => r = .bool true ∧ news' = news) := by
  unfold Does
  intro p loose mean mg mb dp un gd env outer A₀ base h₀ L m s R B F X N T hf hke hdp hun hret
  refine' code_def B F X N T rfl hf hke ?k6 ?k7 ?k8 ?k9 ?kB ?_ ?c2 ?c3 ?c4 ?c5
  case k6 => k_dflt k_is
  case k7 => k_dflt k_is
  case k8 => show dp < 1000; omega
  case k9 => exact BindsTo.of_eq rfl
  case c5 => decide
  case kB => exact locs rfl
  case c2 => exact rfl
  case c3 => exact rfl
  case c4 => exact rfl
  intro g' L' h' FG' F' N' B' X' T'
  (try dsimp only)
  (try k_fold)
  k_steps
  all_goals exact hret _ _ _ _ (by k_asm) (by k_asm) ⟨rfl, rfl⟩
theorem drop_at {α : Type} {l : List α} {i : Nat} {x : α} (h : l[i]? = some x) : l.drop i = x :: l.drop (i + 1) := by
  obtain ⟨hl, rfl⟩ := List.getElem?_eq_some_iff.mp h
  exact List.drop_eq_getElem_cons hl
def clJ (c : Addr) (ps : List (Nat × Bool)) (i : Nat) (m : Str → Option Value) (_ : Led) : Prop := ∃ (a : Int) (tk : Tok), m (Str.ofString "self") = some (.ref c) ∧ m (Str.ofString "ahead") = some (.int a tk) ∧ 0 ≤ a ∧ asc a (ps.drop i) = asc 0 ps
example : True := by
  (k_with "eval Name" => (k_dflt (refine' ld (by k_asm) (by assumption) ?_; k_whole)))
  (k_with "exec For Name Name cons nil" => (k_dflt (refine for_led (by k_asm) (by rfl) (by rfl) ?_)))
  trivial
theorem is_clause_ok {prog : Program} {w : World} {S : BankA} {Tb : List Key} {C : ChkA} {named told : List Sh} {news : Led} {ps : List (Nat × Bool)} {its : List Value} {nc : Nat} {cl : Addr} (hK : Chk prog w news S Tb C named told) (hcl : (cl, tupO its nc) ∈ news) (hits : All2 LitIs ps its)
    (hps : ∀ p ∈ ps, p.1 < named.length) (hz : named.length ≤ 100) :
    Does prog w 472 [.ref C.c, .ref cl] 5 50 news (fun r news' => r = .bool (asc 0 ps) ∧ Evo [] news news') := by
  obtain ⟨es, n, hd, g1, g2, g3, g4⟩ := hK.dict
  have hin := hK.inst
  obtain ⟨v₀, vs, nn, hn, hT⟩ := hK.names
  have hvl : (v₀ :: vs).length = named.length + 1 := by rw [List.length_cons, hT.1]
  unfold Does
  intro p loose mean mg mb dp un gd env outer A₀ base h₀ L m s R B F X N T hf hke hdp hun hret
  refine' code_def B F X N T rfl hf hke ?k6 ?k7 ?k8 ?k9 ?kB ?_ ?c2 ?c3 ?c4 ?c5
  case k6 => k_dflt k_is
  case k7 => k_dflt k_is
  case k8 => show dp < 1000; omega
  case k9 => exact BindsTo.of_eq rfl
  case c5 => decide
  case kB => exact locs rfl
  case c2 => exact rfl
  case c3 => exact rfl
  case c4 => exact rfl
  intro g' L' h' FG' F' N' B' X' T'
  (try dsimp only)
  (try k_fold)
  k_steps
  rename_i h7 F7 N7
  refine ⟨_, [], its.length, fun i v => its[i]? = some v, _, clJ C.c ps, iters_tup rfl N7 (by k_mem), F7, N7, (fun _ h => nomatch h), ⟨0, _, rfl, rfl, Int.le_refl _, by rw [List.drop_zero]⟩, (fun _ _ _ _ _ _ _ h => h), ?_, ?_⟩
  · intro g i v m₁ Y h tk hi hP hJ hE F N
    obtain ⟨p, hp, tkv, rfl⟩ := hits.at hP
    obtain ⟨a, tka, hs, ha, ha0, hA⟩ := hJ
    rw [drop_at hp, asc] at hA
    have hpl := hps p (List.mem_of_getElem? hp)
    have d1 := hE _ hd (fun z => nomatch z)
    have d2 := hE _ hin (fun z => nomatch z)
    have d3 := hE _ hn (fun z => nomatch z)
    by_cases hlt : a < (p.1 : Int) + 1
    · rw [decide_eq_true hlt, Bool.true_and] at hA
      try k_fold
      k_steps
      exact ForEnd.intro (by k_asm) (by k_asm) Evo.refl ⟨_, _, by exact hs, by rfl, by rw [litOf_abs]; omega, by rw [litOf_abs]; exact hA⟩
    · rw [decide_eq_false hlt, Bool.false_and] at hA
      try k_fold
      k_steps
      dsimp only
      refine ForEnd.ret ?_
      dsimp only
      k_steps
      exact hret _ _ _ _ (by k_asm) (by k_asm) ⟨by rw [← hA], hE⟩
  · intro h tk m' Y hJ hE F N
    obtain ⟨a, tka, hs, ha, ha0, hA⟩ := hJ
    rw [← hits.len, List.drop_length, asc] at hA
    try k_fold
    k_steps
    exact hret _ _ _ _ (by k_asm) (by k_asm) ⟨by rw [← hA], hE⟩
end
section
example : True := by
  k_with_none
  (k_with "k_ne" => (refine neN ?_; (try dsimp only); first | exact Nat.ne_of_gt (by with_reducible assumption) | exact Nat.ne_of_lt (by with_reducible assumption) | exact Nat.ne_of_gt (And.left (by with_reducible assumption)) | exact Nat.ne_of_lt (And.left (by with_reducible assumption)) | exact Nat.ne_of_gt (And.left (And.right (by with_reducible assumption))) | exact Nat.ne_of_lt (And.left (And.right (by with_reducible assumption))) | exact Nat.ne_of_gt (And.left (And.right (And.right (by with_reducible assumption)))) | exact Nat.ne_of_lt (And.left (And.right (And.right (by with_reducible assumption)))) | exact Nat.ne_of_gt (And.left (And.right (And.right (And.right (by with_reducible assumption))))) | exact Nat.ne_of_lt (And.left (And.right (And.right (And.right (by with_reducible assumption))))) | exact Nat.ne_of_gt (And.left (And.right (And.right (And.right (And.right (by with_reducible assumption)))))) | exact Nat.ne_of_gt (And.left (And.right (And.right (And.right (And.right (And.right (by with_reducible assumption))))))) | exact Nat.ne_of_gt (And.left (And.right (And.right (And.right (And.right (And.right (And.right (by with_reducible assumption)))))))) | exact Nat.ne_of_gt (And.left (And.right (And.right (And.right (And.right (And.right (And.right (And.right (by with_reducible assumption))))))))) | exact Nat.ne_of_gt (And.left (And.right (And.right (And.right (And.right (And.right (And.right (And.right (And.right (by with_reducible assumption)))))))))) | exact Nat.ne_of_gt (And.left (And.right (And.right (And.right (And.right (And.right (And.right (And.right (And.right (And.right (by with_reducible assumption))))))))))) | exact Nat.ne_of_gt (And.left (And.right (And.right (And.right (And.right (And.right (And.right (And.right (And.right (And.right (And.right (by with_reducible assumption)))))))))))) | exact Nat.ne_of_gt (And.left (And.right (And.right (And.right (And.right (And.right (And.right (And.right (And.right (And.right (And.right (And.right (by with_reducible assumption))))))))))))) | exact Nat.ne_of_gt (And.left (And.right (And.right (And.right (And.right (And.right (And.right (And.right (And.right (And.right (And.right (And.right (And.right (by with_reducible assumption))))))))))))))))
  (k_with "k_mem" => first | assumption | exact List.Mem.head _ | exact List.Mem.tail _ (by k_mem))
  (k_with "k_get" => assumption)
  (k_with "call ref" => ((with_reducible show wpAny _ _ (call (Value.ref 524) _ _) _ _ _); k_dflt (refine' Does.on (by k_asm) (by k_asm) (by k_asm) (by k_asm) (by k_asm) (input_ok (by assumption) (by assumption) (by assumption) (by assumption) (by assumption)) rfl rfl (by (first | exact room1 (by assumption) (by decide) | exact room0 (by assumption) (by decide) | (dsimp only [Around.deeper, Around.under, Around.in1]; omega))) (by (first | exact room1 (by assumption) (by decide) | exact room0 (by assumption) (by decide) | (dsimp only [Around.deeper, Around.under, Around.in1]; omega))) ?_); rintro _ _ _ _ _ _ ⟨⟨_, e9⟩, _⟩; subst e9))
  trivial
theorem alone_ok {prog : Program} {w : World} {S : BankA} {Tb : List Key} {C : ChkA} {named told : List Sh} {news : Led} {ps : List (Nat × Bool)} {D cl : Addr} {ys : List Value} {v : Value} {k : Option Int} {tr : Nat} (hK : Chk prog w news S Tb C named told)
    (hD : (D, lstO ys ys.length) ∈ news) (hys : All2 (LitTo Tb named) ps ys) (hv : NoteV news v k) (hz : told.length ≤ 100) :
    Does prog w 465 [.ref C.c, .str (Str.ofString "input") tr, .ref cl, .ref D, v] 13 250 news (fun r news' => (∃ t, r = .str (due named told ps k) t) ∧ Evo [] news news') := by
  obtain ⟨es, n, hd, g1, g2, g3, g4⟩ := hK.dict
  have g5 := g4 "input_fault" (by simp [chkNames])
  have hin := hK.inst
  unfold Does
  intro p loose mean mg mb dp un gd env outer A₀ base h₀ L m s R B F X N T hf hke hdp hun hret
  refine' code_def B F X N T rfl hf hke ?k6 ?k7 ?k8 ?k9 ?kB ?_ ?c2 ?c3 ?c4 ?c5
  case k6 => k_dflt k_is
  case k7 => k_dflt k_is
  case k8 => show dp < 1000; omega
  case k9 => exact BindsTo.of_eq rfl
  case c5 => decide
  case kB => exact locs rfl
  case c2 => exact rfl
  case c3 => exact rfl
  case c4 => exact rfl
  intro g' L' h' FG' F' N' B' X' T'
  (try dsimp only)
  (try k_fold)
  k_steps
  exact hret _ _ _ _ (by k_asm) (by k_asm) ⟨⟨_, rfl⟩, by assumption⟩
end
section
theorem Evo.mem {a b : Led} {p : Addr × Obj} (e : Evo [] a b) (h : p ∈ a) : p ∈ b := e p h fun z => nomatch z
theorem NoteV.mono {news news' : Led} {v : Value} {k : Option Int} (h : NoteV news v k) (e : Evo [] news news') : NoteV news' v k := by
  cases h with
  | int n t => exact .int n t
  | bool b => exact .bool b
  | none => exact .none
  | str x t => exact .str x t
  | tup m => exact .tup (e.tup m)
  | lst m => exact .lst (e _ m fun z => nomatch z)
example : True := by
  k_with_none
  (k_with "k_ne" => (refine neN ?_; (try dsimp only); first | exact Nat.ne_of_gt (by with_reducible assumption) | exact Nat.ne_of_lt (by with_reducible assumption) | exact Nat.ne_of_gt (And.left (by with_reducible assumption)) | exact Nat.ne_of_lt (And.left (by with_reducible assumption)) | exact Nat.ne_of_gt (And.left (And.right (by with_reducible assumption))) | exact Nat.ne_of_lt (And.left (And.right (by with_reducible assumption))) | exact Nat.ne_of_gt (And.left (And.right (And.right (by with_reducible assumption)))) | exact Nat.ne_of_lt (And.left (And.right (And.right (by with_reducible assumption)))) | exact Nat.ne_of_gt (And.left (And.right (And.right (And.right (by with_reducible assumption))))) | exact Nat.ne_of_lt (And.left (And.right (And.right (And.right (by with_reducible assumption))))) | exact Nat.ne_of_gt (And.left (And.right (And.right (And.right (And.right (by with_reducible assumption)))))) | exact Nat.ne_of_gt (And.left (And.right (And.right (And.right (And.right (And.right (by with_reducible assumption))))))) | exact Nat.ne_of_gt (And.left (And.right (And.right (And.right (And.right (And.right (And.right (by with_reducible assumption)))))))) | exact Nat.ne_of_gt (And.left (And.right (And.right (And.right (And.right (And.right (And.right (And.right (by with_reducible assumption))))))))) | exact Nat.ne_of_gt (And.left (And.right (And.right (And.right (And.right (And.right (And.right (And.right (And.right (by with_reducible assumption)))))))))) | exact Nat.ne_of_gt (And.left (And.right (And.right (And.right (And.right (And.right (And.right (And.right (And.right (And.right (by with_reducible assumption))))))))))) | exact Nat.ne_of_gt (And.left (And.right (And.right (And.right (And.right (And.right (And.right (And.right (And.right (And.right (And.right (by with_reducible assumption)))))))))))) | exact Nat.ne_of_gt (And.left (And.right (And.right (And.right (And.right (And.right (And.right (And.right (And.right (And.right (And.right (And.right (by with_reducible assumption))))))))))))) | exact Nat.ne_of_gt (And.left (And.right (And.right (And.right (And.right (And.right (And.right (And.right (And.right (And.right (And.right (And.right (And.right (by with_reducible assumption))))))))))))))))
  (k_with "k_mem" => first | assumption | exact List.Mem.head _ | exact List.Mem.tail _ (by k_mem) | exact Evo.mem (by assumption) (by k_mem))
  (k_with "ktd_rel" => first | exact Evo.refl | assumption | (refine Evo.then ?_; ktd_rel) | (refine Evo.trans ?_ (by assumption); ktd_rel))
  (k_with "k_get" => assumption)
  (k_with "subscriptTail" => ((with_reducible show wpAny _ _ (subscriptTail _ _ (Value.ref _) (Value.int _ _)) _ _ _); k_dflt (first | (refine' item_at (by k_asm) (by k_mem) (by omega) (by omega) (by assumption) ?_) | (refine' item_first (by k_asm) (by k_mem) ?_))))
  (k_with "call ref" => ((with_reducible show wpAny _ _ (call (Value.ref 83) _ _) _ _ _); k_dflt (refine' Does.on (by k_asm) (by k_asm) (by k_asm) (by k_asm) (by k_asm) (tuple4_ok (by k_mem)) rfl rfl (by (first | exact room1 (by assumption) (by decide) | exact room0 (by assumption) (by decide) | (dsimp only [Around.deeper, Around.under, Around.in1]; omega))) (by (first | exact room1 (by assumption) (by decide) | exact room0 (by assumption) (by decide) | (dsimp only [Around.deeper, Around.under, Around.in1]; omega))) ?_); rintro _ _ _ _ _ _ ⟨e9, f9⟩; subst e9; subst f9))
  (k_with "call ref" => ((with_reducible show wpAny _ _ (call (Value.ref 472) _ _) _ _ _); k_dflt (refine' Does.on (by k_asm) (by k_asm) (by k_asm) (by k_asm) (by k_asm) (is_clause_ok (by exact Chk.mono (by assumption) (by ktd_rel)) (by k_mem) (by assumption) (by assumption) (by assumption)) rfl rfl (by (first | exact room1 (by assumption) (by decide) | exact room0 (by assumption) (by decide) | (dsimp only [Around.deeper, Around.under, Around.in1]; omega))) (by (first | exact room1 (by assumption) (by decide) | exact room0 (by assumption) (by decide) | (dsimp only [Around.deeper, Around.under, Around.in1]; omega))) ?_); rintro _ _ _ _ _ _ ⟨e9, _⟩; subst e9))
  (k_with "call ref" => ((with_reducible show wpAny _ _ (call (Value.ref 505) _ _) _ _ _); k_dflt (refine' Does.on (by k_asm) (by k_asm) (by k_asm) (by k_asm) (by k_asm) (clause_ok (by exact Chk.mono (by assumption) (by ktd_rel)) (by k_mem) (by assumption) (by assumption) (by assumption) (by assumption)) rfl rfl (by (first | exact room1 (by assumption) (by decide) | exact room0 (by assumption) (by decide) | (dsimp only [Around.deeper, Around.under, Around.in1]; omega))) (by (first | exact room1 (by assumption) (by decide) | exact room0 (by assumption) (by decide) | (dsimp only [Around.deeper, Around.under, Around.in1]; omega))) ?_); rintro _ _ _ _ _ _ ⟨_, _, e9, _, _, _⟩; subst e9))
  (k_with "call ref" => ((with_reducible show wpAny _ _ (call (Value.ref 465) _ _) _ _ _); k_dflt (refine' Does.on (by k_asm) (by k_asm) (by k_asm) (by k_asm) (by k_asm) (alone_ok (by exact Chk.mono (by assumption) (by ktd_rel)) (by k_mem) (by assumption) (by exact NoteV.mono (by assumption) (by ktd_rel)) (by assumption)) rfl rfl (by (first | exact room1 (by assumption) (by decide) | exact room0 (by assumption) (by decide) | (dsimp only [Around.deeper, Around.under, Around.in1]; omega))) (by (first | exact room1 (by assumption) (by decide) | exact room0 (by assumption) (by decide) | (dsimp only [Around.deeper, Around.under, Around.in1]; omega))) ?_); rintro _ _ _ _ _ _ ⟨⟨_, e9⟩, _⟩; subst e9))
  (k_with "eval ListComp" => (k_dflt (refine comp_no (by k_asm) (by with_unfolding_all rfl) (by decide) (by rfl) (by decide) (by rfl) ?_)))
  trivial
theorem fault_a {prog : Program} {w : World} {S : BankA} {Tb : List Key} {C : ChkA} {named told : List Sh} {news : Led} {ps : List (Nat × Bool)} {its sv : List Value} {nc ns n1 n2 j tj tr : Nat} {cl sl st pr : Addr} {v : Value} {k : Option Int} (hK : Chk prog w news S Tb C named told)
    (hcl : (cl, tupO its nc) ∈ news) (hits : All2 LitIs ps its) (hps : ∀ p ∈ ps, p.1 < named.length) (hz : named.length ≤ 100) (hz2 : its.length ≤ 100) (hz3 : told.length ≤ 100) (ha : asc 0 ps = true) (hv : NoteV news v k)
    (hsl : (sl, lstO sv ns) ∈ news) (hj : sv[((j : Nat) : Int).toNat]? = some (.ref st)) (hj2 : j < 100) (hst : (st, tupO [.str (Str.ofString "input") tr, .ref cl, .ref pr, v] n1) ∈ news) (hpr : (pr, tupO [] n2) ∈ news) :
    Does prog w 458 [.ref C.c, .ref sl, .int j tj] 20 400 news (fun r news' => (∃ t, r = .str (due named told ps k) t) ∧ Evo [] news news') := by
  obtain ⟨es, n, hd, g1, g2, g3, g4⟩ := hK.dict
  have g5 := g4 "is_clause" (by simp [chkNames])
  have g6 := g4 "signed_clause" (by simp [chkNames])
  have g7 := g4 "alone_fault" (by simp [chkNames])
  have hin := hK.inst
  unfold Does
  intro p loose mean mg mb dp un gd env outer A₀ base h₀ L m s R B F X N T hf hke hdp hun hret
  refine' code_defC B F X N T rfl hf hke ?k6 ?k7 ?k8 ?k9 ?kB ?kD ?_ ?c2 ?c3 ?c4
  case k6 => k_dflt k_is
  case k7 => k_dflt k_is
  case k8 => show dp < 1000; omega
  case k9 => exact BindsTo.of_eq rfl
  case kB => exact rfl
  case kD => decide +kernel
  case c2 => exact rfl
  case c3 => exact rfl
  case c4 => exact rfl
  intro g' L' h' tk' cells' FG' F' N' Y' B' X' T' l1
  k_cells Y'
  (try simp only [List.cons_append, List.nil_append] at N')
  (try dsimp only)
  (try k_fold)
  k_steps
  rename_i n9 h9 tk9 F9 N9 hE9 tk99
  refine ⟨n9, [], 0, fun i v => ([] : List Value)[i]? = some v, fun i ys _ => ys = [], iters_tup rfl N9 (Evo.mem hE9 (List.Mem.tail _ hpr)), F9, N9, by decide, (fun _ h => nomatch h), rfl, (fun _ _ _ _ _ _ _ h => h), ?_, ?_⟩
  · intro g i v ys Y C' oC m₂ h tk E' hi
    exact absurd hi (Nat.not_lt_zero _)
  · intro D h tk ys Y hJ hE N mD F
    obtain rfl : ys = [] := hJ
    try k_fold
    k_steps
    exact hret _ _ _ _ (by k_asm) (by k_asm) ⟨⟨_, rfl⟩, by ktd_rel⟩
end
section
example : True := by
  k_with_none
  (k_with "k_ne" => (refine neN ?_; (try dsimp only); first | exact Nat.ne_of_gt (by with_reducible assumption) | exact Nat.ne_of_lt (by with_reducible assumption) | exact Nat.ne_of_gt (And.left (by with_reducible assumption)) | exact Nat.ne_of_lt (And.left (by with_reducible assumption)) | exact Nat.ne_of_gt (And.left (And.right (by with_reducible assumption))) | exact Nat.ne_of_lt (And.left (And.right (by with_reducible assumption))) | exact Nat.ne_of_gt (And.left (And.right (And.right (by with_reducible assumption)))) | exact Nat.ne_of_lt (And.left (And.right (And.right (by with_reducible assumption)))) | exact Nat.ne_of_gt (And.left (And.right (And.right (And.right (by with_reducible assumption))))) | exact Nat.ne_of_lt (And.left (And.right (And.right (And.right (by with_reducible assumption))))) | exact Nat.ne_of_gt (And.left (And.right (And.right (And.right (And.right (by with_reducible assumption)))))) | exact Nat.ne_of_gt (And.left (And.right (And.right (And.right (And.right (And.right (by with_reducible assumption))))))) | exact Nat.ne_of_gt (And.left (And.right (And.right (And.right (And.right (And.right (And.right (by with_reducible assumption)))))))) | exact Nat.ne_of_gt (And.left (And.right (And.right (And.right (And.right (And.right (And.right (And.right (by with_reducible assumption))))))))) | exact Nat.ne_of_gt (And.left (And.right (And.right (And.right (And.right (And.right (And.right (And.right (And.right (by with_reducible assumption)))))))))) | exact Nat.ne_of_gt (And.left (And.right (And.right (And.right (And.right (And.right (And.right (And.right (And.right (And.right (by with_reducible assumption))))))))))) | exact Nat.ne_of_gt (And.left (And.right (And.right (And.right (And.right (And.right (And.right (And.right (And.right (And.right (And.right (by with_reducible assumption)))))))))))) | exact Nat.ne_of_gt (And.left (And.right (And.right (And.right (And.right (And.right (And.right (And.right (And.right (And.right (And.right (And.right (by with_reducible assumption))))))))))))) | exact Nat.ne_of_gt (And.left (And.right (And.right (And.right (And.right (And.right (And.right (And.right (And.right (And.right (And.right (And.right (And.right (by with_reducible assumption))))))))))))))))
  (k_with "k_mem" => first | assumption | exact List.Mem.head _ | exact List.Mem.tail _ (by k_mem) | exact Evo.mem (by assumption) (by k_mem))
  (k_with "ktd_rel" => first | exact Evo.refl | assumption | (refine Evo.then ?_; ktd_rel) | (refine Evo.trans ?_ (by assumption); ktd_rel))
  (k_with "k_get" => assumption)
  (k_with "subscriptTail" => ((with_reducible show wpAny _ _ (subscriptTail _ _ (Value.ref _) (Value.int _ _)) _ _ _); k_dflt (first | (refine' item_at (by k_asm) (by k_mem) (by omega) (by omega) (by assumption) ?_) | (refine' item_first (by k_asm) (by k_mem) ?_))))
  (k_with "call ref" => ((with_reducible show wpAny _ _ (call (Value.ref 83) _ _) _ _ _); k_dflt (refine' Does.on (by k_asm) (by k_asm) (by k_asm) (by k_asm) (by k_asm) (tuple4_ok (by k_mem)) rfl rfl (by (first | exact room1 (by assumption) (by decide) | exact room0 (by assumption) (by decide) | (dsimp only [Around.deeper, Around.under, Around.in1]; omega))) (by (first | exact room1 (by assumption) (by decide) | exact room0 (by assumption) (by decide) | (dsimp only [Around.deeper, Around.under, Around.in1]; omega))) ?_); rintro _ _ _ _ _ _ ⟨e9, f9⟩; subst e9; subst f9))
  (k_with "call ref" => ((with_reducible show wpAny _ _ (call (Value.ref 472) _ _) _ _ _); k_dflt (refine' Does.on (by k_asm) (by k_asm) (by k_asm) (by k_asm) (by k_asm) (is_clause_ok (by exact Chk.mono (by assumption) (by ktd_rel)) (by k_mem) (by assumption) (by assumption) (by assumption)) rfl rfl (by (first | exact room1 (by assumption) (by decide) | exact room0 (by assumption) (by decide) | (dsimp only [Around.deeper, Around.under, Around.in1]; omega))) (by (first | exact room1 (by assumption) (by decide) | exact room0 (by assumption) (by decide) | (dsimp only [Around.deeper, Around.under, Around.in1]; omega))) ?_); rintro _ _ _ _ _ _ ⟨e9, _⟩; subst e9))
  (k_with "call ref" => ((with_reducible show wpAny _ _ (call (Value.ref 505) _ _) _ _ _); k_dflt (refine' Does.on (by k_asm) (by k_asm) (by k_asm) (by k_asm) (by k_asm) (clause_ok (by exact Chk.mono (by assumption) (by ktd_rel)) (by k_mem) (by assumption) (by assumption) (by assumption) (by assumption)) rfl rfl (by (first | exact room1 (by assumption) (by decide) | exact room0 (by assumption) (by decide) | (dsimp only [Around.deeper, Around.under, Around.in1]; omega))) (by (first | exact room1 (by assumption) (by decide) | exact room0 (by assumption) (by decide) | (dsimp only [Around.deeper, Around.under, Around.in1]; omega))) ?_); rintro _ _ _ _ _ _ ⟨_, _, e9, _, _, _⟩; subst e9))
  (k_with "call ref" => ((with_reducible show wpAny _ _ (call (Value.ref 465) _ _) _ _ _); k_dflt (refine' Does.on (by k_asm) (by k_asm) (by k_asm) (by k_asm) (by k_asm) (alone_ok (by exact Chk.mono (by assumption) (by ktd_rel)) (by k_mem) (by assumption) (by exact NoteV.mono (by assumption) (by ktd_rel)) (by assumption)) rfl rfl (by (first | exact room1 (by assumption) (by decide) | exact room0 (by assumption) (by decide) | (dsimp only [Around.deeper, Around.under, Around.in1]; omega))) (by (first | exact room1 (by assumption) (by decide) | exact room0 (by assumption) (by decide) | (dsimp only [Around.deeper, Around.under, Around.in1]; omega))) ?_); rintro _ _ _ _ _ _ ⟨⟨_, e9⟩, _⟩; subst e9))
  (k_with "eval ListComp" => (k_dflt (refine comp_no (by k_asm) (by with_unfolding_all rfl) (by decide) (by rfl) (by decide) (by rfl) ?_)))
  (k_with "call ref" => ((with_reducible show wpAny _ _ (call (Value.ref 76) _ _) _ _ _); k_dflt (refine' Does.on (by k_asm) (by k_asm) (by k_asm) (by k_asm) (by k_asm) (is_num_yes (NoteV.int _ _)) rfl rfl (by (first | (first | exact room1 (by assumption) (by decide) | exact room0 (by assumption) (by decide) | (dsimp only [Around.deeper, Around.under, Around.in1]; omega)) | decide | omega)) (by (first | (first | exact room1 (by assumption) (by decide) | exact room0 (by assumption) (by decide) | (dsimp only [Around.deeper, Around.under, Around.in1]; omega)) | decide | omega)) ?_); rintro _ _ _ _ _ _ ⟨e9, f9⟩; subst e9; subst f9))
  (k_with "ite" => (first | (refine ite_neg (by simp; done) ?_) | (refine ite_pos (by simp; done) ?_)))
  trivial
theorem fault_b {prog : Program} {w : World} {S : BankA} {Tb : List Key} {C : ChkA} {named told : List Sh} {news : Led} {ps : List (Nat × Bool)} {its sv : List Value} {nc ns n1 n2 tj tr : Nat} {tz : Nat} {cl sl st pr : Addr} {v : Value} {k : Option Int} (hK : Chk prog w news S Tb C named told)
    (hcl : (cl, tupO its nc) ∈ news) (hits : All2 LitIs ps its) (hps : ∀ p ∈ ps, p.1 < named.length) (hz : named.length ≤ 100) (hz2 : its.length ≤ 100) (hz3 : told.length ≤ 100) (ha : asc 0 ps = true) (hv : NoteV news v k)
    (hsl : (sl, lstO sv ns) ∈ news) (hj : sv[(1 : Int).toNat]? = some (.ref st)) (hst : (st, tupO [.str (Str.ofString "input") tr, .ref cl, .ref pr, v] n1) ∈ news) (hpr : (pr, tupO [.int 0 tz] n2) ∈ news) :
    Does prog w 458 [.ref C.c, .ref sl, .int 1 tj] 20 400 news (fun r news' => (∃ t, r = .str (Str.ofString "premise") t) ∧ Evo [] news news') := by
  obtain ⟨es, n, hd, g1, g2, g3, g4⟩ := hK.dict
  have g5 := g4 "is_clause" (by simp [chkNames])
  have g6 := g4 "signed_clause" (by simp [chkNames])
  have g7 := g4 "alone_fault" (by simp [chkNames])
  have hin := hK.inst
  unfold Does
  intro p loose mean mg mb dp un gd env outer A₀ base h₀ L m s R B F X N T hf hke hdp hun hret
  refine' code_defC B F X N T rfl hf hke ?k6 ?k7 ?k8 ?k9 ?kB ?kD ?_ ?c2 ?c3 ?c4
  case k6 => k_dflt k_is
  case k7 => k_dflt k_is
  case k8 => show dp < 1000; omega
  case k9 => exact BindsTo.of_eq rfl
  case kB => exact rfl
  case kD => decide +kernel
  case c2 => exact rfl
  case c3 => exact rfl
  case c4 => exact rfl
  intro g' L' h' tk' cells' FG' F' N' Y' B' X' T' l1
  k_cells Y'
  (try simp only [List.cons_append, List.nil_append] at N')
  (try dsimp only)
  (try k_fold)
  k_steps
  rename_i n9 h9 tk9 F9 N9 hE9 tk99
  refine ⟨n9, [], 1, fun i v => ([.int 0 tz] : List Value)[i]? = some v, fun i ys _ => ys = [], iters_tup rfl N9 (Evo.mem hE9 (List.Mem.tail _ hpr)), F9, N9, by decide, (fun _ h => nomatch h), rfl, (fun _ _ _ _ _ _ _ h => h), ?_, ?_⟩
  · intro g i v ys Y C' oC m₂ h tk E' hi hP hJ hE mC hoC hx F N
    obtain rfl : i = 0 := by omega
    obtain rfl : v = .int 0 tz := (Option.some.inj hP).symm
    have mc := Evo.mem hE (Evo.mem hE9 (List.Mem.head _))
    try k_fold
    k_steps
    all_goals exact ⟨_, _, _, rfl, by k_asm, by k_asm, Evo.refl, hJ⟩
  · intro D h tk ys Y hJ hE N mD F
    obtain rfl : ys = [] := hJ
    try k_fold
    k_steps
    exact hret _ _ _ _ (by k_asm) (by k_asm) ⟨⟨_, rfl⟩, by ktd_rel⟩
end
section
example : True := by
  k_with_none
  (k_with "k_ne" => (refine neN ?_; (try dsimp only); first | exact Nat.ne_of_gt (by with_reducible assumption) | exact Nat.ne_of_lt (by with_reducible assumption) | exact Nat.ne_of_gt (And.left (by with_reducible assumption)) | exact Nat.ne_of_lt (And.left (by with_reducible assumption)) | exact Nat.ne_of_gt (And.left (And.right (by with_reducible assumption))) | exact Nat.ne_of_lt (And.left (And.right (by with_reducible assumption))) | exact Nat.ne_of_gt (And.left (And.right (And.right (by with_reducible assumption)))) | exact Nat.ne_of_lt (And.left (And.right (And.right (by with_reducible assumption)))) | exact Nat.ne_of_gt (And.left (And.right (And.right (And.right (by with_reducible assumption))))) | exact Nat.ne_of_lt (And.left (And.right (And.right (And.right (by with_reducible assumption))))) | exact Nat.ne_of_gt (And.left (And.right (And.right (And.right (And.right (by with_reducible assumption)))))) | exact Nat.ne_of_gt (And.left (And.right (And.right (And.right (And.right (And.right (by with_reducible assumption))))))) | exact Nat.ne_of_gt (And.left (And.right (And.right (And.right (And.right (And.right (And.right (by with_reducible assumption)))))))) | exact Nat.ne_of_gt (And.left (And.right (And.right (And.right (And.right (And.right (And.right (And.right (by with_reducible assumption))))))))) | exact Nat.ne_of_gt (And.left (And.right (And.right (And.right (And.right (And.right (And.right (And.right (And.right (by with_reducible assumption)))))))))) | exact Nat.ne_of_gt (And.left (And.right (And.right (And.right (And.right (And.right (And.right (And.right (And.right (And.right (by with_reducible assumption))))))))))) | exact Nat.ne_of_gt (And.left (And.right (And.right (And.right (And.right (And.right (And.right (And.right (And.right (And.right (And.right (by with_reducible assumption)))))))))))) | exact Nat.ne_of_gt (And.left (And.right (And.right (And.right (And.right (And.right (And.right (And.right (And.right (And.right (And.right (And.right (by with_reducible assumption))))))))))))) | exact Nat.ne_of_gt (And.left (And.right (And.right (And.right (And.right (And.right (And.right (And.right (And.right (And.right (And.right (And.right (And.right (by with_reducible assumption))))))))))))))))
  (k_with "k_mem" => first | assumption | exact List.Mem.head _ | exact List.Mem.tail _ (by k_mem) | exact Evo.mem (by assumption) (by k_mem))
  (k_with "ktd_rel" => first | exact Evo.refl | assumption | (refine Evo.then ?_; ktd_rel) | (refine Evo.trans ?_ (by assumption); ktd_rel))
  (k_with "k_get" => assumption)
  (k_with "subscriptTail" => ((with_reducible show wpAny _ _ (subscriptTail _ _ (Value.ref _) (Value.int _ _)) _ _ _); k_dflt (first | (refine' item_at (by k_asm) (by k_mem) (by omega) (by omega) (by assumption) ?_) | (refine' item_first (by k_asm) (by k_mem) ?_))))
  (k_with "call ref" => ((with_reducible show wpAny _ _ (call (Value.ref 83) _ _) _ _ _); k_dflt (refine' Does.on (by k_asm) (by k_asm) (by k_asm) (by k_asm) (by k_asm) (tuple4_ok (by k_mem)) rfl rfl (by (first | exact room1 (by assumption) (by decide) | exact room0 (by assumption) (by decide) | (dsimp only [Around.deeper, Around.under, Around.in1]; omega))) (by (first | exact room1 (by assumption) (by decide) | exact room0 (by assumption) (by decide) | (dsimp only [Around.deeper, Around.under, Around.in1]; omega))) ?_); rintro _ _ _ _ _ _ ⟨e9, f9⟩; subst e9; subst f9))
  (k_with "call ref" => ((with_reducible show wpAny _ _ (call (Value.ref 472) _ _) _ _ _); k_dflt (refine' Does.on (by k_asm) (by k_asm) (by k_asm) (by k_asm) (by k_asm) (is_clause_ok (by exact Chk.mono (by assumption) (by ktd_rel)) (by k_mem) (by assumption) (by assumption) (by assumption)) rfl rfl (by (first | exact room1 (by assumption) (by decide) | exact room0 (by assumption) (by decide) | (dsimp only [Around.deeper, Around.under, Around.in1]; omega))) (by (first | exact room1 (by assumption) (by decide) | exact room0 (by assumption) (by decide) | (dsimp only [Around.deeper, Around.under, Around.in1]; omega))) ?_); rintro _ _ _ _ _ _ ⟨e9, _⟩; subst e9))
  (k_with "call ref" => ((with_reducible show wpAny _ _ (call (Value.ref 505) _ _) _ _ _); k_dflt (refine' Does.on (by k_asm) (by k_asm) (by k_asm) (by k_asm) (by k_asm) (clause_ok (by exact Chk.mono (by assumption) (by ktd_rel)) (by k_mem) (by assumption) (by assumption) (by assumption) (by assumption)) rfl rfl (by (first | exact room1 (by assumption) (by decide) | exact room0 (by assumption) (by decide) | (dsimp only [Around.deeper, Around.under, Around.in1]; omega))) (by (first | exact room1 (by assumption) (by decide) | exact room0 (by assumption) (by decide) | (dsimp only [Around.deeper, Around.under, Around.in1]; omega))) ?_); rintro _ _ _ _ _ _ ⟨_, _, e9, _, _, _⟩; subst e9))
  (k_with "call ref" => ((with_reducible show wpAny _ _ (call (Value.ref 465) _ _) _ _ _); k_dflt (refine' Does.on (by k_asm) (by k_asm) (by k_asm) (by k_asm) (by k_asm) (alone_ok (by exact Chk.mono (by assumption) (by ktd_rel)) (by k_mem) (by assumption) (by exact NoteV.mono (by assumption) (by ktd_rel)) (by assumption)) rfl rfl (by (first | exact room1 (by assumption) (by decide) | exact room0 (by assumption) (by decide) | (dsimp only [Around.deeper, Around.under, Around.in1]; omega))) (by (first | exact room1 (by assumption) (by decide) | exact room0 (by assumption) (by decide) | (dsimp only [Around.deeper, Around.under, Around.in1]; omega))) ?_); rintro _ _ _ _ _ _ ⟨⟨_, e9⟩, _⟩; subst e9))
  (k_with "eval ListComp" => (k_dflt (refine comp_no (by k_asm) (by with_unfolding_all rfl) (by decide) (by rfl) (by decide) (by rfl) ?_)))
  trivial
theorem fault_c {prog : Program} {w : World} {S : BankA} {Tb : List Key} {C : ChkA} {named told : List Sh} {news : Led} {ps : List (Nat × Bool)} {its sv : List Value} {nc ns n1 n2 j tj tr : Nat} {cl sl st pr : Addr} {v : Value} {k : Option Int} (hK : Chk prog w news S Tb C named told)
    (hcl : (cl, tupO its nc) ∈ news) (hits : All2 LitIs ps its) (hps : ∀ p ∈ ps, p.1 < named.length) (hz : named.length ≤ 100) (hz2 : its.length ≤ 100) (hz3 : told.length ≤ 100) (ha : asc 0 ps = false) (hv : NoteV news v k)
    (hsl : (sl, lstO sv ns) ∈ news) (hj : sv[((j : Nat) : Int).toNat]? = some (.ref st)) (hj2 : j < 100) (hst : (st, tupO [.str (Str.ofString "input") tr, .ref cl, .ref pr, v] n1) ∈ news) (hpr : (pr, tupO [] n2) ∈ news) :
    Does prog w 458 [.ref C.c, .ref sl, .int j tj] 20 400 news (fun r news' => (∃ t, r = .str (Str.ofString "clause") t) ∧ Evo [] news news') := by
  obtain ⟨es, n, hd, g1, g2, g3, g4⟩ := hK.dict
  have g5 := g4 "is_clause" (by simp [chkNames])
  have g6 := g4 "signed_clause" (by simp [chkNames])
  have g7 := g4 "alone_fault" (by simp [chkNames])
  have hin := hK.inst
  unfold Does
  intro p loose mean mg mb dp un gd env outer A₀ base h₀ L m s R B F X N T hf hke hdp hun hret
  refine' code_defC B F X N T rfl hf hke ?k6 ?k7 ?k8 ?k9 ?kB ?kD ?_ ?c2 ?c3 ?c4
  case k6 => k_dflt k_is
  case k7 => k_dflt k_is
  case k8 => show dp < 1000; omega
  case k9 => exact BindsTo.of_eq rfl
  case kB => exact rfl
  case kD => decide +kernel
  case c2 => exact rfl
  case c3 => exact rfl
  case c4 => exact rfl
  intro g' L' h' tk' cells' FG' F' N' Y' B' X' T' l1
  k_cells Y'
  (try simp only [List.cons_append, List.nil_append] at N')
  (try dsimp only)
  (try k_fold)
  k_steps
  all_goals exact hret _ _ _ _ (by k_asm) (by k_asm) ⟨⟨_, rfl⟩, by ktd_rel⟩
end
section
def Sh.ev (c : Nat → Bool) : Sh → Bool
  | .c i => c i
  | .tt => true
  | .ff => false
  | .neg a => !a.ev c
  | .con a b => a.ev c && b.ev c
  | .dis a b => a.ev c || b.ev c
theorem Sh.ev_bare (c : Nat → Bool) : ∀ x : Sh, x.ev c = xor x.par (x.bare.ev c)
  | .neg a => by
    have h := Sh.ev_bare c a
    simp only [Sh.ev, Sh.par, Sh.bare, h]
    cases a.par <;> cases a.bare.ev c <;> rfl
  | .c _ => by simp [Sh.par, Sh.bare]
  | .tt => by simp [Sh.par, Sh.bare]
  | .ff => by simp [Sh.par, Sh.bare]
  | .con _ _ => by simp [Sh.par, Sh.bare]
  | .dis _ _ => by simp [Sh.par, Sh.bare]
def cbit (W i : Nat) : Bool := Builtin.bitAnd ((W : Int).fdiv (2 ^ ((i : Nat) : Int).toNat)) 1 == 1
def TruthDoes (prog : Program) (w : World) (W : Nat) (x : Sh) : Prop :=
  ∀ (news : Led) (v : Value) (tw : Tok), ShIn news v x → Does prog w 586 [v, .int W tw] (2 * x.dp + 5) (20 * x.dp + 40) news (fun r news' => r = .bool (x.ev (cbit W)) ∧ Evo [] news news')
example : True := by
  k_with_none
  (k_with "k_ne" => (refine neN ?_; (try dsimp only); first | exact Nat.ne_of_gt (by with_reducible assumption) | exact Nat.ne_of_lt (by with_reducible assumption) | exact Nat.ne_of_gt (And.left (by with_reducible assumption)) | exact Nat.ne_of_lt (And.left (by with_reducible assumption)) | exact Nat.ne_of_gt (And.left (And.right (by with_reducible assumption))) | exact Nat.ne_of_lt (And.left (And.right (by with_reducible assumption))) | exact Nat.ne_of_gt (And.left (And.right (And.right (by with_reducible assumption)))) | exact Nat.ne_of_lt (And.left (And.right (And.right (by with_reducible assumption)))) | exact Nat.ne_of_gt (And.left (And.right (And.right (And.right (by with_reducible assumption))))) | exact Nat.ne_of_lt (And.left (And.right (And.right (And.right (by with_reducible assumption))))) | exact Nat.ne_of_gt (And.left (And.right (And.right (And.right (And.right (by with_reducible assumption)))))) | exact Nat.ne_of_gt (And.left (And.right (And.right (And.right (And.right (And.right (by with_reducible assumption))))))) | exact Nat.ne_of_gt (And.left (And.right (And.right (And.right (And.right (And.right (And.right (by with_reducible assumption)))))))) | exact Nat.ne_of_gt (And.left (And.right (And.right (And.right (And.right (And.right (And.right (And.right (by with_reducible assumption))))))))) | exact Nat.ne_of_gt (And.left (And.right (And.right (And.right (And.right (And.right (And.right (And.right (And.right (by with_reducible assumption)))))))))) | exact Nat.ne_of_gt (And.left (And.right (And.right (And.right (And.right (And.right (And.right (And.right (And.right (And.right (by with_reducible assumption))))))))))) | exact Nat.ne_of_gt (And.left (And.right (And.right (And.right (And.right (And.right (And.right (And.right (And.right (And.right (And.right (by with_reducible assumption)))))))))))) | exact Nat.ne_of_gt (And.left (And.right (And.right (And.right (And.right (And.right (And.right (And.right (And.right (And.right (And.right (And.right (by with_reducible assumption))))))))))))) | exact Nat.ne_of_gt (And.left (And.right (And.right (And.right (And.right (And.right (And.right (And.right (And.right (And.right (And.right (And.right (And.right (by with_reducible assumption))))))))))))))))
  (k_with "k_mem" => first | assumption | exact List.Mem.head _ | exact List.Mem.tail _ (by k_mem))
  (k_with "k_get" => assumption)
  (k_with "subscriptTail" => ((with_reducible show wpAny _ _ (subscriptTail _ _ (Value.ref _) (Value.int _ _)) _ _ _); k_dflt (first
      | (refine' item_tupleT (by exact News.isTup (by k_asm) (by k_mem)) (by decide) (by decide) (by rfl) (by rfl) ?_; k_whole))))
  (k_with "call builtin:len" => ((with_reducible show wpAny _ _ (call (Value.builtin "len") [Value.ref _]) _ _ _); k_dflt (refine' len_tup (by k_asm) (by k_mem) (by rfl) (by decide) ?_); intro _ _))
  (k_with "ktd_rel" => first | exact Evo.refl | assumption | (refine Evo.then ?_; ktd_rel) | (refine Evo.trans ?_ (by assumption); ktd_rel))
  trivial
theorem truth_c {prog : Program} {w : World} {W i : Nat} : TruthDoes prog w W (.c i) := by
  intro news v tw hv
  cases hv
  rename_i hi
  unfold Does
  intro p loose mean mg mb dp un gd env outer A₀ base h₀ L m s R B F X N T hf hke hdp hun hret
  refine' code_defC B F X N T rfl hf hke ?k6 ?k7 ?k8 ?k9 ?kB ?kD ?_ ?c2 ?c3 ?c4
  case k6 => k_dflt k_is
  case k7 => k_dflt k_is
  case k8 => show dp < 1000; omega
  case k9 => exact BindsTo.of_eq rfl
  case kB => exact rfl
  case kD => decide +kernel
  case c2 => exact rfl
  case c3 => exact rfl
  case c4 => exact rfl
  intro g' L' h' tk' cells' FG' F' N' Y' B' X' T' l1
  k_cells Y'
  (try simp only [List.cons_append, List.nil_append] at N')
  (try dsimp only)
  (try k_fold)
  k_steps
  all_goals exact hret _ _ _ _ (by k_asm) (by k_asm) ⟨rfl, by ktd_rel⟩
theorem truth_tt {prog : Program} {w : World} {W : Nat} : TruthDoes prog w W .tt := by
  intro news v tw hv
  cases hv
  unfold Does
  intro p loose mean mg mb dp un gd env outer A₀ base h₀ L m s R B F X N T hf hke hdp hun hret
  refine' code_defC B F X N T rfl hf hke ?k6 ?k7 ?k8 ?k9 ?kB ?kD ?_ ?c2 ?c3 ?c4
  case k6 => k_dflt k_is
  case k7 => k_dflt k_is
  case k8 => show dp < 1000; omega
  case k9 => exact BindsTo.of_eq rfl
  case kB => exact rfl
  case kD => decide +kernel
  case c2 => exact rfl
  case c3 => exact rfl
  case c4 => exact rfl
  intro g' L' h' tk' cells' FG' F' N' Y' B' X' T' l1
  k_cells Y'
  (try simp only [List.cons_append, List.nil_append] at N')
  (try dsimp only)
  (try k_fold)
  k_steps
  all_goals exact hret _ _ _ _ (by k_asm) (by k_asm) ⟨by show Value.bool _ = Value.bool _; exact congrArg Value.bool (by first | exact (show (Str.ofString "true" == Str.ofString "true") = true by decide) | exact (show (Str.ofString "false" == Str.ofString "true") = false by decide)), by ktd_rel⟩
theorem truth_ff {prog : Program} {w : World} {W : Nat} : TruthDoes prog w W .ff := by
  intro news v tw hv
  cases hv
  unfold Does
  intro p loose mean mg mb dp un gd env outer A₀ base h₀ L m s R B F X N T hf hke hdp hun hret
  refine' code_defC B F X N T rfl hf hke ?k6 ?k7 ?k8 ?k9 ?kB ?kD ?_ ?c2 ?c3 ?c4
  case k6 => k_dflt k_is
  case k7 => k_dflt k_is
  case k8 => show dp < 1000; omega
  case k9 => exact BindsTo.of_eq rfl
  case kB => exact rfl
  case kD => decide +kernel
  case c2 => exact rfl
  case c3 => exact rfl
  case c4 => exact rfl
  intro g' L' h' tk' cells' FG' F' N' Y' B' X' T' l1
  k_cells Y'
  (try simp only [List.cons_append, List.nil_append] at N')
  (try dsimp only)
  (try k_fold)
  k_steps
  all_goals exact hret _ _ _ _ (by k_asm) (by k_asm) ⟨by show Value.bool _ = Value.bool _; exact congrArg Value.bool (by first | exact (show (Str.ofString "true" == Str.ofString "true") = true by decide) | exact (show (Str.ofString "false" == Str.ofString "true") = false by decide)), by ktd_rel⟩
end
section
def evs (c : Nat → Bool) (shs : List Sh) : List Value := (shs.map fun x => x.ev c).map Value.bool
theorem evs_snoc {c : Nat → Bool} {shs : List Sh} {i : Nat} {x : Sh} {ys : List Value} (h : shs[i]? = some x) (hy : ys = evs c (shs.take i)) : ys ++ [.bool (x.ev c)] = evs c (shs.take (i + 1)) := by
  rw [sizes_get h, hy, evs, evs, List.map_append, List.map_append]; rfl
section
variable {prog : Program} {w : World} {A : Around} {E : Value → Shared → Prop} {s : Shared} {h₀ : Heap} {L l : Addr} {news : Led} {bs : List Bool} {n : Nat} {b : Bool} {Q : Value → Shared → Prop}
def isB (b : Bool) : Value → Bool
  | .bool c => c == b
  | _ => false
theorem any_isB (bs : List Bool) (b : Bool) : (bs.map Value.bool).toArray.any (isB b) = bs.any (· == b) := by
  rw [List.any_toArray, List.any_map]; rfl
theorem isB_at (bs : List Bool) (b : Bool) : ∀ y, y ∈ (bs.map Value.bool).toArray → SeqAt.EqAt A s y (.bool b) (isB b y) := fun y hy => by
  obtain ⟨c, _, rfl⟩ := List.mem_map.mp (List.mem_toArray.mp hy)
  exact SeqAt.EqAt.bool_bool c b
theorem in_bools (N : News h₀ L s.heap news) (hm : (l, lstO (bs.map Value.bool) n) ∈ news) (h : Q (.bool (bs.any (· == b))) s) : wpAny (model prog w) A (compareOp .In (.bool b) (.ref l)) Q E s :=
  SeqAt.in_listAt (isB b) (News.isList N hm) (isB_at bs b) (by rw [any_isB]; exact h)
theorem notin_bools (N : News h₀ L s.heap news) (hm : (l, lstO (bs.map Value.bool) n) ∈ news) (h : Q (.bool (!bs.any (· == b))) s) : wpAny (model prog w) A (compareOp .NotIn (.bool b) (.ref l)) Q E s :=
  SeqAt.notIn_listAt (isB b) (News.isList N hm) (isB_at bs b) (by rw [any_isB]; exact h)
end
example : True := by
  k_with_none
  (k_with "k_ne" => (refine neN ?_; (try dsimp only); first | exact Nat.ne_of_gt (by with_reducible assumption) | exact Nat.ne_of_lt (by with_reducible assumption) | exact Nat.ne_of_gt (And.left (by with_reducible assumption)) | exact Nat.ne_of_lt (And.left (by with_reducible assumption)) | exact Nat.ne_of_gt (And.left (And.right (by with_reducible assumption))) | exact Nat.ne_of_lt (And.left (And.right (by with_reducible assumption))) | exact Nat.ne_of_gt (And.left (And.right (And.right (by with_reducible assumption)))) | exact Nat.ne_of_lt (And.left (And.right (And.right (by with_reducible assumption)))) | exact Nat.ne_of_gt (And.left (And.right (And.right (And.right (by with_reducible assumption))))) | exact Nat.ne_of_lt (And.left (And.right (And.right (And.right (by with_reducible assumption))))) | exact Nat.ne_of_gt (And.left (And.right (And.right (And.right (And.right (by with_reducible assumption)))))) | exact Nat.ne_of_gt (And.left (And.right (And.right (And.right (And.right (And.right (by with_reducible assumption))))))) | exact Nat.ne_of_gt (And.left (And.right (And.right (And.right (And.right (And.right (And.right (by with_reducible assumption)))))))) | exact Nat.ne_of_gt (And.left (And.right (And.right (And.right (And.right (And.right (And.right (And.right (by with_reducible assumption))))))))) | exact Nat.ne_of_gt (And.left (And.right (And.right (And.right (And.right (And.right (And.right (And.right (And.right (by with_reducible assumption)))))))))) | exact Nat.ne_of_gt (And.left (And.right (And.right (And.right (And.right (And.right (And.right (And.right (And.right (And.right (by with_reducible assumption))))))))))) | exact Nat.ne_of_gt (And.left (And.right (And.right (And.right (And.right (And.right (And.right (And.right (And.right (And.right (And.right (by with_reducible assumption)))))))))))) | exact Nat.ne_of_gt (And.left (And.right (And.right (And.right (And.right (And.right (And.right (And.right (And.right (And.right (And.right (And.right (by with_reducible assumption))))))))))))) | exact Nat.ne_of_gt (And.left (And.right (And.right (And.right (And.right (And.right (And.right (And.right (And.right (And.right (And.right (And.right (And.right (by with_reducible assumption))))))))))))))))
  (k_with "k_mem" => first | assumption | exact List.Mem.head _ | exact List.Mem.tail _ (by k_mem))
  (k_with "k_get" => assumption)
  (k_with "ktd_rel" => first | exact Evo.refl | assumption | (refine Evo.then ?_; ktd_rel) | (refine Evo.trans ?_ (by assumption); ktd_rel))
  (k_with "subscriptTail" => ((with_reducible show wpAny _ _ (subscriptTail _ _ (Value.ref _) (Value.int _ _)) _ _ _); k_dflt (first
      | (refine' item_first (by k_asm) (by k_mem) ?_)
      | (refine' item_at (by k_asm) (by k_mem) (by decide) (by decide) (by rfl) ?_))))
  (k_with "call builtin:len" => ((with_reducible show wpAny _ _ (call (Value.builtin "len") [Value.ref _]) _ _ _); k_dflt (refine' len_tup (by k_asm) (by k_mem) (by rfl) (by (simp only [List.length_cons]; omega)) ?_); intro _ _))
  (k_with "eval ListComp" => (k_dflt (refine comp_eval (by k_asm) (by with_unfolding_all rfl) (by decide) (by rfl) (by decide) (by rfl) ?_)))
  (k_with "subscriptTail" => ((with_reducible show wpAny _ _ (subscriptTail _ _ (Value.ref _) (Value.ref _)) _ _ _); with_unfolding_all (refine slice1 (by k_asm) (by k_asm) (by k_mem) (by assumption) ?_); intro _ _ _ _))
  (k_with "exec Assign cons ListComp" => (k_dflt (refine comp_assign (by k_asm) (by rfl) (by with_unfolding_all rfl) (by with_unfolding_all rfl) (by decide) (by rfl) (by decide) (by rfl) (by rfl) (by rfl) ?_)))
  (k_with "compareOp In" => (k_dflt (refine' in_bools (by k_asm) (by k_mem) ?_)))
  (k_with "compareOp NotIn" => (k_dflt (refine' notin_bools (by k_asm) (by k_mem) ?_)))
  (k_with "call ref" => ((with_reducible show wpAny _ _ (call (Value.ref 586) _ _) _ _ _); k_dflt (refine' Does.on (by k_asm) (by k_asm) (by k_asm) (by k_asm) (by k_asm) (‹Does _ _ 586 _ _ _ _ _›) rfl rfl (by (first | (first | exact room1 (by assumption) (by decide) | exact room0 (by assumption) (by decide) | (dsimp only [Around.deeper, Around.under, Around.in1]; omega)) | decide | omega)) (by (first | (first | exact room1 (by assumption) (by decide) | exact room0 (by assumption) (by decide) | (dsimp only [Around.deeper, Around.under, Around.in1]; omega)) | decide | omega)) ?_); rintro _ _ _ _ _ _ ⟨e9, _⟩; subst e9))
  (k_with "ite" => (first | (refine ite_neg (by assumption) ?_) | (refine ite_pos (by assumption) ?_) | (refine ite_neg (by simp only [beq_iff_eq, List.length_cons]; omega) ?_)))
  trivial
theorem truth_node {prog : Program} {w : World} {W : Nat} {a n t : Nat} {x : Sh} {op : Str} {shs : List Sh} {its : List Value} {news : Led} {tw : Tok}
    (hop : ¬ (op == Str.ofString "c") = true)
    (hm : (a, tupO (.str op t :: its) n) ∈ news) (hi0 : 0 < its.length) (hi2 : its.length ≤ 100) (hsl : shs.length = its.length)
    (hk : ∀ (i : Nat) (v : Value), its[i]? = some v → ∃ sh, shs[i]? = some sh ∧ ShIn news v sh) (IH : ∀ sh ∈ shs, TruthDoes prog w W sh ∧ sh.dp + 1 ≤ x.dp)
    (hfin : (op = Str.ofString "not" ∧ ∃ y, shs = [y] ∧ x.ev (cbit W) = !y.ev (cbit W)) ∨ (op = Str.ofString "and" ∧ ∃ y z, shs = [y, z] ∧ x.ev (cbit W) = (y.ev (cbit W) && z.ev (cbit W))) ∨ (op = Str.ofString "or" ∧ ∃ y z, shs = [y, z] ∧ x.ev (cbit W) = (y.ev (cbit W) || z.ev (cbit W)))) :
    Does prog w 586 [.ref a, .int W tw] (2 * x.dp + 5) (20 * x.dp + 40) news (fun r news' => r = .bool (x.ev (cbit W)) ∧ Evo [] news news') := by
  unfold Does
  intro p loose mean mg mb dp un gd env outer A₀ base h₀ L m s R B F X N T hf hke hdp hun hret
  refine' code_defC B F X N T rfl hf hke ?k6 ?k7 ?k8 ?k9 ?kB ?kD ?_ ?c2 ?c3 ?c4
  case k6 => k_dflt k_is
  case k7 => k_dflt k_is
  case k8 => show dp < 1000; omega
  case k9 => exact BindsTo.of_eq rfl
  case kB => exact rfl
  case kD => decide +kernel
  case c2 => exact rfl
  case c3 => exact rfl
  case c4 => exact rfl
  intro g' L' h' tk' cells' FG' F' N' Y' B' X' T' l1
  k_cells Y'
  (try simp only [List.cons_append, List.nil_append] at N')
  (try dsimp only)
  (try k_fold)
  k_steps
  rename_i c1 o1 e1 e2 e3 D' h5 F5 N5
  refine ⟨_, [], its.length, fun i v => its[i]? = some v, fun i ys _ => ys = evs (cbit W) (shs.take i), iters_tup rfl N5 (List.Mem.head _), F5, N5, Nat.le_trans hi2 (by decide), (fun _ h => nomatch h), by simp [evs], (fun _ _ _ _ _ _ _ h => h), ?_, ?_⟩
  · intro g i v ys Y C oC m₂ h tk E' hi hP hJ hE mC hoC hx F N
    obtain ⟨sh, hsh, hv⟩ := hk i v hP
    have hE0 : Evo [] news Y := Evo.trans (Evo.then (Evo.then Evo.refl)) hE
    have mc : (L' + 1, c1) ∈ Y := hE _ (List.Mem.tail _ (List.Mem.head _)) fun z => nomatch z
    have iH := IH sh (List.mem_of_getElem? hsh)
    have hdp := iH.2
    have D := iH.1 Y v tw (hv.mono hE0)
    try k_fold
    k_steps
    · k_asm
    · k_asm
    · assumption
    · exact evs_snoc hsh hJ
  · intro D h tk ys Y hJ hE N mD F
    have hE0 : Evo [] news Y := Evo.trans (Evo.then (Evo.then Evo.refl)) hE
    have mc : (L' + 1, c1) ∈ Y := hE _ (List.Mem.tail _ (List.Mem.head _)) fun z => nomatch z
    have ma : (a, tupO (.str op t :: its) n) ∈ Y := hE0.tup hm
    have hJ : ys = evs (cbit W) shs := by rw [hJ, ← hsl, List.take_length]
    rcases hfin with ⟨rfl, y, rfl, hx⟩ | ⟨rfl, y, z, rfl, hx⟩ | ⟨rfl, y, z, rfl, hx⟩
    · obtain rfl : ys = [.bool (y.ev (cbit W))] := hJ
      try k_fold
      k_steps
      exact hret _ _ _ _ (by k_asm) (by k_asm) ⟨by rw [hx], by ktd_rel⟩
    · have mD : (D, lstO (([y.ev (cbit W), z.ev (cbit W)] : List Bool).map Value.bool) ys.length) ∈ Y := by rw [hJ] at mD ⊢; exact mD
      try k_fold
      k_steps
      exact hret _ _ _ _ (by k_asm) (by k_asm) ⟨by rw [hx]; simp only [List.any_cons, List.any_nil, Bool.or_false]; cases y.ev (cbit W) <;> cases z.ev (cbit W) <;> rfl, by ktd_rel⟩
    · have mD : (D, lstO (([y.ev (cbit W), z.ev (cbit W)] : List Bool).map Value.bool) ys.length) ∈ Y := by rw [hJ] at mD ⊢; exact mD
      try k_fold
      k_steps
      exact hret _ _ _ _ (by k_asm) (by k_asm) ⟨by rw [hx]; simp only [List.any_cons, List.any_nil, Bool.or_false]; cases y.ev (cbit W) <;> cases z.ev (cbit W) <;> rfl, by ktd_rel⟩
theorem truth_ok {prog : Program} {w : World} {W : Nat} : ∀ x : Sh, TruthDoes prog w W x := by
  intro x
  induction x with
  | c i => exact truth_c
  | tt => exact truth_tt
  | ff => exact truth_ff
  | neg a ih =>
    intro news v tw hv
    cases hv with
    | neg hm hv =>
      exact truth_node (by decide) hm (by simp) (by simp) rfl (kids1 hv)
          (fun sh hs => by obtain rfl := List.mem_singleton.mp hs; exact ⟨ih, Nat.le_refl _⟩) (.inl ⟨rfl, _, rfl, rfl⟩)
  | con a b iha ihb =>
    intro news v tw hv
    cases hv with
    | con hm hv hu =>
      exact truth_node (by decide) hm (by simp) (by simp) rfl (kids2 hv hu)
          (fun sh hs => by
            rcases List.mem_cons.mp hs with rfl | hs
            · exact ⟨iha, Nat.succ_le_succ (Nat.le_max_left _ _)⟩
            · obtain rfl := List.mem_singleton.mp hs; exact ⟨ihb, Nat.succ_le_succ (Nat.le_max_right _ _)⟩) (.inr (.inl ⟨rfl, _, _, rfl, rfl⟩))
  | dis a b iha ihb =>
    intro news v tw hv
    cases hv with
    | dis hm hv hu =>
      exact truth_node (by decide) hm (by simp) (by simp) rfl (kids2 hv hu)
          (fun sh hs => by
            rcases List.mem_cons.mp hs with rfl | hs
            · exact ⟨iha, Nat.succ_le_succ (Nat.le_max_left _ _)⟩
            · obtain rfl := List.mem_singleton.mp hs; exact ⟨ihb, Nat.succ_le_succ (Nat.le_max_right _ _)⟩) (.inr (.inr ⟨rfl, _, _, rfl, rfl⟩))
end
section
-- nofill
section
open PySem.AutoSeq1 (wpAny_loadPart')
theorem range_has (r : Addr) (a b : Int) (t u v : Tok) (i : Int) (t' : Tok) :
    Meets (Builtin.«range.__contains__» ⟨[.ref r, .int i t'], []⟩)
      (fun _ R s => IsRange s.heap r a b 1 t u v ∧ R (.ok (.ret (.bool (Builtin.Range.rangePlace? a b 1 i).isSome))) s) := by
  intro prog w A R s h
  obtain ⟨hp, g, d, tk, os⟩ := s; obtain ⟨hl, h⟩ := h
  wp_walk using wpAny_loadPart' hl
  exact h
end
theorem place_one (a b i : Int) : (Builtin.Range.rangePlace? a b 1 i).isSome = decide (a ≤ i ∧ i < b) := by
  unfold Builtin.Range.rangePlace?
  by_cases h : a ≤ i ∧ i < b
  · have h1 := h.1; have h2 := h.2
    simp [h, Int.emod_one]
  · rw [decide_eq_false h]
    have : (decide (a ≤ i) && decide (i < b)) = false := by
      rw [Bool.and_eq_false_iff]; simp only [decide_eq_false_iff_not]; omega
    simp [this]
theorem notin_range {prog : Program} {w : World} {A : Around} {E : Value → Shared → Prop} {s : Shared} {r : Addr} {a b i : Int} {t u v t' : Tok} {Q : Value → Shared → Prop} (hr : IsRange s.heap r a b 1 t u v) (h : Q (.bool (!decide (a ≤ i ∧ i < b))) s) :
    wpAny (model prog w) A (compareOp .NotIn (.int i t') (.ref r)) Q E s :=
  SeqRoads2.notIn_meets (T := "range") ⟨_, hr, rfl⟩ PySem.F.slot_range_contains PySem.F.entry_range_contains (PySem.F.args_range_contains_2 _ _) (range_has r a b t u v i t') ⟨hr, _, rfl, by rw [place_one]; exact h⟩
def Sh.data : Sh → PyData
  | .c i => .tuple [.str (Str.ofString "c"), .int i]
  | .tt => .tuple [.str (Str.ofString "true")]
  | .ff => .tuple [.str (Str.ofString "false")]
  | .neg a => .tuple [.str (Str.ofString "not"), a.data]
  | .con a b => .tuple [.str (Str.ofString "and"), a.data, b.data]
  | .dis a b => .tuple [.str (Str.ofString "or"), a.data, b.data]
theorem tup_reads {h₀ h : Heap} {L a : Addr} {news : Led} {vs : List Value} {n : Nat} {xs : List PyData} (N : News h₀ L h news) (hm : (a, tupO vs n) ∈ news) (hr : ReadsAll h vs xs []) : Reads h (.ref a) (.tuple xs) [] :=
  Reads.tuple (N.get hm) rfl rfl (by simpa using hr)
theorem ShIn.reads {h₀ h : Heap} {L : Addr} {news : Led} {v : Value} {x : Sh} (N : News h₀ L h news) (s : ShIn news v x) : Reads h v x.data [] := by
  induction s with
  | c m l => exact tup_reads N m (ReadsAll.cons (Reads.str _ _) (ReadsAll.cons (Reads.int _ _) ReadsAll.nil))
  | tt m => exact tup_reads N m (ReadsAll.cons (Reads.str _ _) ReadsAll.nil)
  | ff m => exact tup_reads N m (ReadsAll.cons (Reads.str _ _) ReadsAll.nil)
  | neg m _ i => exact tup_reads N m (ReadsAll.cons (Reads.str _ _) (ReadsAll.cons i ReadsAll.nil))
  | con m _ _ i j => exact tup_reads N m (ReadsAll.cons (Reads.str _ _) (ReadsAll.cons i (ReadsAll.cons j ReadsAll.nil)))
  | dis m _ _ i j => exact tup_reads N m (ReadsAll.cons (Reads.str _ _) (ReadsAll.cons i (ReadsAll.cons j ReadsAll.nil)))
theorem data_ne {s s' : Str} {xs ys : List PyData} (h : (s == s') = false) : PyData.eqv (.tuple (.str s :: xs)) (.tuple (.str s' :: ys)) = false := by
  simp only [PyData.eqv, PyData.eqvAll, h, Bool.false_and]
theorem data_eqv : ∀ x y : Sh, PyData.eqv x.data y.data = decide (x = y) := by
  intro x
  induction x with
  | c i =>
    intro y
    cases y with
    | c j => simp only [Sh.data, PyData.eqv, PyData.eqvAll, beq_self_eq_true, Bool.true_and, Bool.and_true, Sh.c.injEq]; rw [Bool.eq_iff_iff]; simp; omega
    | tt | ff | neg _ | con _ _ | dis _ _ => exact (data_ne (by decide)).trans (decide_eq_false (by intro h; cases h)).symm
  | tt =>
    intro y
    cases y with
    | tt => simp [Sh.data, PyData.eqv, PyData.eqvAll]
    | c _ | ff | neg _ | con _ _ | dis _ _ => exact (data_ne (by decide)).trans (decide_eq_false (by intro h; cases h)).symm
  | ff =>
    intro y
    cases y with
    | ff => simp [Sh.data, PyData.eqv, PyData.eqvAll]
    | c _ | tt | neg _ | con _ _ | dis _ _ => exact (data_ne (by decide)).trans (decide_eq_false (by intro h; cases h)).symm
  | neg a ih =>
    intro y
    cases y with
    | neg b => simp only [Sh.data, PyData.eqv, PyData.eqvAll, beq_self_eq_true, Bool.true_and, Bool.and_true, Sh.neg.injEq, ih]
    | c _ | tt | ff | con _ _ | dis _ _ => exact (data_ne (by decide)).trans (decide_eq_false (by intro h; cases h)).symm
  | con a b ih jh =>
    intro y
    cases y with
    | con c d => simp only [Sh.data, PyData.eqv, PyData.eqvAll, beq_self_eq_true, Bool.true_and, Bool.and_true, Sh.con.injEq, ih, jh, Bool.decide_and]
    | c _ | tt | ff | neg _ | dis _ _ => exact (data_ne (by decide)).trans (decide_eq_false (by intro h; cases h)).symm
  | dis a b ih jh =>
    intro y
    cases y with
    | dis c d => simp only [Sh.data, PyData.eqv, PyData.eqvAll, beq_self_eq_true, Bool.true_and, Bool.and_true, Sh.dis.injEq, ih, jh, Bool.decide_and]
    | c _ | tt | ff | neg _ | con _ _ => exact (data_ne (by decide)).trans (decide_eq_false (by intro h; cases h)).symm
theorem data_lay : ∀ x : Sh, x.data.canLay0 = true ∧ x.data.depth ≤ x.dp := by
  have s1 : PyData.strOk (Str.ofString "c") = true := by decide +kernel
  have s2 : PyData.strOk (Str.ofString "true") = true := by decide +kernel
  have s3 : PyData.strOk (Str.ofString "false") = true := by decide +kernel
  have s4 : PyData.strOk (Str.ofString "not") = true := by decide +kernel
  have s5 : PyData.strOk (Str.ofString "and") = true := by decide +kernel
  have s6 : PyData.strOk (Str.ofString "or") = true := by decide +kernel
  intro x
  induction x with
  | c i => simp [Sh.data, PyData.canLay0, PyData.canLayAll0, PyData.depth, PyData.depthAll, Sh.dp, s1]
  | tt => simp [Sh.data, PyData.canLay0, PyData.canLayAll0, PyData.depth, PyData.depthAll, Sh.dp, s2]
  | ff => simp [Sh.data, PyData.canLay0, PyData.canLayAll0, PyData.depth, PyData.depthAll, Sh.dp, s3]
  | neg a ih =>
    simp only [Sh.data, PyData.canLay0, PyData.canLayAll0, PyData.depth, PyData.depthAll, Sh.dp, s4, ih.1, Bool.true_and, Bool.and_true, true_and]
    have := ih.2
    omega
  | con a b ih jh =>
    simp only [Sh.data, PyData.canLay0, PyData.canLayAll0, PyData.depth, PyData.depthAll, Sh.dp, s5, ih.1, jh.1, Bool.true_and, Bool.and_true, true_and]
    have := ih.2
    have := jh.2
    omega
  | dis a b ih jh =>
    simp only [Sh.data, PyData.canLay0, PyData.canLayAll0, PyData.depth, PyData.depthAll, Sh.dp, s6, ih.1, jh.1, Bool.true_and, Bool.and_true, true_and]
    have := ih.2
    have := jh.2
    omega
/-- a formula taken bare, with its sign -/
def bareD (p : Sh × Bool) : PyData := .tuple [p.1.data, .bool p.2]
def bareOf (named : List Sh) (p : Nat × Bool) : Sh × Bool :=
  match named[p.1]? with
  | some x => (x.bare, xor p.2 x.par)
  | none => (.tt, false)
def BareIs (Y : Led) (q : Sh × Bool) (v : Value) : Prop := ∃ (a : Addr) (u : Value) (n : Nat), v = .ref a ∧ (a, tupO [u, .bool q.2] n) ∈ Y ∧ ShIn Y u q.1
theorem BareIs.mono {S : List Addr} {Y Y' : Led} {q : Sh × Bool} {v : Value} (h : BareIs Y q v) (e : Evo S Y Y') : BareIs Y' q v :=
  let ⟨a, u, n, h1, h2, h3⟩ := h; ⟨a, u, n, h1, e.tup h2, h3.mono e⟩
theorem BareIs.reads {h₀ h : Heap} {L : Addr} {Y : Led} {q : Sh × Bool} {v : Value} (N : News h₀ L h Y) (x : BareIs Y q v) : Reads h v (bareD q) [] := by
  obtain ⟨a, u, n, rfl, h2, h3⟩ := x
  exact tup_reads N h2 (ReadsAll.cons (h3.reads N) (ReadsAll.cons (Reads.bool _) ReadsAll.nil))
theorem All2.mapR {α β : Type} {R R' : α → β → Prop} {as : List α} {bs : List β} (h : All2 R as bs) (f : ∀ a b, R a b → R' a b) : All2 R' as bs := by
  induction h with
  | nil => exact .nil
  | cons r _ ih => exact .cons (f _ _ r) ih
theorem bares_reads {h₀ h : Heap} {L : Addr} {Y : Led} {qs : List (Sh × Bool)} {vs : List Value} (N : News h₀ L h Y) (x : All2 (BareIs Y) qs vs) : ReadsAll h vs (qs.map bareD) [] := by
  induction x with
  | nil => exact .nil
  | cons r _ ih => exact ReadsAll.cons (r.reads N) ih
theorem lst_reads {h₀ h : Heap} {L a : Addr} {news : Led} {vs : List Value} {n : Nat} {xs : List PyData} (N : News h₀ L h news) (hm : (a, lstO vs n) ∈ news) (hr : ReadsAll h vs xs []) : Reads h (.ref a) (.list xs) [a] :=
  Reads.list (N.get hm) rfl rfl (by simpa using hr)
theorem bares_lay (qs : List (Sh × Bool)) (h : ∀ q ∈ qs, q.1.dp ≤ 50) : SeqAt.shaped (.list (qs.map bareD)) = true := by
  have key : PyData.canLayAll0 (qs.map bareD) = true ∧ PyData.depthAll (qs.map bareD) ≤ 51 := by
    induction qs with
    | nil => simp [PyData.canLayAll0, PyData.depthAll]
    | cons q r ih =>
      have i := ih fun q hq => h q (.tail _ hq)
      have d := data_lay q.1
      have hq := h q (.head _)
      simp only [List.map_cons, PyData.canLayAll0, PyData.depthAll, bareD, PyData.canLay0, PyData.depth, d.1, i.1, Bool.true_and, Bool.and_true, true_and]
      have := d.2
      have := i.2
      omega
  unfold SeqAt.shaped
  rw [Bool.and_eq_true]
  exact ⟨key.1, decide_eq_true (by have := key.2; simp only [PyData.depth]; omega)⟩
theorem sgn_xor (b : Bool) (x y : Sh) : decide ((if b then sgn x else -sgn x) = sgn y) = (xor b x.par == xor true y.par) := by
  unfold sgn
  cases b <;> cases x.par <;> cases y.par <;> decide
theorem due_eqv {named : List Sh} {ps : List (Nat × Bool)} (hps : ∀ p ∈ ps, p.1 < named.length) (y : Sh) : PyData.eqv (.list ((ps.map (bareOf named)).map bareD)) (.list ([(y.bare, xor true y.par)].map bareD)) = agree named ps y := by
  match ps with
  | [] => rfl
  | [p] =>
    have hp := List.getElem?_eq_getElem (hps p (.head _))
    simp only [List.map_cons, List.map_nil, bareOf, hp, bareD, PyData.eqv, PyData.eqvAll, data_eqv, Bool.and_true, agree, sgn_xor]
  | p :: q :: r => simp only [List.map_cons, List.map_nil, PyData.eqv, PyData.eqvAll, Bool.and_false, agree]
abbrev ShsIn (news : Led) (xs : List Sh) (vs : List Value) : Prop := All2 (fun x v => ShIn news v x) xs vs
theorem ShsIn.mono {S : List Addr} {news news' : Led} {xs : List Sh} {vs : List Value} (h : ShsIn news xs vs) (e : Evo S news news') : ShsIn news' xs vs := h.mapR fun _ _ r => r.mono e
theorem All2.to {α β : Type} {R : α → β → Prop} {as : List α} {bs : List β} (h : All2 R as bs) {i : Nat} {a : α} (e : as[i]? = some a) : ∃ b, bs[i]? = some b ∧ R a b := by
  induction h generalizing i with
  | nil => simp at e
  | cons r _ ih => cases i with
    | zero => simp only [List.getElem?_cons_zero, Option.some.injEq] at e; subst e; exact ⟨_, rfl, r⟩
    | succ i => exact ih (by simpa using e)
theorem bares_mono {S : List Addr} {Y Y' : Led} {qs : List (Sh × Bool)} {ys : List Value} (h : All2 (BareIs Y) qs ys) (e : Evo S Y Y') : All2 (BareIs Y') qs ys := h.mapR fun _ _ r => r.mono e
theorem eq_bares {prog : Program} {w : World} {A : Around} {E : Value → Shared → Prop} {s : Shared} {h₀ : Heap} {L D D2 a2 : Addr} {Y : Led} {ys : List Value} {u : Value} {n n2 k : Nat} {q1 : Sh} {q2 b : Bool} {qs : List (Sh × Bool)} {Q : Value → Shared → Prop}
    (N : News h₀ L s.heap Y) (hm : (D, lstO ys n) ∈ Y) (hm2 : (D2, lstO [.ref a2] n2) ∈ Y) (ha : (a2, tupO [u, .bool q2] k) ∈ Y) (hs : ShIn Y u q1) (hys : All2 (BareIs Y) qs ys) (hl : ∀ q ∈ qs, q.1.dp ≤ 50) (hq : q1.dp ≤ 50) (hu : A.units + 64 < cLine)
    (hb : PyData.eqv (.list (qs.map bareD)) (.list ([(q1, q2)].map bareD)) = b) (h : Q (.bool b) s) : wpAny (model prog w) A (compareOp .Eq (.ref D) (.ref D2)) Q E s := by
  subst hb
  have hv : All2 (BareIs Y) [(q1, q2)] [.ref a2] := .cons ⟨a2, u, k, rfl, ha, hs⟩ .nil
  exact eq_dataH (lst_reads N hm (bares_reads N hys)) (lst_reads N hm2 (bares_reads N hv)) (bares_lay _ hl) (bares_lay _ fun q hq' => by obtain rfl := List.mem_singleton.mp hq'; exact hq) hu h
theorem bares_dp {named : List Sh} {ps : List (Nat × Bool)} (hd : ∀ x ∈ named, x.dp ≤ 50) : ∀ q ∈ ps.map (bareOf named), q.1.dp ≤ 50 := by
  intro q hq
  obtain ⟨p, _, rfl⟩ := List.mem_map.mp hq
  unfold bareOf
  split
  · rename_i x hx
    exact Nat.le_trans (Sh.dp_bare x) (hd x (List.mem_of_getElem? hx))
  · decide
theorem lit_pos (p : Nat × Bool) : decide (0 < litOf p) = p.2 := by
  unfold litOf
  cases h : p.2 <;> simp <;> omega
theorem bare_next {named : List Sh} {ps : List (Nat × Bool)} {i : Nat} {p : Nat × Bool} {x : Sh} {ys : List Value} {Y : Led} {a : Addr} {u : Value} {k : Nat} (hp : ps[i]? = some p) (hx : named[p.1]? = some x)
    (hJ : All2 (BareIs Y) ((ps.take i).map (bareOf named)) ys) (ha : (a, tupO [u, .bool (xor (decide (0 < litOf p)) x.par)] k) ∈ Y) (hs : ShIn Y u x.bare) : All2 (BareIs Y) ((ps.take (i + 1)).map (bareOf named)) (ys ++ [.ref a]) := by
  rw [take_snoc hp, List.map_append]
  have e : bareOf named p = (x.bare, xor p.2 x.par) := by simp only [bareOf, hx]
  rw [lit_pos] at ha
  exact All2.snoc hJ (by rw [e]; exact ⟨a, u, k, rfl, ha, hs⟩)
end
section
example : True := by
  k_with_none
  (k_with "k_ne" => (refine neN ?_; (try dsimp only); first | exact Nat.ne_of_gt (by with_reducible assumption) | exact Nat.ne_of_lt (by with_reducible assumption) | exact Nat.ne_of_gt (And.left (by with_reducible assumption)) | exact Nat.ne_of_lt (And.left (by with_reducible assumption)) | exact Nat.ne_of_gt (And.left (And.right (by with_reducible assumption))) | exact Nat.ne_of_lt (And.left (And.right (by with_reducible assumption))) | exact Nat.ne_of_gt (And.left (And.right (And.right (by with_reducible assumption)))) | exact Nat.ne_of_lt (And.left (And.right (And.right (by with_reducible assumption)))) | exact Nat.ne_of_gt (And.left (And.right (And.right (And.right (by with_reducible assumption))))) | exact Nat.ne_of_lt (And.left (And.right (And.right (And.right (by with_reducible assumption))))) | exact Nat.ne_of_gt (And.left (And.right (And.right (And.right (And.right (by with_reducible assumption)))))) | exact Nat.ne_of_gt (And.left (And.right (And.right (And.right (And.right (And.right (by with_reducible assumption))))))) | exact Nat.ne_of_gt (And.left (And.right (And.right (And.right (And.right (And.right (And.right (by with_reducible assumption)))))))) | exact Nat.ne_of_gt (And.left (And.right (And.right (And.right (And.right (And.right (And.right (And.right (by with_reducible assumption))))))))) | exact Nat.ne_of_gt (And.left (And.right (And.right (And.right (And.right (And.right (And.right (And.right (And.right (by with_reducible assumption)))))))))) | exact Nat.ne_of_gt (And.left (And.right (And.right (And.right (And.right (And.right (And.right (And.right (And.right (And.right (by with_reducible assumption))))))))))) | exact Nat.ne_of_gt (And.left (And.right (And.right (And.right (And.right (And.right (And.right (And.right (And.right (And.right (And.right (by with_reducible assumption)))))))))))) | exact Nat.ne_of_gt (And.left (And.right (And.right (And.right (And.right (And.right (And.right (And.right (And.right (And.right (And.right (And.right (by with_reducible assumption))))))))))))) | exact Nat.ne_of_gt (And.left (And.right (And.right (And.right (And.right (And.right (And.right (And.right (And.right (And.right (And.right (And.right (And.right (by with_reducible assumption))))))))))))))))
  (k_with "k_mem" => first | assumption | exact List.Mem.head _ | exact List.Mem.tail _ (by k_mem) | exact Evo.mem (by assumption) (by k_mem))
  (k_with "k_get" => assumption)
  (k_with "ktd_rel" => first | exact Evo.refl | assumption | (refine Evo.then ?_; ktd_rel) | (refine Evo.trans ?_ (by assumption); ktd_rel))
  (k_with "subscriptTail" => ((with_reducible show wpAny _ _ (subscriptTail _ _ (Value.ref _) (Value.int _ _)) _ _ _); k_dflt (refine' item_at (by k_asm) (by k_mem) (by first | assumption | omega) (by first | assumption | omega) (by assumption) ?_)))
  (k_with "call builtin:len" => (k_dflt (refine' len_lst (by k_asm) (by k_mem) (by assumption) (by omega) ?_); intro _ _))
  (k_with "exec Assign cons ListComp" => (k_dflt (refine comp_assign (by k_asm) (by rfl) (by with_unfolding_all rfl) (by with_unfolding_all rfl) (by decide) (by rfl) (by decide) (by rfl) (by rfl) (by rfl) ?_)))
  (k_with "compareOp NotIn int ref" => (k_dflt (refine' notin_range (by k_asm) ?_)))
  (k_with "ite" => (first | (refine ite_neg (by simp; omega) ?_) | (refine ite_pos (by simp; omega) ?_)))
  (k_with "compareOp Eq ref ref" => (k_dflt (refine' eq_bares (by k_asm) (by k_mem) (by exact List.Mem.head _) (by k_mem) (by exact ShIn.mono (Evo.cons (S := [])) (by assumption)) (by exact bares_mono (by assumption) (Evo.then (by assumption))) (by assumption) (by assumption) (by (rw [cLine_is]; dsimp only [Around.deeper]; omega)) (by assumption) ?_)))
  (k_with "call ref" => ((with_reducible show wpAny _ _ (call (Value.ref 581) _ _) _ _ _); k_dflt (refine' Does.on (by k_asm) (by k_asm) (by k_asm) (by k_asm) (by k_asm) (bare_ok (by assumption)) rfl rfl (by (first | (first | exact room1 (by assumption) (by decide) | exact room0 (by assumption) (by decide) | (dsimp only [Around.deeper, Around.under, Around.in1]; omega)) | decide | omega)) (by (first | (first | exact room1 (by assumption) (by decide) | exact room0 (by assumption) (by decide) | (dsimp only [Around.deeper, Around.under, Around.in1]; omega)) | decide | omega)) ?_); rintro _ _ _ _ _ _ ⟨_, _, _, e9, _, _, _⟩; subst e9))
  trivial
theorem due_ok {prog : Program} {w : World} {named told : List Sh} {news : Led} {ps : List (Nat × Bool)} {its tv nv : List Value} {nc nt nn : Nat} {cl lt ln : Addr} {v : Value} {k : Option Int}
    (hcl : (cl, tupO its nc) ∈ news) (hits : All2 LitIs ps its) (hps : ∀ p ∈ ps, p.1 < named.length) (hz : named.length ≤ 100) (hz2 : its.length ≤ 100) (hz3 : told.length ≤ 100) (hv : NoteV news v k)
    (ht : (lt, lstO tv nt) ∈ news) (htv : ShsIn news told tv) (hn : (ln, lstO nv nn) ∈ news) (hnv : ShsIn news named nv) (hd1 : ∀ x ∈ told, x.dp ≤ 50) (hd2 : ∀ x ∈ named, x.dp ≤ 50) :
    Does prog w 591 [.ref lt, .ref ln, .ref cl, v] 10 200 news (fun r news' => (∃ t, r = .str (due named told ps k) t) ∧ Evo [] news news') := by
  have hlt := htv.len.symm
  have hln := hnv.len.symm
  cases k with
  | none =>
    cases hv
    all_goals
      unfold Does
      intro p loose mean mg mb dp un gd env outer A₀ base h₀ L m s R B F X N T hf hke hdp hun hret
      refine' code_defC B F X N T rfl hf hke ?k6 ?k7 ?k8 ?k9 ?kB ?kD ?_ ?c2 ?c3 ?c4
      case k6 => k_dflt k_is
      case k7 => k_dflt k_is
      case k8 => show dp < 1000; omega
      case k9 => exact BindsTo.of_eq rfl
      case kB => exact rfl
      case kD => decide +kernel
      case c2 => exact rfl
      case c3 => exact rfl
      case c4 => exact rfl
      intro g' L' h' tk' cells' FG' F' N' Y' B' X' T' l1
      k_cells Y'
      (try simp only [List.cons_append, List.nil_append] at N')
      (try dsimp only)
      (try k_fold)
      k_steps
      all_goals exact hret _ _ _ _ (by k_asm) (by k_asm) ⟨⟨_, rfl⟩, by ktd_rel⟩
  | some i =>
    cases hv
    rename_i ti
    by_cases hb : 0 ≤ i ∧ i < told.length
    · obtain ⟨y, hy⟩ : ∃ y, told[i.toNat]? = some y := ⟨_, List.getElem?_eq_getElem (by omega)⟩
      rw [goods hb.1 hy]
      obtain ⟨yv, hyv, hys⟩ := htv.to hy
      unfold Does
      intro p loose mean mg mb dp un gd env outer A₀ base h₀ L m s R B F X N T hf hke hdp hun hret
      refine' code_defC B F X N T rfl hf hke ?k6 ?k7 ?k8 ?k9 ?kB ?kD ?_ ?c2 ?c3 ?c4
      case k6 => k_dflt k_is
      case k7 => k_dflt k_is
      case k8 => show dp < 1000; omega
      case k9 => exact BindsTo.of_eq rfl
      case kB => exact rfl
      case kD => decide +kernel
      case c2 => exact rfl
      case c3 => exact rfl
      case c4 => exact rfl
      intro g' L' h' tk' cells' FG' F' N' Y' B' X' T' l1
      k_cells Y'
      (try simp only [List.cons_append, List.nil_append] at N')
      (try dsimp only)
      (try k_fold)
      k_steps
      rename_i c1 o1 N0 t9 tk9 hR tkR t1 u1 v1 hRg F5 N5 kp
      refine ⟨_, [], its.length, fun i v => its[i]? = some v, fun i ys Y => All2 (BareIs Y) ((ps.take i).map (bareOf named)) ys, iters_tup rfl N5 (by k_mem), F5, N5, Nat.le_trans hz2 (by decide), (fun _ h => nomatch h), .nil, (fun _ _ _ _ _ _ e h => h.mapR fun _ _ r => r.mono e), ?_, ?_⟩
      · intro g i' v ys Y C oC m₂ h tk E' hi hP hJ hE mC hoC hx F N
        obtain ⟨p, hp, tkv, rfl⟩ := hits.at hP
        have hpl := hps p (List.mem_of_getElem? hp)
        have hx' := List.getElem?_eq_getElem hpl
        generalize hX : named[p.1] = x at hx'
        obtain ⟨u, hu, hus⟩ := hnv.to hx'
        have hu' : nv[((if litOf p < 0 then -litOf p else litOf p) - 1).toNat]? = some u := by rw [litOf_abs]; rw [show ((p.1 : Int) + 1 - 1).toNat = p.1 by omega]; exact hu
        have h0 : 0 ≤ (if litOf p < 0 then -litOf p else litOf p) - 1 := by rw [litOf_abs]; omega
        have h1 : (if litOf p < 0 then -litOf p else litOf p) - 1 < 1000000 := by rw [litOf_abs]; omega
        have hE0 : Evo [] news Y := Evo.trans (Evo.then Evo.refl) hE
        have mc : (L' + 1, c1) ∈ Y := hE _ (List.Mem.head _) fun z => nomatch z
        have hus' := hus.mono hE0
        try k_fold
        k_steps
        · k_asm
        · k_asm
        · assumption
        · exact bare_next hp hx' (bares_mono hJ (by assumption)) (by assumption) (by assumption)
      · intro D h tk ys Y hJ hE N mD F
        have hE0 : Evo [] news Y := Evo.trans (Evo.then Evo.refl) hE
        have hJ : All2 (BareIs Y) (ps.map (bareOf named)) ys := by
          have := hJ
          rwa [← hits.len, List.take_length] at this
        have hys' := hys.mono hE0
        have hdy := Nat.le_trans (Sh.dp_bare y) (hd1 y (List.mem_of_getElem? hy))
        have hdq := bares_dp (ps := ps) hd2
        obtain ⟨q, hq⟩ : ∃ q, agree named ps y = q := ⟨_, rfl⟩
        have hag := (due_eqv hps y).trans hq
        rw [hq] at hret
        cases q
        all_goals
          try k_fold
          k_steps
          exact hret _ _ _ _ (by k_asm) (by k_asm) ⟨⟨_, rfl⟩, by ktd_rel⟩
    · rw [bads hb]
      unfold Does
      intro p loose mean mg mb dp un gd env outer A₀ base h₀ L m s R B F X N T hf hke hdp hun hret
      refine' code_defC B F X N T rfl hf hke ?k6 ?k7 ?k8 ?k9 ?kB ?kD ?_ ?c2 ?c3 ?c4
      case k6 => k_dflt k_is
      case k7 => k_dflt k_is
      case k8 => show dp < 1000; omega
      case k9 => exact BindsTo.of_eq rfl
      case kB => exact rfl
      case kD => decide +kernel
      case c2 => exact rfl
      case c3 => exact rfl
      case c4 => exact rfl
      intro g' L' h' tk' cells' FG' F' N' Y' B' X' T' l1
      k_cells Y'
      (try simp only [List.cons_append, List.nil_append] at N')
      (try dsimp only)
      (try k_fold)
      k_steps
      all_goals exact hret _ _ _ _ (by k_asm) (by k_asm) ⟨⟨_, rfl⟩, by ktd_rel⟩
end
section
-- nofill
section
open PyProof.Rows.LCg
variable {prog : Program} {w : World} {A : Around} {E : Value → Shared → Prop} {s : Shared} {h₀ : Heap} {env : Env}
/-- the end of a turn of a loop whose target is stored by hand -/
def TurnT' (h₀ : Heap) (L : Addr) (s₁ : Shared) (S : List Addr) (Y : Led) (Jn : (Str → Option Value) → Led → Prop) (f : Flow) (s' : Shared) : Prop :=
  f = .next ∧ ∃ h' tk' m' Y', s' = { s₁ with heap := h', toks := tk' } ∧ Fr h₀ L h' m' ∧ News h₀ L h' Y' ∧ Evo S Y Y' ∧ Jn m' Y'
theorem TurnT'.intro {L : Addr} {s₁ : Shared} {S : List Addr} {Y Y' : Led} {Jn : (Str → Option Value) → Led → Prop} {h' : Heap} {tk' : Nat} {m' : Str → Option Value} (F : Fr h₀ L h' m') (N : News h₀ L h' Y') (e : Evo S Y Y') (hJ : Jn m' Y') :
    TurnT' h₀ L s₁ S Y Jn .next { s₁ with heap := h', toks := tk' } := ⟨rfl, h', tk', m', Y', rfl, F, N, e, hJ⟩
def ForTurnT (prog : Program) (w : World) (A : Around) (h₀ : Heap) (env : Env) (target : Expr) (body : List Stmt) (S : List Addr) (X₀ : Led) (n : Nat) (P : Nat → Value → Prop) (J : Nat → (Str → Option Value) → Led → Prop) (E : Value → Shared → Prop) : Prop :=
  ∀ i v m₁ Y s₁, i < n → P i v → J i m₁ Y → Evo S X₀ Y → Fr h₀ env.locals s₁.heap m₁ → News h₀ env.locals s₁.heap Y →
    wpAny (model prog w) A (assign target env v) (fun _ s₃ => wpAny (model prog w) A (execs body env) (TurnT' h₀ env.locals s₁ S Y (J (i + 1))) E s₃) E s₁
def ForJT (prog : Program) (w : World) (A : Around) (h₀ : Heap) (env : Env) (target : Expr) (body : List Stmt) (Q : Flow → Shared → Prop) (E : Value → Shared → Prop) (xv : Value) (s₁ : Shared) : Prop :=
  ∃ X₀ S n P m₀ J, Iters prog w A h₀ env.locals xv s₁ S X₀ n P ∧ Fr h₀ env.locals s₁.heap m₀ ∧ News h₀ env.locals s₁.heap X₀ ∧ (∀ a ∈ S, ∃ o, (a, o) ∈ X₀) ∧ J 0 m₀ X₀ ∧ HoldsF X₀ J ∧
    ForTurnT prog w A h₀ env target body S X₀ n P J E ∧ ∀ h tk m' Y, J n m' Y → Evo S X₀ Y → Fr h₀ env.locals h m' → News h₀ env.locals h Y → Q .next { s₁ with heap := h, toks := tk }
theorem for_ledT {x : Str} {px pos : Pos} {iter : Expr} {body : List Stmt} {Q : Flow → Shared → Prop} {m : Str → Option Value} (_F₀ : Fr h₀ env.locals s.heap m)
    (h : wpAny (model prog w) A (eval iter env) (ForJT prog w A h₀ env (.Name x px) body Q E) E s)
    (hs : ∀ x, foldedSetIterable iter env x = pure x := by intro _; rfl)
    (hE : PassesOwn (model prog w) A env E := by passes_own) :
    wpAny (model prog w) A (exec (.For (.Name x px) iter body [] pos) env) Q E s := by
  refine For_invT h₀ (wpAny_mono h (fun xv s₁ h₁ => ?_) fun _ _ e => e) hs hE
  obtain ⟨X₀, S, n, P, m₀, J, hI, F, N, hS, hJ0, hmono, turn, fin⟩ := h₁
  refine hI _ _ fun I fp St h₂ W hIo hSt hst hfp up hIe hfo => ?_
  have offX : ∀ p ∈ X₀, p.1 ≠ I := fun p hp e => Nat.lt_irrefl I (by have := Heap.lt_size (N p hp).1; rw [← hIe, e] at this; exact this)
  have hIL : env.locals ≠ I := hIe ▸ Nat.ne_of_lt F.ns.lt
  have hI₀ : h₀.get? I = none := hIe ▸ next_is_new F
  have hIS : I ∉ S := fun z => let ⟨o, ho⟩ := hS I z; offX _ ho rfl
  refine ⟨I, fp, [I], n, P, St, m₀, X₀, fun i m Y => J i m Y ∧ Evo S X₀ Y, rfl, W, fun z => ?_, fun b hb => by rw [List.mem_singleton.mp hb]; exact hI₀, fun p hp z => offX p hp (List.mem_singleton.mp z), hst, F.keeps up, N.grown up, fun i s' v Q' _ hq => wpAny_pure hq, ⟨hJ0, Evo.refl⟩, ?_, ?_⟩
  · rcases hfo _ z with e | ⟨o, ho, _⟩
    · exact hIL e
    · exact (N _ ho).2.1 rfl
  · rintro i v m₁ Y s₂ own hi hP ⟨hJ, hE'⟩ hoff hown hget hall hst' F' N'
    have eR : Evo [] Y (own ++ Y) := fun p hp _ => List.mem_append.mpr (.inr hp)
    refine wpAny_mono (turn i v m₁ (own ++ Y) s₂ hi hP (hmono _ _ _ _ [] (fun _ _ z => nomatch z) eR hJ) (hE'.trans (Evo.nil eR)) F' N') (fun _ s₃ h₃ => wpAny_mono h₃ (fun f s' hf => ?_) fun _ _ e => e) fun _ _ e => e
    obtain ⟨rfl, h', tk', m', Y', rfl, F₃, N₃, E₃, hJ₃⟩ := hf
    have keepOwn : ∀ p ∈ own, p ∈ Y' := by
      rintro ⟨b, oo⟩ hp
      rcases hfo _ (hown _ hp) with e | ⟨o, ho, hT⟩
      · exact E₃ _ (List.mem_append.mpr (.inl hp)) fun z => absurd (e ▸ z) hIS
      · have hY := hE' _ ho hT
        obtain rfl : oo = o := News.same N' (List.mem_append.mpr (.inl hp)) (List.mem_append.mpr (.inr hY))
        exact E₃ _ (List.mem_append.mpr (.inl hp)) hT
    obtain ⟨oI, hoI, hTI⟩ := hIo _ _ hst'
    have mI := keepOwn _ (hall I (W.sub I (List.mem_singleton.mpr rfl)) hI₀ oI hoI)
    have eF : Evo [I] Y' (Y'.filter fun p => p.1 ≠ I) := fun p hp q => List.mem_filter.mpr ⟨hp, decide_eq_true fun e => by
      obtain ⟨b, ob⟩ := p
      obtain rfl : b = I := e
      exact hTI (News.same N₃ hp mI ▸ q (List.mem_singleton.mpr rfl))⟩
    exact ⟨rfl, h', tk', m', Y'.filter fun p => p.1 ≠ I, rfl, F₃, fun p hp => (List.mem_append.mp hp).elim (fun z => N₃ p (keepOwn p z)) fun z => N₃ p (List.mem_filter.mp z).1,
      fun p hp z => (of_decide_eq_true (List.mem_filter.mp hp).2) (List.mem_singleton.mp z), hmono _ _ _ _ [I] (fun p hp z => offX p hp (List.mem_singleton.mp z)) eF hJ₃,
      fun p hp q => eF p ((hE'.trans (Evo.nil eR)).trans E₃ p hp q) fun z => absurd (List.mem_singleton.mp z) (offX p hp)⟩
  · rintro h' tk m' Y F' N' _ ⟨hJ, hE'⟩
    exact fin h' tk m' Y hJ hE' F' N'
/-- a cell is stored -/
theorem cell_set {x : Str} {px : Pos} {v : Value} {L c : Addr} {o : Obj} {v₀ : Option Value} {m : Str → Option Value} {Y : Led} {Q : Unit → Shared → Prop} (F : Fr h₀ L s.heap m) (N : News h₀ L s.heap Y) (hm : (c, o) ∈ Y) (hd : o.data = .cell v₀)
    (hk : env.scope.kind = .function) (hl : env.kindOf x = some .cell) (hc : env.cells.lookup x = some c)
    (h : ∀ h' o', Fr h₀ L h' m → News h₀ L h' (upd Y c o') → o'.data = .cell (some v) → Evo [c] Y (upd Y c o') → (c, o') ∈ upd Y c o' → Q () { s with heap := h' }) : wpAny (model prog w) A (assign (.Name x px) env v) Q E s := by
  have hmem := N (c, o) hm
  refine wpAny_assign_Name (wpAny_storeName_cell hk hl hc ⟨o, hmem.1, hd⟩ fun h' hv hs => ?_)
  obtain ⟨o', ho', hd'⟩ := hv
  exact h h' o' (F.change hs hmem.2.1 hmem.2.2) (News.replace N hs ho') hd' (Evo.upd N hm (fun ⟨_, _, e, _⟩ => by rw [hd] at e; cases e)) (mem_upd_self hm)
theorem iters_upto {L : Addr} {r : Addr} {b : Int} {t u v : Tok} {n : Nat} {S : List Addr} {X₀ : Led} (hh : A.handled = none) (hr : IsRange s.heap r 0 b 1 t u v) (hb : b = (n : Int)) (hn : n ≤ 100000) :
    Iters prog w A h₀ L (.ref r) s S X₀ n (fun i v => ∃ t, v = .int (i : Int) t) := by
  subst hb
  have h1 : Builtin.Range.rangeSize 0 (n : Int) 1 = ((n : Nat) : Int) := by
    unfold Builtin.Range.rangeSize
    rw [if_pos (by decide)]
    split <;> omega
  have hsm : Builtin.Range.small 0 (n : Int) 1 = true := by
    have key : ∀ i : Int, 0 ≤ i → i ≤ 1000000 → Builtin.Range.rangeFitsLong i = true := fun i h1 h2 => by
      unfold Builtin.Range.rangeFitsLong
      rw [Bool.and_eq_true]
      exact ⟨decide_eq_true (by omega), decide_eq_true (by omega)⟩
    unfold Builtin.Range.small
    rw [h1, key 0 (by omega) (by omega), key (n : Int) (by omega) (by omega), key 1 (by omega) (by omega), if_pos (by decide), key ((n : Int) + (1 - 1)) (by omega) (by omega)]
    simp
  have h := iters_range (prog := prog) (w := w) (A := A) (h₀ := h₀) (L := L) (S := S) (X₀ := X₀) hh hr hsm h1
  simpa only [Int.zero_add] using h
end
end
section
theorem agree_true {named : List Sh} {ps : List (Nat × Bool)} {y : Sh} (h : agree named ps y = true) : ∃ p x, ps = [p] ∧ named[p.1]? = some x ∧ ∀ c : Nat → Bool, y.ev c = true → (x.ev c == decide (0 < litOf p)) = true := by
  match ps with
  | [] => simp [agree] at h
  | _ :: _ :: _ => simp [agree] at h
  | [p] =>
    cases hx : named[p.1]? with
    | none => simp [agree, hx] at h
    | some x =>
      refine ⟨p, x, rfl, hx, fun c hy => ?_⟩
      simp only [agree, hx, Bool.and_eq_true, sgn_xor] at h
      obtain ⟨h1, h2⟩ := h
      have h1 := of_decide_eq_true h1
      rw [lit_pos, Sh.ev_bare c x, h1]
      rw [Sh.ev_bare c y] at hy
      revert hy h2
      cases p.2 <;> cases x.par <;> cases y.par <;> cases y.bare.ev c <;> decide
example : True := by
  k_with_none
  (k_with "k_ne" => (refine neN ?_; (try dsimp only); first | exact Nat.ne_of_gt (by with_reducible assumption) | exact Nat.ne_of_lt (by with_reducible assumption) | exact Nat.ne_of_gt (And.left (by with_reducible assumption)) | exact Nat.ne_of_lt (And.left (by with_reducible assumption)) | exact Nat.ne_of_gt (And.left (And.right (by with_reducible assumption))) | exact Nat.ne_of_lt (And.left (And.right (by with_reducible assumption))) | exact Nat.ne_of_gt (And.left (And.right (And.right (by with_reducible assumption)))) | exact Nat.ne_of_lt (And.left (And.right (And.right (by with_reducible assumption)))) | exact Nat.ne_of_gt (And.left (And.right (And.right (And.right (by with_reducible assumption))))) | exact Nat.ne_of_lt (And.left (And.right (And.right (And.right (by with_reducible assumption))))) | exact Nat.ne_of_gt (And.left (And.right (And.right (And.right (And.right (by with_reducible assumption)))))) | exact Nat.ne_of_gt (And.left (And.right (And.right (And.right (And.right (And.right (by with_reducible assumption))))))) | exact Nat.ne_of_gt (And.left (And.right (And.right (And.right (And.right (And.right (And.right (by with_reducible assumption)))))))) | exact Nat.ne_of_gt (And.left (And.right (And.right (And.right (And.right (And.right (And.right (And.right (by with_reducible assumption))))))))) | exact Nat.ne_of_gt (And.left (And.right (And.right (And.right (And.right (And.right (And.right (And.right (And.right (by with_reducible assumption)))))))))) | exact Nat.ne_of_gt (And.left (And.right (And.right (And.right (And.right (And.right (And.right (And.right (And.right (And.right (by with_reducible assumption))))))))))) | exact Nat.ne_of_gt (And.left (And.right (And.right (And.right (And.right (And.right (And.right (And.right (And.right (And.right (And.right (by with_reducible assumption)))))))))))) | exact Nat.ne_of_gt (And.left (And.right (And.right (And.right (And.right (And.right (And.right (And.right (And.right (And.right (And.right (And.right (by with_reducible assumption))))))))))))) | exact Nat.ne_of_gt (And.left (And.right (And.right (And.right (And.right (And.right (And.right (And.right (And.right (And.right (And.right (And.right (And.right (by with_reducible assumption))))))))))))))))
  (k_with "k_mem" => first | assumption | exact List.Mem.head _ | exact List.Mem.tail _ (by k_mem) | exact Evo.mem (by assumption) (by k_mem))
  (k_with "k_get" => assumption)
  (k_with "ktd_rel" => first | exact Evo.refl | assumption | (refine Evo.then ?_; ktd_rel) | (refine Evo.trans ?_ (by assumption); ktd_rel))
  (k_with "subscriptTail" => ((with_reducible show wpAny _ _ (subscriptTail _ _ (Value.ref _) (Value.int _ _)) _ _ _); k_dflt (refine' item_at (by k_asm) (by k_mem) (by first | assumption | omega) (by first | assumption | omega) (by assumption) ?_)))
  (k_with "exec Assign cons ListComp" => (k_dflt (refine comp_assign (by k_asm) (by rfl) (by with_unfolding_all rfl) (by with_unfolding_all rfl) (by decide) (by rfl) (by decide) (by rfl) (by rfl) (by rfl) ?_)))
  (k_with "eval Name" => (k_dflt (refine' nameX_L (by k_asm) (by assumption) ?_ (by rfl) (by rfl) (by decide); k_whole)))
  (k_with "compareOp NotIn" => (k_dflt (refine' notin_bools (by k_asm) (by k_mem) ?_)))
  (k_with "ite" => (first | (refine ite_neg (by rw [‹Sh.ev _ _ = false›]; decide) ?_) | (refine ite_pos ‹Sh.ev _ _ = true› ?_) | (refine ite_neg (by rw [‹(!List.any _ _) = false›]; decide) ?_)))
  (k_with "call ref" => ((with_reducible show wpAny _ _ (call (Value.ref 586) _ _) _ _ _); k_dflt (refine' Does.on (by k_asm) (by k_asm) (by k_asm) (by k_asm) (by k_asm) (truth_ok _ _ _ _ (by assumption)) rfl rfl (by (first | (first | exact room1 (by assumption) (by decide) | exact room0 (by assumption) (by decide) | (dsimp only [Around.deeper, Around.under, Around.in1]; omega)) | decide | omega)) (by (first | (first | exact room1 (by assumption) (by decide) | exact room0 (by assumption) (by decide) | (dsimp only [Around.deeper, Around.under, Around.in1]; omega)) | decide | omega)) ?_); rintro _ _ _ _ _ _ ⟨e9, _⟩; subst e9))
  (k_with "exec For Name Call cons nil" => (k_dflt (refine for_ledT (by k_asm) ?_)))
  trivial
theorem is_true_ok {prog : Program} {w : World} {named told : List Sh} {news : Led} {pq : Nat × Bool} {tv nv : List Value} {nc nt nn : Nat} {cl lt ln : Addr} {tp ti : Tok} {i : Int} {x y : Sh}
    (hcl : (cl, tupO [.int (litOf pq) tp] nc) ∈ news) (ht : (lt, lstO tv nt) ∈ news) (htv : ShsIn news told tv) (hn : (ln, lstO nv nn) ∈ news) (hnv : ShsIn news named nv) (hz : named.length ≤ 100) (hz3 : told.length ≤ 100) (h0 : 0 ≤ i) (hy : told[i.toNat]? = some y) (hx : named[pq.1]? = some x) (hag : ∀ c : Nat → Bool, y.ev c = true → (x.ev c == decide (0 < litOf pq)) = true)
    (hd1 : ∀ x ∈ told, x.dp ≤ 50) (hd2 : ∀ x ∈ named, x.dp ≤ 50) :
    Does prog w 596 [.ref lt, .ref ln, .ref cl, .int i ti] 110 1200 news (fun r news' => r = .bool true ∧ Evo [] news news') := by
  have hlt := htv.len.symm
  have hln := hnv.len.symm
  obtain ⟨yv, hyv, hys⟩ := htv.to hy
  obtain ⟨u, hu, hus⟩ := hnv.to hx
  have hi2 : i < told.length := by have := (List.getElem?_eq_some_iff.mp hy).1; omega
  have hp2 := (List.getElem?_eq_some_iff.mp hx).1
  have hdx := hd2 x (List.mem_of_getElem? hx)
  have hdy := hd1 y (List.mem_of_getElem? hy)
  have hu' : nv[((if litOf pq < 0 then -litOf pq else litOf pq) - 1).toNat]? = some u := by rw [litOf_abs]; rw [show ((pq.1 : Int) + 1 - 1).toNat = pq.1 by omega]; exact hu
  have q0 : 0 ≤ (if litOf pq < 0 then -litOf pq else litOf pq) - 1 := by rw [litOf_abs]; omega
  have q1 : (if litOf pq < 0 then -litOf pq else litOf pq) - 1 < 1000000 := by rw [litOf_abs]; omega
  unfold Does
  intro p loose mean mg mb dp un gd env outer A₀ base h₀ L m s R B F X N T hf hke hdp hun hret
  refine' code_defC B F X N T rfl hf hke ?k6 ?k7 ?k8 ?k9 ?kB ?kD ?_ ?c2 ?c3 ?c4
  case k6 => k_dflt k_is
  case k7 => k_dflt k_is
  case k8 => show dp < 1000; omega
  case k9 => exact BindsTo.of_eq rfl
  case kB => exact rfl
  case kD => decide +kernel
  case c2 => exact rfl
  case c3 => exact rfl
  case c4 => exact rfl
  intro g' L' h' tk' cells' FG' F' N' Y' B' X' T' l1
  k_cells Y'
  (try simp only [List.cons_append, List.nil_append] at N')
  (try dsimp only)
  (try k_fold)
  k_steps
  rename_i oW oN hW hN' N1 hR tkR t1 u1 v1 hRg F5 N5 kp
  refine ⟨_, [L' + 1 + 1], 8, _, _, fun _ m Y => (∃ o v, (L' + 1 + 1, o) ∈ Y ∧ o.data = Data.cell v) ∧ m (Str.ofString "told") = some (.ref lt) ∧ m (Str.ofString "clause") = some (.ref cl) ∧ m (Str.ofString "note") = some (.int i ti),
    iters_upto rfl hRg rfl (by decide), F5, N5, (fun a ha => ⟨oW, List.mem_singleton.mp ha ▸ List.Mem.head _⟩), ⟨⟨oW, _, List.Mem.head _, hW⟩, rfl, rfl, rfl⟩, ?_, ?_, ?_⟩
  · rintro i m Y Y' S₃ hoff hE ⟨⟨o, v, hm, hd⟩, r⟩
    exact ⟨⟨o, v, hE _ hm fun z => absurd z (hoff (L' + 1 + 1, oW) (List.Mem.head _)), hd⟩, r⟩
  · intro k v m₁ Y s₁ hi hP hJ hE F N
    obtain ⟨tw, rfl⟩ := hP
    obtain ⟨⟨o, v0, hm, hd⟩, m1, m2, m3⟩ := hJ
    obtain ⟨hp, gs, dr, tk, os⟩ := s₁
    refine cell_set F N hm hd rfl rfl rfl fun h' o' F1 N1 hd' hE1 hm' => ?_
    have hne : ∀ q ∈ news, q.1 ∉ [L' + 1 + 1] := fun q hq z => by have := l1 q hq; have e := List.mem_singleton.mp z; rw [e] at this; exact absurd this (Nat.not_lt.mpr (Nat.le_add_right _ 2))
    have hE0 : Evo [] news (upd Y (L' + 1 + 1) o') := fun q hq _ => hE1 q (hE q (List.Mem.tail _ (List.Mem.tail _ hq)) fun z => absurd z (hne q hq)) fun z => absurd z (hne q hq)
    have hnn : L' + 1 ∉ [L' + 1 + 1] := fun z => absurd (List.mem_singleton.mp z) (Nat.ne_of_lt (Nat.lt_succ_self _))
    have mcN : (L' + 1, oN) ∈ upd Y (L' + 1 + 1) o' := hE1 _ (hE _ (List.Mem.tail _ (List.Mem.head _)) fun z => absurd z hnn) fun z => absurd z hnn
    have hus1 := hus.mono hE0
    have hys1 := hys.mono hE0
    try k_fold
    k_steps
    refine ⟨_, [], 1, fun i v => [Value.int (litOf pq) tp][i]? = some v, fun i ys _ => ys = (([x.ev (cbit k) == decide (0 < litOf pq)] : List Bool).take i).map Value.bool, iters_tup rfl N1 (Evo.mem hE0 hcl), F1, N1, by decide, (fun _ h => nomatch h), rfl, (fun _ _ _ _ _ _ _ h => h), ?_, ?_⟩
    · intro g i' v ys Y2 C oC m₂ h tk E' hi hP hJ hE2 mC hoC hx2 F N
      obtain rfl : i' = 0 := by omega
      obtain rfl : v = .int (litOf pq) tp := (Option.some.inj hP).symm
      have hJ : ys = [] := hJ
      subst hJ
      have mcN2 := hE2 _ mcN fun z => nomatch z
      have hm2 := hE2 _ hm' fun z => nomatch z
      have hus2 := hus1.mono hE2
      have hE3 : Evo [] news Y2 := hE0.trans hE2
      try k_fold
      k_steps
      · k_asm
      · k_asm
      · assumption
    · intro D h tk ys Y2 hJ hE2 N mD F
      have hJ : ys = ([x.ev (cbit k) == decide (0 < litOf pq)] : List Bool).map Value.bool := hJ
      subst hJ
      have mcN2 := hE2 _ mcN fun z => nomatch z
      have hm2 := hE2 _ hm' fun z => nomatch z
      have hys2 := hys1.mono hE2
      have hE3 : Evo [] news Y2 := hE0.trans hE2
      have mD : (D, lstO (([x.ev (cbit k) == decide (0 < litOf pq)] : List Bool).map Value.bool) 1) ∈ Y2 := mD
      have fin : ∀ {Y' : Led}, Evo [] Y2 Y' → Evo [L' + 1 + 1] Y Y' := fun e => (hE1.trans (Evo.nil hE2)).trans (Evo.nil e)
      obtain ⟨q, hq⟩ : ∃ q, y.ev (cbit k) = q := ⟨_, rfl⟩
      cases q
      · try k_fold
        k_steps
        rename_i n9 h9 tk9 F9 N9 hE9
        exact TurnT'.intro F9 N9 (fin hE9) ⟨⟨_, _, Evo.mem hE9 hm2, hd'⟩, m1, m2, m3⟩
      · have hr : (!(List.any [x.ev (cbit k) == decide (0 < litOf pq)] (· == true))) = false := by simp [hag _ hq]
        try k_fold
        k_steps
        rename_i n9 h9 tk9 F9 N9 hE9
        exact TurnT'.intro F9 N9 (fin hE9) ⟨⟨_, _, Evo.mem hE9 hm2, hd'⟩, m1, m2, m3⟩
  · rintro h tk m' Y ⟨⟨o, v0, hm, hd⟩, m1, m2, m3⟩ hE F N
    have hE0 : Evo [] news Y := fun q hq _ => hE q (List.Mem.tail _ (List.Mem.tail _ hq)) fun z => by have := l1 q hq; have e := List.mem_singleton.mp z; rw [e] at this; exact absurd this (Nat.not_lt.mpr (Nat.le_add_right _ 2))
    try k_fold
    k_steps
    exact hret _ _ _ _ (by k_asm) (by k_asm) ⟨rfl, hE0⟩
end
section
theorem cell_store {prog : Program} {w : World} {A : Around} {E : Value → Shared → Prop} {s : Shared} {h₀ : Heap} {env : Env} {x : Str} {v : Value} {L c : Addr} {o : Obj} {v₀ : Option Value} {m : Str → Option Value} {Y : Led} {Q : Unit → Shared → Prop} (F : Fr h₀ L s.heap m) (N : News h₀ L s.heap Y) (hm : (c, o) ∈ Y) (hd : o.data = .cell v₀)
    (hk : env.scope.kind = .function) (hl : env.kindOf x = some .cell) (hc : env.cells.lookup x = some c)
    (h : ∀ h' o', Fr h₀ L h' m → News h₀ L h' (upd Y c o') → o'.data = .cell (some v) → Evo [c] Y (upd Y c o') → (c, o') ∈ upd Y c o' → Q () { s with heap := h' }) : wpAny (model prog w) A (storeName env x v) Q E s := by
  have hmem := N (c, o) hm
  refine wpAny_storeName_cell hk hl hc ⟨o, hmem.1, hd⟩ fun h' hv hs => ?_
  obtain ⟨o', ho', hd'⟩ := hv
  exact h h' o' (F.change hs hmem.2.1 hmem.2.2) (News.replace N hs ho') hd' (Evo.upd N hm (fun ⟨_, _, e, _⟩ => by rw [hd] at e; cases e)) (mem_upd_self hm)
theorem due_ok_str {named told : List Sh} {ps : List (Nat × Bool)} {k : Option Int} : PyData.strOk (due named told ps k) = true := by
  have s1 : PyData.strOk (Str.ofString "note") = true := by decide +kernel
  have s2 : PyData.strOk (Str.ofString "") = true := by decide +kernel
  have s3 : PyData.strOk (Str.ofString "input") = true := by decide +kernel
  unfold due
  cases k with
  | none => exact s1
  | some n =>
    dsimp only
    split
    · split
      · exact s1
      · split
        · exact s2
        · exact s3
    · exact s1
theorem due_empty {named told : List Sh} {ps : List (Nat × Bool)} {k : Option Int} (h : due named told ps k = Str.ofString "") : ∃ i y, k = some i ∧ 0 ≤ i ∧ told[i.toNat]? = some y ∧ agree named ps y = true := by
  unfold due at h
  cases k with
  | none => exact (s_inj h (by decide)).elim
  | some n =>
    dsimp only at h
    split at h
    · rename_i h0
      split at h
      · exact (s_inj h (by decide)).elim
      · rename_i y hy
        split at h
        · rename_i ha
          exact ⟨n, y, rfl, h0, hy, ha⟩
        · exact (s_inj h (by decide)).elim
    · exact (s_inj h (by decide)).elim
theorem up5 {h₀ h : Heap} {L : Addr} {a b c d e q : Addr × Obj} {Z : Led} (_ : News h₀ L h (a :: b :: c :: d :: e :: Z)) (hq : q ∈ Z) : q ∈ a :: b :: c :: d :: e :: Z := .tail _ (.tail _ (.tail _ (.tail _ (.tail _ hq))))
theorem ne_two {prog : Program} {w : World} {A : Around} {E : Value → Shared → Prop} {s : Shared} {h₀ : Heap} {L D D2 : Addr} {Y : Led} {a b : Str} {t1 t2 t3 t4 : Tok} {n n2 : Nat} {Q : Value → Shared → Prop}
    (N : News h₀ L s.heap Y) (hm : (D, lstO [.str a t1, .str b t2] n) ∈ Y) (hm2 : (D2, lstO [.str a t3, .str b t4] n2) ∈ Y) (ha : PyData.strOk a = true) (hb : PyData.strOk b = true) (hu : A.units + 64 < cLine) (h : Q (.bool false) s) :
    wpAny (model prog w) A (compareOp .NotEq (.ref D) (.ref D2)) Q E s := by
  have lay : SeqAt.shaped (.list [.str a, .str b]) = true := by simp [SeqAt.shaped, PyData.canLay0, PyData.canLayAll0, PyData.depth, PyData.depthAll, ha, hb]
  refine ne_dataH (da := .list [.str a, .str b]) (db := .list [.str a, .str b]) (lst_reads N hm (ReadsAll.cons (Reads.str _ _) (ReadsAll.cons (Reads.str _ _) ReadsAll.nil))) (lst_reads N hm2 (ReadsAll.cons (Reads.str _ _) (ReadsAll.cons (Reads.str _ _) ReadsAll.nil))) lay lay hu ?_
  rw [SeqAt.eqv_refl _ (SeqAt.canLay_of_shaped lay)]
  exact h
example : True := by
  k_with_none
  (k_with "k_ne" => (refine neN ?_; (try dsimp only); first | exact Nat.ne_of_gt (by with_reducible assumption) | exact Nat.ne_of_lt (by with_reducible assumption) | exact Nat.ne_of_gt (And.left (by with_reducible assumption)) | exact Nat.ne_of_lt (And.left (by with_reducible assumption)) | exact Nat.ne_of_gt (And.left (And.right (by with_reducible assumption))) | exact Nat.ne_of_lt (And.left (And.right (by with_reducible assumption))) | exact Nat.ne_of_gt (And.left (And.right (And.right (by with_reducible assumption)))) | exact Nat.ne_of_lt (And.left (And.right (And.right (by with_reducible assumption)))) | exact Nat.ne_of_gt (And.left (And.right (And.right (And.right (by with_reducible assumption))))) | exact Nat.ne_of_lt (And.left (And.right (And.right (And.right (by with_reducible assumption))))) | exact Nat.ne_of_gt (And.left (And.right (And.right (And.right (And.right (by with_reducible assumption)))))) | exact Nat.ne_of_gt (And.left (And.right (And.right (And.right (And.right (And.right (by with_reducible assumption))))))) | exact Nat.ne_of_gt (And.left (And.right (And.right (And.right (And.right (And.right (And.right (by with_reducible assumption)))))))) | exact Nat.ne_of_gt (And.left (And.right (And.right (And.right (And.right (And.right (And.right (And.right (by with_reducible assumption))))))))) | exact Nat.ne_of_gt (And.left (And.right (And.right (And.right (And.right (And.right (And.right (And.right (And.right (by with_reducible assumption)))))))))) | exact Nat.ne_of_gt (And.left (And.right (And.right (And.right (And.right (And.right (And.right (And.right (And.right (And.right (by with_reducible assumption))))))))))) | exact Nat.ne_of_gt (And.left (And.right (And.right (And.right (And.right (And.right (And.right (And.right (And.right (And.right (And.right (by with_reducible assumption)))))))))))) | exact Nat.ne_of_gt (And.left (And.right (And.right (And.right (And.right (And.right (And.right (And.right (And.right (And.right (And.right (And.right (by with_reducible assumption))))))))))))) | exact Nat.ne_of_gt (And.left (And.right (And.right (And.right (And.right (And.right (And.right (And.right (And.right (And.right (And.right (And.right (And.right (by with_reducible assumption))))))))))))))))
  (k_with "k_mem" => first | assumption | exact List.Mem.head _ | exact List.Mem.tail _ (by k_mem) | exact Evo.mem (by assumption) (by k_mem))
  (k_with "k_get" => assumption)
  (k_with "ktd_rel" => first | exact Evo.refl | assumption | (refine Evo.then ?_; ktd_rel) | (refine Evo.trans ?_ (by assumption); ktd_rel))
  (k_with "call ref" => ((with_reducible show wpAny _ _ (call (Value.ref 591) _ _) _ _ _); k_dflt (refine' Does.on (by k_asm) (by k_asm) (by k_asm) (by k_asm) (by k_asm) (due_ok (by k_mem) (by assumption) (by assumption) (by assumption) (by assumption) (by assumption) (by exact NoteV.mono (by assumption) (by ktd_rel)) (by k_mem) (by exact ShsIn.mono (S := []) (by assumption) (by ktd_rel)) (by k_mem) (by exact ShsIn.mono (S := []) (by assumption) (by ktd_rel)) (by assumption) (by assumption)) rfl rfl (by (first | (first | exact room1 (by assumption) (by decide) | exact room0 (by assumption) (by decide) | (dsimp only [Around.deeper, Around.under, Around.in1]; omega)) | decide | omega)) (by (first | (first | exact room1 (by assumption) (by decide) | exact room0 (by assumption) (by decide) | (dsimp only [Around.deeper, Around.under, Around.in1]; omega)) | decide | omega)) ?_); rintro _ _ _ _ _ _ ⟨⟨_, e9⟩, _⟩; subst e9))
  (k_with "call ref" => ((with_reducible show wpAny _ _ (call (Value.ref 505) _ _) _ _ _); k_dflt (refine' Does.on (by k_asm) (by k_asm) (by k_asm) (by k_asm) (by k_asm) (clause_ok (by exact Chk.mono (by assumption) (by ktd_rel)) (by k_mem) (by assumption) (by assumption) (by assumption) (by assumption)) rfl rfl (by (first | (first | exact room1 (by assumption) (by decide) | exact room0 (by assumption) (by decide) | (dsimp only [Around.deeper, Around.under, Around.in1]; omega)) | decide | omega)) (by (first | (first | exact room1 (by assumption) (by decide) | exact room0 (by assumption) (by decide) | (dsimp only [Around.deeper, Around.under, Around.in1]; omega)) | decide | omega)) ?_); rintro _ _ _ _ _ _ ⟨_, _, e9, _, _, _⟩; subst e9))
  (k_with "call ref" => ((with_reducible show wpAny _ _ (call (Value.ref 524) _ _) _ _ _); k_dflt (refine' Does.on (by k_asm) (by k_asm) (by k_asm) (by k_asm) (by k_asm) (input_ok (by exact Chk.mono (by assumption) (by ktd_rel)) (by assumption) (by assumption) (by exact NoteV.mono (by assumption) (by ktd_rel)) (by assumption)) rfl rfl (by (first | (first | exact room1 (by assumption) (by decide) | exact room0 (by assumption) (by decide) | (dsimp only [Around.deeper, Around.under, Around.in1]; omega)) | decide | omega)) (by (first | (first | exact room1 (by assumption) (by decide) | exact room0 (by assumption) (by decide) | (dsimp only [Around.deeper, Around.under, Around.in1]; omega)) | decide | omega)) ?_); rintro _ _ _ _ _ _ ⟨⟨_, e9⟩, _⟩; subst e9))
  (k_with "call ref" => ((with_reducible show wpAny _ _ (call (Value.ref 458) _ _) _ _ _); k_dflt (refine' Does.on (by k_asm) (by k_asm) (by k_asm) (by k_asm) (by k_asm) (‹Does _ _ 458 _ _ _ _ _›) rfl rfl (by (first | (first | exact room1 (by assumption) (by decide) | exact room0 (by assumption) (by decide) | (dsimp only [Around.deeper, Around.under, Around.in1]; omega)) | decide | omega)) (by (first | (first | exact room1 (by assumption) (by decide) | exact room0 (by assumption) (by decide) | (dsimp only [Around.deeper, Around.under, Around.in1]; omega)) | decide | omega)) ?_); rintro _ _ _ _ _ _ ⟨⟨_, e9⟩, _⟩; subst e9))
  (k_with "call ref" => ((with_reducible show wpAny _ _ (call (Value.ref 596) _ _) _ _ _); k_dflt (refine' Does.on (by k_asm) (by k_asm) (by k_asm) (by k_asm) (by k_asm) (is_true_ok (by k_mem) (by k_mem) (by exact ShsIn.mono (S := []) (by assumption) (by ktd_rel)) (by k_mem) (by exact ShsIn.mono (S := []) (by assumption) (by ktd_rel)) (by assumption) (by assumption) (by assumption) (by assumption) (by assumption) (by assumption) (by assumption) (by assumption)) rfl rfl (by (first | (first | exact room1 (by assumption) (by decide) | exact room0 (by assumption) (by decide) | (dsimp only [Around.deeper, Around.under, Around.in1]; omega)) | decide | omega)) (by (first | (first | exact room1 (by assumption) (by decide) | exact room0 (by assumption) (by decide) | (dsimp only [Around.deeper, Around.under, Around.in1]; omega)) | decide | omega)) ?_); rintro _ _ _ _ _ _ ⟨e9, _⟩; subst e9))
  (k_with "eval ListComp" => (k_dflt (refine comp_eval (by k_asm) (by with_unfolding_all rfl) (by decide) (by rfl) (by decide) (by rfl) ?_)))
  (k_with "compareOp NotEq ref ref" => (k_dflt (refine' ne_two (by k_asm) (by k_mem) (by exact List.Mem.head _) (by exact due_ok_str) (by decide +kernel) (by (rw [cLine_is]; dsimp only [Around.deeper]; omega)) ?_)))
  (k_with "ite" => (first | (refine ite_neg (by simp; done) ?_) | (refine ite_pos (by simp; done) ?_)))
  (k_with "ite" => (first | (refine ite_pos ‹(due _ _ _ _ != _) = true› ?_)))
  trivial
theorem is_right_ok {prog : Program} {w : World} {S : BankA} {Tb : List Key} {C : ChkA} {named told : List Sh} {news : Led} {ps : List (Nat × Bool)} {its tv nv : List Value} {nc nt nn : Nat} {cl lt ln : Addr} {v : Value} {k : Option Int} (hK : Chk prog w news S Tb C named told)
    (hcl : (cl, tupO its nc) ∈ news) (hits : All2 LitIs ps its) (hps : ∀ p ∈ ps, p.1 < named.length) (hz : named.length ≤ 100) (hz2 : its.length ≤ 100) (hz3 : told.length ≤ 100) (ha : asc 0 ps = true) (hv : NoteV news v k)
    (ht : (lt, lstO tv nt) ∈ news) (htv : ShsIn news told tv) (hn : (ln, lstO nv nn) ∈ news) (hnv : ShsIn news named nv) (hd1 : ∀ x ∈ told, x.dp ≤ 50) (hd2 : ∀ x ∈ named, x.dp ≤ 50) :
    Does prog w 601 [.ref C.c, .ref lt, .ref ln, .ref cl, v] 115 1300 news (fun r news' => r = .bool true ∧ Evo [] news news') := by
  obtain ⟨es, n, hd, g1, g2, g3, g4⟩ := hK.dict
  have g5 := g4 "input_fault" (by simp [chkNames])
  have g6 := g4 "signed_clause" (by simp [chkNames])
  have g7 := g4 "fault_of" (by simp [chkNames])
  have hin := hK.inst
  unfold Does
  intro p loose mean mg mb dp un gd env outer A₀ base h₀ L m s R B F X N T hf hke hdp hun hret
  refine' code_defC B F X N T rfl hf hke ?k6 ?k7 ?k8 ?k9 ?kB ?kD ?_ ?c2 ?c3 ?c4
  case k6 => k_dflt k_is
  case k7 => k_dflt k_is
  case k8 => show dp < 1000; omega
  case k9 => exact BindsTo.of_eq rfl
  case kB => exact rfl
  case kD => decide +kernel
  case c2 => exact rfl
  case c3 => exact rfl
  case c4 => exact rfl
  intro g' L' h' tk' cells' FG' F' N' Y' B' X' T' l1
  k_cells Y'
  (try simp only [List.cons_append, List.nil_append] at N')
  (try dsimp only)
  (try k_fold)
  k_steps
  rename_i oS oC hoS hoC n9a h9a tk9a hEa t9a hA n9b h9b tk9b D9 ys9 hD9 hy9 hEb n9c h9c tk9c hEc t9c d0 h0_ l0_ d1 h1_ l1_ d2 h2_ l2_ d3 h3_ l3_ lS hS FS NS lSx
  have e0 : Evo [] ((L' + 1 + 1, oS) :: (L' + 1, oC) :: news) n9c := (hEa.trans hEb).trans hEc
  have mS := e0 _ (List.Mem.head _) fun z => nomatch z
  have mS' := up5 NS mS
  have hlS := News.ne NS (List.Mem.head _) mS' (fun e => by rw [← e] at hoS; cases hoS)
  refine cell_store FS NS mS' hoS rfl rfl rfl fun h' o' F1 N1 hd' hE1 hm' => ?_
  have hne : ∀ q ∈ news, q.1 ∉ [L' + 1 + 1] := fun q hq z => by have := l1 q hq; have e := List.mem_singleton.mp z; rw [e] at this; exact absurd this (Nat.not_lt.mpr (Nat.le_add_right _ 2))
  have hnn : L' + 1 ∉ [L' + 1 + 1] := fun z => absurd (List.mem_singleton.mp z) (Nat.ne_of_lt (Nat.lt_succ_self _))
  have hE0 : Evo [] news _ := fun q hq z => hE1 q (up5 NS (e0 q (List.Mem.tail _ (List.Mem.tail _ hq)) z)) fun z => absurd z (hne q hq)
  have mC := hE1 _ (up5 NS (e0 _ (List.Mem.tail _ (List.Mem.head _)) fun z => nomatch z)) fun z => absurd z hnn
  have msl := hE1 _ (List.Mem.head _) fun z => absurd (List.mem_singleton.mp z) hlS
  have mst1 := hE1.tup (List.Mem.tail _ (List.Mem.head _))
  have mp1 := hE1.tup (List.Mem.tail _ (List.Mem.tail _ (List.Mem.head _)))
  have mst0 := hE1.tup (List.Mem.tail _ (List.Mem.tail _ (List.Mem.tail _ (List.Mem.head _))))
  have mp0 := hE1.tup (List.Mem.tail _ (List.Mem.tail _ (List.Mem.tail _ (List.Mem.tail _ (List.Mem.head _)))))
  generalize hY1 : upd _ (L' + 1 + 1) o' = Y1 at *
  try k_fold
  k_steps
  rename_i hR tkR t1 u1 v1 hRg F5 N5 kp
  refine ⟨_, [], 2, _, fun i ys _ => ∃ t1 t2, ys = ([Value.str (due named told ps k) t1, .str (Str.ofString "premise") t2] : List Value).take i, iters_upto rfl hRg rfl (by decide), F5, N5, by decide, (fun _ h => nomatch h), ⟨0, 0, rfl⟩, (fun _ _ _ _ _ _ _ h => h), ?_, ?_⟩
  · intro g i v' ys Y2 C2 oC2 m₂ h tk E' hi hP hJ hE2 mC2 hoC2 hx F N
    obtain ⟨tkv, rfl⟩ := hP
    obtain ⟨w1, w2, rfl⟩ := hJ
    have hE3 := hE0.trans hE2
    have zS := hE2 _ hm' fun z => nomatch z
    have zC := hE2 _ mC fun z => nomatch z
    have zl := hE2 _ msl fun z => nomatch z
    have hin2 := hE3 _ hin fun z => nomatch z
    have hd2' := hE3 _ hd fun z => nomatch z
    rcases (by omega : i = 0 ∨ i = 1) with rfl | rfl
    · have D := fault_a (j := 0) (tj := tkv) (hK.mono hE3) (Evo.mem hE3 hcl) hits hps hz hz2 hz3 ha (hv.mono hE3) zl rfl (by decide) (hE2.tup mst0) (hE2.tup mp0)
      try k_fold
      k_steps
      · k_asm
      · k_asm
      · assumption
      · exact 0
    · have D := fault_b (tj := tkv) (hK.mono hE3) (Evo.mem hE3 hcl) hits hps hz hz2 hz3 ha (hv.mono hE3) zl rfl (hE2.tup mst1) (hE2.tup mp1)
      have hx : m₂ (Str.ofString "k") = some (.int 1 tkv) := hx
      try k_fold
      k_steps
      · k_asm
      · k_asm
      · assumption
  · intro D h tk ys Y2 hJ hE2 N mD F
    obtain ⟨w1, w2, rfl⟩ := hJ
    have mD : (D, lstO [Value.str (due named told ps k) w1, .str (Str.ofString "premise") w2] 2) ∈ Y2 := mD
    have hE3 := hE0.trans hE2
    have zC := hE2 _ mC fun z => nomatch z
    by_cases hde : due named told ps k = Str.ofString ""
    · obtain ⟨i, y, rfl, h0, hy, hag⟩ := due_empty hde
      obtain ⟨pq, x, rfl, hx, hagc⟩ := agree_true hag
      rw [hde] at F mD
      cases hits with
      | cons r hr =>
        cases hr
        obtain ⟨tp, rfl⟩ := r
        cases hv
        try k_fold
        k_steps
        exact hret _ _ _ _ (by k_asm) (by k_asm) ⟨rfl, by ktd_rel⟩
    · have hne : (due named told ps k != Str.ofString "") = true := by simpa using hde
      try k_fold
      k_steps
      exact hret _ _ _ _ (by k_asm) (by k_asm) ⟨congrArg Value.bool hne, by ktd_rel⟩
end
section
-- nofill
section
open PyProof.Rows.LCg
variable {prog : Program} {w : World} {A : Around} {E : Value → Shared → Prop} {s : Shared} {h₀ : Heap} {L c : Addr} {m : Str → Option Value} {env : Env}
/-- a comprehension whose list goes into a cell -/
theorem comp_assign_cell {elt iter : Expr} {x y : Str} {px py : Pos} {scope : Scope} {cl : List (Str × Addr)} {pos spos : Pos} {Q : Flow → Shared → Prop} (_F₀ : Fr h₀ L s.heap m) (hLe : env.locals = L)
    (hsw : swapsWith (.ListComp elt [⟨.Name x px, iter, [], 0⟩] scope pos) (some (.Name y py)) spos.line env = pure true)
    (hclos : closureFor scope env = pure cl) (hcell : ∀ z ∈ scope.names, z.2 ≠ .cell) (hkind : scope.kind = .function)
    (hnames : ∀ z ∈ scope.names, z.2 = .local → scope.names.lookup z.1 = some .local) (hx : scope.names.lookup x = some .local)
    (hy : env.kindOf y = some .cell) (hk : env.scope.kind = .function) (hc : env.cells.lookup y = some c)
    (h : wpAny (model prog w) A (eval iter env) (SrcJ prog w A h₀ L m env elt x scope cl (fun s₁ D _ _ _ Y => ∃ o v₀, (c, o) ∈ Y ∧ o.data = .cell v₀ ∧
      ∀ h' tk' o', Fr h₀ L h' m → News h₀ L h' (upd Y c o') → o'.data = .cell (some (.ref D)) → Evo [c] Y (upd Y c o') → (c, o') ∈ upd Y c o' → Q .next { s₁ with heap := h', toks := tk' })) E s)
    (hs : ∀ x, foldedSetIterable iter env x = pure x := by intro _; rfl) :
    wpAny (model prog w) A (exec (.Assign [.Name y py] (.ListComp elt [⟨.Name x px, iter, [], 0⟩] scope pos) spos) env) Q E s := by
  subst hLe
  rw [exec_Assign_Name_used _ _ _ _ hsw]
  refine wpAny_bind (wpAny_standAt (wpAny_bind ?_))
  show wpAny _ A (do let _ ← comprehension (.ListComp elt [⟨.Name x px, iter, [], 0⟩] scope pos) scope env _ (newList []) false (eval iter env) (some (assign (.Name y py) env))) _ _ s
  refine wpAny_bind (wpAny_mono (wpAny_comprehension_free (use := some (assign (.Name y py) env)) (Q := fun _ s' => Q .next s') rfl hs hclos hkind hnames
    (wpAny_mono h (fun xv s₁ h₁ => ?_) fun _ _ e => e)) (fun _ s' hq => wpAny_pure (wpAny_pure hq)) fun _ _ e => e)
  obtain ⟨X₀, S, n, P, J, hI, F, N, hsz, hS, hJ0, hm, hT, hfin⟩ := h₁
  refine hI _ _ fun I fp St h₂ W hIo hSt hst hfp up hIe _ => ?_
  subst hIe
  refine comp_block W hsz hIo hSt hcell hkind hx hst hfp (F.keeps up) (N.grown up) (Nat.ne_of_lt F.ns.lt) (next_is_new F) (fun p hp => Nat.ne_of_lt (Heap.lt_size (N p hp).1)) hS hJ0 hm (hT h₂).toT ?_
  intro D C h tk m' ys Y F' N' mD hJ hE hn hC₀ hCL offC
  obtain ⟨o, v₀, hmc, hd, fin⟩ := hfin D h tk ys Y hJ hE N' mD
  have hmem := N' (c, o) hmc
  have hcC : c ≠ C := offC _ hmc
  show wpAny _ A (assign (.Name y py) env (.ref D)) _ _ _
  refine wpAny_assign_Name (wpAny_storeName_cell hk hy hc ⟨o, hmem.1, hd⟩ fun h₂ hv hs₂ => ?_)
  obtain ⟨o', ho', hd'⟩ := hv
  have F₂ := F'.change hs₂ hmem.2.1 hmem.2.2
  have N₂ := News.replace N' hs₂ ho'
  refine ⟨m', hn.sameBut hs₂ (Ne.symm hcC), fun h'' hs'' => fin h'' _ o' (F₂.change hs'' hCL hC₀) (fun p hp => ⟨hs''.extBut _ _ ?_ (N₂ p hp).1, (N₂ p hp).2⟩) hd' (Evo.upd N' hmc (fun ⟨_, _, e, _⟩ => by rw [hd] at e; cases e)) (mem_upd_self hmc)⟩
  obtain ⟨q, hq, rfl⟩ := List.mem_map.mp hp
  by_cases e : q.1 = c
  · rw [if_pos e]; exact hcC
  · rw [if_neg e]; exact offC q hq
end
theorem Feed.keep {prog : Program} {w : World} {S : List Addr} {news news' : Led} {fd lst : Addr} {k : Nat} (e : Evo S news news') (h1 : fd ∉ S) (h2 : lst ∉ S) (h : Feed prog w news fd lst k) : Feed prog w news' fd lst k :=
  let ⟨o, vs, ns, n, tk, a, b, c, r⟩ := h; ⟨o, vs, ns, n, tk, e _ a (fun z => absurd z h1), b, e _ c (fun z => absurd z h2), r⟩
theorem Feed.has {prog : Program} {w : World} {news : Led} {fd lst : Addr} {k : Nat} (h : Feed prog w news fd lst k) : (∃ o, (fd, o) ∈ news) ∧ ∃ o, (lst, o) ∈ news :=
  let ⟨o, vs, ns, n, tk, a, b, c, r⟩ := h; ⟨⟨o, a⟩, ⟨_, c⟩⟩
theorem ints_at {vs : List Value} {ns : List Int} {i : Nat} {v : Value} (h : IntsAre vs ns) (e : vs[i]? = some v) : ∃ n t, v = .int n t := by
  induction h generalizing i with
  | nil => simp at e
  | cons n t _ ih => cases i with
    | zero => simp only [List.getElem?_cons_zero, Option.some.injEq] at e; exact ⟨n, t, e.symm⟩
    | succ i => exact ih (by simpa using e)
theorem ints_more {vs : List Value} {n : Int} {t : Tok} (h : ∃ ns, IntsAre vs ns) : ∃ ns, IntsAre (vs ++ [.int n t]) ns := by
  obtain ⟨ns, h⟩ := h
  refine ⟨ns ++ [n], ?_⟩
  induction h with
  | nil => exact .cons _ _ .nil
  | cons _ _ _ ih => exact .cons _ _ ih
open PyProof.V in
theorem kdn_upd {prog : Program} {w : World} {s : Shared} {h₀ : Heap} {L d : Addr} {m : Str → Option Value} {news : Led} {o : Obj} {Q : Value → Shared → Prop} {vs : List (Value × Value)} (F : Fr h₀ L s.heap m) (N : News h₀ L s.heap news) (hp : (d, o) ∈ news) (hd : o.IsDictOf (PySem.strKind prog w) []) (hk : allStrKeys vs = true) (hn : ((strPairs vs).map (·.1)).Nodup)
    (h : ∀ h' o', Fr h₀ L h' m → News h₀ L h' (upd news d o') → o'.IsDictOf (PySem.strKind prog w) (strPairs vs) → Evo [d] news (upd news d o') → (d, o') ∈ upd news d o' → Q (.ref d) { s with heap := h', toks := s.toks + vs.length }) : KdnMade prog w (PySem.strKind prog w) d Q vs s := by
  have hm := N (d, o) hp
  refine display_done_str hk hn (Heap.dictOf_iff.mpr ⟨o, hm.1, hd⟩) fun h' hmm hs => ?_
  obtain ⟨o', ho', hd'⟩ := Heap.dictOf_iff.mp hmm
  exact h h' o' (F.change hs hm.2.1 hm.2.2) (News.replace N hs ho') hd' (Evo.upd N hp (dict_not_tuple hd)) (mem_upd_self hp)
def CellsJ (i : Nat) (ys : List Value) : Prop := (∃ ns, IntsAre ys ns) ∧ ys.length ≤ i
theorem CellsJ.more {i : Nat} {ys : List Value} {n : Int} {t : Tok} (h : CellsJ i ys) : CellsJ (i + 1) (ys ++ [.int n t]) := ⟨ints_more h.1, by have := h.2; simp only [List.length_append, List.length_cons, List.length_nil]; omega⟩
end
section
-- nofill
def T0 : List Key := [(Str.ofString "", [], 0, 0)]
theorem all_ne {news : Led} {d : Addr} (h : ∀ p ∈ news, p.1 < d) : ∀ p ∈ news, p.1 ≠ d := fun p hp => Nat.ne_of_lt (h p hp)
section
variable {prog : Program} {w : World} {A : Around} {E : Value → Shared → Prop} {s : Shared} {K : Frag} {x C dx L : Addr} {h₀ : Heap} {m : Str → Option Value} {news : Led} {es es' : List DictEntry} {n n' : Nat} {name : Str} {v : Value}
theorem set_dict_upd {Q : Unit → Shared → Prop} (F : Fr h₀ L s.heap m) (X₀ : K.In h₀) (N : News h₀ L s.heap news) (hx : (x, instObj C dx) ∈ news) (hm : (dx, dictOf es n) ∈ news)
    (hs : findIn K (.ref C) "__setattr__" = some (some (.builtin "object.__setattr__"))) (hp : plainOver K C = true) (ht : takerIn K C name = some none) (hh : hasDictIn K C = true) (hl : (getL name es).isSome = true)
    (e : (putL name (PyData.keyHash w.params name) (.str name (s.toks + 1)) v es, putN name es n) = (es', n')) (hz : es'.length ≤ 1000)
    (h : ∀ h', Fr h₀ L h' m → News h₀ L h' (upd news dx (dictOf es' n')) → Q () { s with heap := h', toks := s.toks + 2 }) :
    wpAny (model prog w) A (setAttr (.ref x) name v) Q E s := by
  have N' : News h₀ L s.heap ((dx, dictOf es n) :: news.filter fun p => p.1 ≠ dx) := fun p hp => by
    rcases List.mem_cons.mp hp with rfl | hp
    · exact N _ hm
    · exact N p (List.mem_filter.mp hp).1
  refine set_dict F X₀ N' (InstAt.of_news N hx hm) rfl hs hp ht hh hl e (Upd.head fun p hp => of_decide_eq_true (List.mem_filter.mp hp).2) hz fun h' F' N2 => h h' F' fun q hq => ?_
  obtain ⟨p, hp, rfl⟩ := List.mem_map.mp hq
  by_cases hd : p.1 = dx
  · rw [if_pos hd]; exact N2 _ (List.Mem.head _)
  · rw [if_neg hd]; exact N2 _ (List.Mem.tail _ (List.mem_filter.mpr ⟨hp, decide_eq_true hd⟩))
end
theorem bank_apart {b db lo la ls ld ln : Nat} (h1 : db < b) (h2 : b < lo) (h3 : lo < la) (h4 : la < ls) (h5 : ls < ld) (h6 : ld < ln) : (BankA.mk b db lo la ls ld ln).all.Nodup := by
  show [b, db, lo, la, ls, ld, ln].Nodup
  simp only [List.nodup_cons, List.mem_cons, List.not_mem_nil, or_false, not_or, not_false_eq_true, List.nodup_nil, and_true]
  have x1 := Nat.lt_trans h1 h2
  have x2 := Nat.lt_trans h2 h3
  have x3 := Nat.lt_trans h3 h4
  have x4 := Nat.lt_trans h4 h5
  have x5 := Nat.lt_trans h5 h6
  have x6 := Nat.lt_trans x1 h3
  have x7 := Nat.lt_trans x2 h4
  have x8 := Nat.lt_trans x3 h5
  have x9 := Nat.lt_trans x4 h6
  have x10 := Nat.lt_trans x6 h4
  have x11 := Nat.lt_trans x7 h5
  have x12 := Nat.lt_trans x8 h6
  have x13 := Nat.lt_trans x10 h5
  have x14 := Nat.lt_trans x11 h6
  have x15 := Nat.lt_trans x13 h6
  repeat' apply And.intro
  all_goals first | exact Nat.ne_of_lt (by assumption) | exact Nat.ne_of_gt (by assumption)
theorem bank_first {prog : Program} {w : World} {X : Led} {S : BankA} {es : List DictEntry} {n n1 n2 n3 n4 n5 : Nat} {a : Addr} {t : Tok} {v1 v2 : Value} (hin : (S.b, instObj 415 S.db) ∈ X) (hd : (S.db, dictOf es n) ∈ X) (hes : BankDict S es)
    (ho : (S.lo, lstO [.str (Str.ofString "") t] n1) ∈ X) (ha : (S.la, lstO [.ref a] n2) ∈ X) (ha' : (a, tupO [] n3) ∈ X) (hs : (S.ls, lstO [v1] n4) ∈ X) (hdd : (S.ld, lstO [v2] n5) ∈ X) (hN : Nums prog w X S.ln []) (hap : S.all.Nodup) : Bank prog w X S T0 := by
  have one : ∀ {i : Nat} {k : Key}, T0[i]? = some k → i = 0 ∧ k = (Str.ofString "", [], 0, 0) := fun {i k} h => by
    match i with
    | 0 => exact ⟨rfl, (Option.some.inj h).symm⟩
    | i + 1 => cases h
  refine ⟨hin, ⟨es, n, hd, hes⟩, ⟨_, _, ho, rfl, fun i k h => ?_⟩, ⟨_, _, ha, rfl, fun i k h => ?_⟩, ⟨_, _, hs, rfl⟩, ⟨_, _, hdd, rfl⟩, ⟨[], hN, rfl, fun k p h => ?_, fun i k hi h => ?_⟩, by simp [T0], rfl, hap⟩
  · obtain ⟨rfl, rfl⟩ := one h; exact ⟨t, rfl⟩
  · obtain ⟨rfl, rfl⟩ := one h; exact ⟨a, [], n3, rfl, ha', .nil⟩
  · cases h
  · obtain ⟨rfl, _⟩ := one h; omega
theorem nums_first {prog : Program} {w : World} {X : Led} {ln : Addr} {o : Obj} (hl : (ln == sysModules) = false) (hm : (ln, o) ∈ X) (ho : o.IsDictOf (PySem.strKind prog w) []) : Nums prog w X ln [] := by
  obtain ⟨es, ep, h1, h2, _, h3, _⟩ := ho
  refine ⟨hl, o, es, ep, hm, h1, h2, ?_, by simp, fun x hx => nomatch hx⟩
  cases hq : es.toList with
  | nil => rfl
  | cons a r => rw [hq] at h3; cases h3
theorem Bank.setdict {prog : Program} {w : World} {h₀ h : Heap} {L : Addr} {X : Led} {S : BankA} {T : List Key} {es es' : List DictEntry} {n n' : Nat} (B : Bank prog w X S T) (N : News h₀ L h X) (hm : (S.db, dictOf es n) ∈ X) (hes : BankDict S es') : Bank prog w (upd X S.db (dictOf es' n')) S T := by
  have e : Evo [S.db] X (upd X S.db (dictOf es' n')) := Evo.upd N hm (notT_cls (by show Value.type "dict" ≠ Value.type "tuple"; decide))
  have ap := B.apart
  simp only [BankA.all, List.nodup_cons, List.mem_cons, List.not_mem_nil, or_false, not_or] at ap
  obtain ⟨⟨p1, p2, p3, p4, p5, p6⟩, ⟨p7, p8, p9, p10, p11⟩, _⟩ := ap
  have k : ∀ {a : Addr} {o : Obj}, ¬ S.db = a → (a, o) ∈ X → (a, o) ∈ upd X S.db (dictOf es' n') := fun ha hm => e _ hm fun z => absurd (List.mem_singleton.mp z).symm ha
  obtain ⟨vo, no, o1, o2⟩ := B.ops
  obtain ⟨va, na, a1, a2, a3⟩ := B.args
  obtain ⟨vs, ns, s1, s2⟩ := B.sorts
  obtain ⟨vd, nd, e1, e2⟩ := B.datas
  obtain ⟨xs, x1, x2⟩ := B.nums
  exact ⟨k (fun z => p1 z.symm) B.inst, ⟨es', n', mem_upd_self hm, hes⟩, ⟨vo, no, k p7 o1, o2⟩,
    ⟨va, na, k p8 a1, a2, fun i q h => let ⟨a, us, n', h1, h2, h3⟩ := a3 i q h; ⟨a, us, n', h1, e.tup h2, h3⟩⟩, ⟨vs, ns, k p9 s1, s2⟩, ⟨vd, nd, k p10 e1, e2⟩,
    ⟨xs, x1.mono (by simpa using fun z => p11 z.symm) e, x2⟩, B.nodup, B.zero, B.apart⟩
/-- the bank's lists of functions -/
structure Funs (news : Led) (S : BankA) (fn fa fr : Addr) (c : Nat) : Prop where
  dict : ∃ es n, (S.db, dictOf es n) ∈ news ∧ getL "fun_names" es = some (some (.ref fn)) ∧ getL "fun_args" es = some (some (.ref fa)) ∧ getL "fun_results" es = some (some (.ref fr)) ∧ getL "declare_fun" es = some none ∧ getL "make" es = some none
  names : ∃ v n, (fn, lstO v n) ∈ news ∧ v.length = c
  args : ∃ v n, (fa, lstO v n) ∈ news ∧ v.length = c
  results : ∃ v n, (fr, lstO v n) ∈ news ∧ v.length = c
  apart : ¬ fn = fa ∧ ¬ fn = fr ∧ ¬ fa = fr
  out : ∀ a ∈ [fn, fa, fr], a ∉ S.all
theorem Funs.mono {news news' : Led} {S : BankA} {fn fa fr : Addr} {c : Nat} {X : List Addr} (f : Funs news S fn fa fr c) (e : Evo X news news') (h1 : S.db ∉ X) (h2 : fn ∉ X) (h3 : fa ∉ X) (h4 : fr ∉ X) : Funs news' S fn fa fr c := by
  obtain ⟨es, n, d, r⟩ := f.dict
  obtain ⟨v1, n1, a1, b1⟩ := f.names
  obtain ⟨v2, n2, a2, b2⟩ := f.args
  obtain ⟨v3, n3, a3, b3⟩ := f.results
  exact ⟨⟨es, n, e _ d fun z => absurd z h1, r⟩, ⟨v1, n1, e _ a1 fun z => absurd z h2, b1⟩, ⟨v2, n2, e _ a2 fun z => absurd z h3, b2⟩, ⟨v3, n3, e _ a3 fun z => absurd z h4, b3⟩, f.apart, f.out⟩
theorem isStr_str (x name : Str) (t : Tok) : (Value.str x t).isStr name = (x == name) := rfl
theorem getL_put_self {name : Str} {hsh : Int} {tk : Tok} {v : Value} : ∀ es : List DictEntry, getL name (putL name hsh (.str name tk) v es) = some (some v)
  | [] => by simp [putL, getL, isStr_str]
  | e :: r => by
    have ih := getL_put_self (name := name) (hsh := hsh) (tk := tk) (v := v) r
    unfold putL
    by_cases h : e.key.isStr name = true
    · simp [getL, h]
    · rw [if_neg h]
      unfold getL at ih ⊢
      have h' : e.key.isStr name = false := by simpa using h
      simp only [List.find?_cons, h', Bool.false_eq_true]
      revert ih
      cases hf : (putL name hsh (.str name tk) v r).find? (·.key.isStr name) with
      | some a => intro ih; exact ih
      | none => intro ih; dsimp only at ih; split at ih <;> cases ih
theorem getL_put_ne {name name' : Str} {hsh : Int} {tk : Tok} {v : Value} (hne : (name == name') = false) : ∀ es : List DictEntry, getL name' (putL name hsh (.str name tk) v es) = getL name' es
  | [] => by simp [putL, getL, isStr_str, hne, DictEntry.refKey]
  | e :: r => by
    have ih := getL_put_ne (hsh := hsh) (tk := tk) (v := v) hne r
    unfold putL
    by_cases h : e.key.isStr name = true
    · rw [if_pos h]
      have hk : e.key.isStr name' = false := by
        revert h
        cases hq : e.key with
        | str x t =>
          rw [isStr_str, isStr_str]
          intro h
          rw [eq_of_beq h]; exact hne
        | _ => intro h; cases h
      unfold getL
      simp only [List.find?_cons, hk, List.any_cons]
      rfl
    · rw [if_neg h]
      unfold getL at ih ⊢
      simp only [List.find?_cons, List.any_cons]
      cases hk : e.key.isStr name' with
      | true => rfl
      | false =>
        dsimp only
        revert ih
        cases h1 : (putL name hsh (.str name tk) v r).find? (·.key.isStr name') with
        | some a => cases h2 : r.find? (·.key.isStr name') with
          | some c => intro ih; exact ih
          | none => intro ih; dsimp only at ih; split at ih <;> cases ih
        | none => cases h2 : r.find? (·.key.isStr name') with
          | some c => intro ih; dsimp only at ih; split at ih <;> cases ih
          | none =>
            intro ih
            dsimp only at ih ⊢
            have : ((putL name hsh (.str name tk) v r).any (·.refKey)) = (r.any (·.refKey)) := by
              revert ih
              cases (putL name hsh (.str name tk) v r).any (·.refKey) <;> cases r.any (·.refKey) <;> simp
            simp only [this]
            exact ite_congr rfl (fun _ => rfl) (fun _ => rfl)
theorem putL_len (name : Str) (hsh : Int) (key v : Value) : ∀ es : List DictEntry, (putL name hsh key v es).length ≤ es.length + 1
  | [] => by simp [putL]
  | e :: r => by
    have ih := putL_len name hsh key v r
    unfold putL
    split
    · simp
    · simp only [List.length_cons]; omega
def FullDict (S : BankA) (fn fa fr : Addr) (es : List DictEntry) : Prop :=
  BankDict S es ∧ getL "fun_names" es = some (some (.ref fn)) ∧ getL "fun_args" es = some (some (.ref fa)) ∧ getL "fun_results" es = some (some (.ref fr))
theorem FullDict.put {S : BankA} {fn fa fr : Addr} {es : List DictEntry} {name : Str} {hsh : Int} {tk : Tok} {v : Value} (f : FullDict S fn fa fr es) (hn : name = Str.ofString "true_number" ∨ name = Str.ofString "false_number") : FullDict S fn fa fr (putL name hsh (.str name tk) v es) := by
  obtain ⟨⟨a1, a2, a3, a4, a5, a6⟩, b1, b2, b3⟩ := f
  have k : ∀ {x : Str} {o : Option (Option Value)}, (Str.ofString "true_number" == x) = false → (Str.ofString "false_number" == x) = false → getL x es = o → getL x (putL name hsh (.str name tk) v es) = o := fun h1 h2 h => by
    rcases hn with rfl | rfl
    · rw [getL_put_ne h1]; exact h
    · rw [getL_put_ne h2]; exact h
  refine ⟨⟨k (by decide) (by decide) a1, k (by decide) (by decide) a2, k (by decide) (by decide) a3, k (by decide) (by decide) a4, k (by decide) (by decide) a5, fun x hx => ?_⟩, k (by decide) (by decide) b1, k (by decide) (by decide) b2, k (by decide) (by decide) b3⟩
  refine k ?_ ?_ (a6 x hx)
  · simp only [bankNames, List.mem_cons, List.not_mem_nil, or_false] at hx
    rcases hx with rfl | rfl | rfl | rfl | rfl | rfl <;> decide
  · simp only [bankNames, List.mem_cons, List.not_mem_nil, or_false] at hx
    rcases hx with rfl | rfl | rfl | rfl | rfl | rfl <;> decide
theorem init_pack {prog : Program} {w : World} {h₀ h : Heap} {L D0 d0 l0 l1 l2 D1 l3 l4 l5 l6 b db : Addr} {news : Led} {o0 : Obj} {v0 v1 : Value} {t : Tok} {n0 m0 m1 m2 m3 m4 m5 m6 m7 n : Nat} {p7 p8 : Addr × Obj} {es : List DictEntry}
    (N : News h₀ L h ((D0, tupO [] n0) :: (d0, o0) :: (l0, lstO [v0] m0) :: (l1, lstO [v1] m1) :: (l2, lstO [.ref D1] m2) :: (D1, tupO [] m3) :: (l3, lstO [.str (Str.ofString "") t] m4) :: (l4, lstO [] m5) :: (l5, lstO [] m6) :: (l6, lstO [] m7) :: p7 :: p8 :: (b, instObj 415 db) :: (db, dictOf es n) :: news))
    (hes : FullDict ⟨b, db, l3, l2, l1, l0, d0⟩ l6 l5 l4 es) (q0 : @LT.lt Nat _ db b) (q6 : @LT.lt Nat _ b l6) (q7 : @LT.lt Nat _ l6 l5) (q8 : @LT.lt Nat _ l5 l4) (q9 : @LT.lt Nat _ l4 l3) (q2 : @LT.lt Nat _ l3 l2) (q3 : @LT.lt Nat _ l2 l1) (q4 : @LT.lt Nat _ l1 l0) (q5 : @LT.lt Nat _ l0 d0)
    (lo0 : (d0 == sysModules) = false) (hs0 : o0.IsDictOf (PySem.strKind prog w) []) (hl : ∀ p ∈ news, p.1 < db) (hlen : es.length ≤ 20) (ht : (getL "true_number" es).isSome = true) (hf : (getL "false_number" es).isSome = true) :
    ∃ (S : BankA) (fn fa fr : Addr) (X : Led) (es : List DictEntry) (n : Nat), b = S.b ∧ db = S.db ∧ News h₀ L h X ∧ Bank prog w X S T0 ∧ Funs X S fn fa fr 0 ∧ (∀ p ∈ news, p ∈ X) ∧ (D0, tupO [] n0) ∈ X ∧ (db, dictOf es n) ∈ X ∧ FullDict S fn fa fr es ∧ es.length ≤ 20 ∧ (getL "true_number" es).isSome = true ∧ (getL "false_number" es).isSome = true ∧
      ∀ a ∈ S.all ++ [fn, fa, fr], ∀ p ∈ news, p.1 ≠ a := by
  have up : ∀ p ∈ news, p ∈ ((D0, tupO [] n0) :: (d0, o0) :: (l0, lstO [v0] m0) :: (l1, lstO [v1] m1) :: (l2, lstO [.ref D1] m2) :: (D1, tupO [] m3) :: (l3, lstO [.str (Str.ofString "") t] m4) :: (l4, lstO [] m5) :: (l5, lstO [] m6) :: (l6, lstO [] m7) :: p7 :: p8 :: (b, instObj 415 db) :: (db, dictOf es n) :: news) := fun p hp => by
    repeat (first | exact hp | apply List.Mem.tail)
  have mdb : (db, dictOf es n) ∈ ((D0, tupO [] n0) :: (d0, o0) :: (l0, lstO [v0] m0) :: (l1, lstO [v1] m1) :: (l2, lstO [.ref D1] m2) :: (D1, tupO [] m3) :: (l3, lstO [.str (Str.ofString "") t] m4) :: (l4, lstO [] m5) :: (l5, lstO [] m6) :: (l6, lstO [] m7) :: p7 :: p8 :: (b, instObj 415 db) :: (db, dictOf es n) :: news) := by k_mem
  obtain ⟨hb, f1, f2, f3⟩ := id hes
  have x1 := Nat.lt_trans q0 q6
  have x2 := Nat.lt_trans q6 q7
  have x3 := Nat.lt_trans q7 q8
  have x4 := Nat.lt_trans q8 q9
  have x5 := Nat.lt_trans q9 q2
  have x6 := Nat.lt_trans q2 q3
  have x7 := Nat.lt_trans q3 q4
  have x8 := Nat.lt_trans q4 q5
  have x9 := Nat.lt_trans x1 q7
  have x10 := Nat.lt_trans x2 q8
  have x11 := Nat.lt_trans x3 q9
  have x12 := Nat.lt_trans x4 q2
  have x13 := Nat.lt_trans x5 q3
  have x14 := Nat.lt_trans x6 q4
  have x15 := Nat.lt_trans x7 q5
  have x16 := Nat.lt_trans x9 q8
  have x17 := Nat.lt_trans x10 q9
  have x18 := Nat.lt_trans x11 q2
  have x19 := Nat.lt_trans x12 q3
  have x20 := Nat.lt_trans x13 q4
  have x21 := Nat.lt_trans x14 q5
  have x22 := Nat.lt_trans x16 q9
  have x23 := Nat.lt_trans x17 q2
  have x24 := Nat.lt_trans x18 q3
  have x25 := Nat.lt_trans x19 q4
  have x26 := Nat.lt_trans x20 q5
  have x27 := Nat.lt_trans x22 q2
  have x28 := Nat.lt_trans x23 q3
  have x29 := Nat.lt_trans x24 q4
  have x30 := Nat.lt_trans x25 q5
  have x31 := Nat.lt_trans x27 q3
  have x32 := Nat.lt_trans x28 q4
  have x33 := Nat.lt_trans x29 q5
  have x34 := Nat.lt_trans x31 q4
  have x35 := Nat.lt_trans x32 q5
  have x36 := Nat.lt_trans x34 q5
  refine ⟨⟨b, db, l3, l2, l1, l0, d0⟩, l6, l5, l4, _, es, n, rfl, rfl, N, bank_first (t := t) (n1 := m4) (a := D1) (n2 := m2) (n3 := m3) (v1 := v1) (n4 := m1) (v2 := v0) (n5 := m0) (by k_mem) mdb hb (by k_mem) (by k_mem) (by k_mem) (by k_mem) (by k_mem) (nums_first lo0 (by k_mem) hs0) (bank_apart q0 (by assumption) q2 q3 q4 q5),
    ⟨⟨es, n, mdb, f1, f2, f3, hb.2.2.2.2.2 _ (by simp [bankNames]), hb.2.2.2.2.2 _ (by simp [bankNames])⟩, ⟨[], m7, by k_mem, rfl⟩, ⟨[], m6, by k_mem, rfl⟩, ⟨[], m5, by k_mem, rfl⟩, ?_, ?_⟩, up, by k_mem, mdb, hes, hlen, ht, hf, ?_⟩
  · refine ⟨neN ?_, neN ?_, neN ?_⟩ <;> first | exact Nat.ne_of_lt (by assumption) | exact Nat.ne_of_gt (by assumption)
  · intro a ha
    simp only [List.mem_cons, List.not_mem_nil, or_false] at ha
    simp only [BankA.all, List.mem_cons, List.not_mem_nil, or_false, not_or]
    rcases ha with rfl | rfl | rfl <;> refine ⟨neN ?_, neN ?_, neN ?_, neN ?_, neN ?_, neN ?_, neN ?_⟩ <;> first | exact Nat.ne_of_lt (by assumption) | exact Nat.ne_of_gt (by assumption)
  · intro a ha p hp
    have hlt : @LT.lt Nat _ p.1 db := hl p hp
    simp only [BankA.all, List.cons_append, List.nil_append, List.mem_cons, List.not_mem_nil, or_false] at ha
    refine neN ?_
    rcases ha with rfl | rfl | rfl | rfl | rfl | rfl | rfl | rfl | rfl | rfl <;> first | exact Nat.ne_of_lt hlt | exact Nat.ne_of_lt (Nat.lt_trans hlt (by assumption))
theorem bank_set {prog : Program} {w : World} {A : Around} {E : Value → Shared → Prop} {s : Shared} {K : Frag} {L : Addr} {h₀ : Heap} {m : Str → Option Value} {news : Led} {S : BankA} {fn fa fr : Addr} {T : List Key} {es : List DictEntry} {n : Nat} {name : Str} {v : Value} {Q : Unit → Shared → Prop} (F : Fr h₀ L s.heap m) (X₀ : K.In h₀) (N : News h₀ L s.heap news)
    (hB : Bank prog w news S T) (hU : Funs news S fn fa fr 0) (hm : (S.db, dictOf es n) ∈ news) (hF : FullDict S fn fa fr es) (hlen : es.length ≤ 30)
    (hs : findIn K (.ref 415) "__setattr__" = some (some (.builtin "object.__setattr__"))) (hp : plainOver K 415 = true) (ht : takerIn K 415 name = some none) (hh : hasDictIn K 415 = true) (hl : (getL name es).isSome = true)
    (hn : name = Str.ofString "true_number" ∨ name = Str.ofString "false_number")
    (h : ∀ h' es' n' X, Fr h₀ L h' m → News h₀ L h' X → Bank prog w X S T → Funs X S fn fa fr 0 → (S.db, dictOf es' n') ∈ X → FullDict S fn fa fr es' → es'.length ≤ es.length + 1 → getL name es' = some (some v) → (∀ x, (name == x) = false → getL x es' = getL x es) → Evo [S.db] news X → Q () { s with heap := h', toks := s.toks + 2 }) :
    wpAny (model prog w) A (setAttr (.ref S.b) name v) Q E s := by
  have e : Evo [S.db] news (upd news S.db (dictOf (putL name (PyData.keyHash w.params name) (.str name (s.toks + 1)) v es) (putN name es n))) := Evo.upd N hm (notT_cls (by show Value.type "dict" ≠ Value.type "tuple"; decide))
  have hl2 := putL_len name (PyData.keyHash w.params name) (.str name (s.toks + 1)) v es
  have hF2 : FullDict S fn fa fr (putL name (PyData.keyHash w.params name) (.str name (s.toks + 1)) v es) := hF.put hn
  have ap := hU.out
  have ndb : ∀ a ∈ [fn, fa, fr], a ∉ [S.db] := fun a ha z => ap a ha (by rw [List.mem_singleton.mp z]; simp [BankA.all])
  refine set_dict_upd F X₀ N hB.inst hm hs hp ht hh hl rfl (by omega) fun h' F' N' => h h' _ _ _ F' N' (hB.setdict N hm hF2.1) ?_ (mem_upd_self hm) hF2 hl2 (getL_put_self es) (fun x hx => getL_put_ne hx es) e
  obtain ⟨v1, n1, a1, b1⟩ := hU.names
  obtain ⟨v2, n2, a2, b2⟩ := hU.args
  obtain ⟨v3, n3, a3, b3⟩ := hU.results
  exact ⟨⟨_, _, mem_upd_self hm, hF2.2.1, hF2.2.2.1, hF2.2.2.2, hF2.1.2.2.2.2.2 _ (by simp [bankNames]), hF2.1.2.2.2.2.2 _ (by simp [bankNames])⟩, ⟨v1, n1, e _ a1 fun z => absurd z (ndb _ (by simp)), b1⟩, ⟨v2, n2, e _ a2 fun z => absurd z (ndb _ (by simp)), b2⟩, ⟨v3, n3, e _ a3 fun z => absurd z (ndb _ (by simp)), b3⟩, hU.apart, hU.out⟩
theorem Funs.make {X Y : Led} {S : BankA} {fn fa fr : Addr} {c : Nat} (f : Funs X S fn fa fr c) (ap : S.all.Nodup) (e : Evo S.mut X Y) : Funs Y S fn fa fr c :=
  f.mono e (b_mut ap) (fun z => f.out _ (by simp) (mut_all z)) (fun z => f.out _ (by simp) (mut_all z)) (fun z => f.out _ (by simp) (mut_all z))
end
section
example : True := by
  k_with_none
  (k_with "k_ne" => (refine neN ?_; (try dsimp only); first | exact Nat.ne_of_gt (by with_reducible assumption) | exact Nat.ne_of_lt (by with_reducible assumption) | exact Nat.ne_of_gt (And.left (by with_reducible assumption)) | exact Nat.ne_of_lt (And.left (by with_reducible assumption)) | exact Nat.ne_of_gt (And.left (And.right (by with_reducible assumption))) | exact Nat.ne_of_lt (And.left (And.right (by with_reducible assumption))) | exact Nat.ne_of_gt (And.left (And.right (And.right (by with_reducible assumption)))) | exact Nat.ne_of_lt (And.left (And.right (And.right (by with_reducible assumption)))) | exact Nat.ne_of_gt (And.left (And.right (And.right (And.right (by with_reducible assumption))))) | exact Nat.ne_of_lt (And.left (And.right (And.right (And.right (by with_reducible assumption))))) | exact Nat.ne_of_gt (And.left (And.right (And.right (And.right (And.right (by with_reducible assumption)))))) | exact Nat.ne_of_gt (And.left (And.right (And.right (And.right (And.right (And.right (by with_reducible assumption))))))) | exact Nat.ne_of_gt (And.left (And.right (And.right (And.right (And.right (And.right (And.right (by with_reducible assumption)))))))) | exact Nat.ne_of_gt (And.left (And.right (And.right (And.right (And.right (And.right (And.right (And.right (by with_reducible assumption))))))))) | exact Nat.ne_of_gt (And.left (And.right (And.right (And.right (And.right (And.right (And.right (And.right (And.right (by with_reducible assumption)))))))))) | exact Nat.ne_of_gt (And.left (And.right (And.right (And.right (And.right (And.right (And.right (And.right (And.right (And.right (by with_reducible assumption))))))))))) | exact Nat.ne_of_gt (And.left (And.right (And.right (And.right (And.right (And.right (And.right (And.right (And.right (And.right (And.right (by with_reducible assumption)))))))))))) | exact Nat.ne_of_gt (And.left (And.right (And.right (And.right (And.right (And.right (And.right (And.right (And.right (And.right (And.right (And.right (by with_reducible assumption))))))))))))) | exact Nat.ne_of_gt (And.left (And.right (And.right (And.right (And.right (And.right (And.right (And.right (And.right (And.right (And.right (And.right (And.right (by with_reducible assumption))))))))))))))))
  (k_with "k_all" => exact all_ne (by assumption))
  trivial
theorem keep_evo {news X Y : Led} {S : BankA} (e : Evo S.mut X Y) (h : ∀ a ∈ S.mut, ∀ p ∈ news, p.1 ≠ a) (k : ∀ p ∈ news, p ∈ X) : ∀ p ∈ news, p ∈ Y := fun p hp => e p (k p hp) fun z => absurd rfl (h _ z p hp)
theorem keep_db {d : Addr} {news X : Led} {o' : Obj} (h : ∀ p ∈ news, p.1 ≠ d) (k : ∀ p ∈ news, p ∈ X) : ∀ p ∈ news, p ∈ upd X d o' := fun p hp => mem_upd_ne (k p hp) (h p hp)
def InitPost (prog : Program) (w : World) (news : Led) (b : Addr) (r : Value) (news' : Led) : Prop :=
  r = .none ∧ ∃ (S : BankA) (T : List Key) (fn fa fr : Addr), S.b = b ∧ Bank prog w news' S T ∧ T.length ≤ 3 ∧ TFs news' S T ∧ Funs news' S fn fa fr 0 ∧ (∀ p ∈ news, p ∈ news') ∧ ∀ a ∈ S.all ++ [fn, fa, fr], ∀ p ∈ news, p.1 ≠ a
example : True := by
  (k_with "k_mem" => with_reducible assumption)
  (k_with "k_get" => with_reducible assumption)
  trivial
theorem init_ok {prog : Program} {w : World} {news : Led} {b db : Addr} (hl : ∀ p ∈ news, p.1 < db) (hb : @LT.lt Nat _ db b) :
    Does prog w 111 [.ref b] 5 60 ((b, instObj 415 db) :: (db, dictOf [] 0) :: news) (fun r news' => InitPost prog w news b r news') := by
  unfold Does
  intro p loose mean mg mb dp un gd env outer A₀ base h₀ L m s R B F X N T hf hke hdp hun hret
  refine' code_def B F X N T rfl hf hke ?k6 ?k7 ?k8 ?k9 ?kB ?_ ?c2 ?c3 ?c4 ?c5
  case k6 => k_dflt k_is
  case k7 => k_dflt k_is
  case k8 => show dp < 1000; omega
  case k9 => exact BindsTo.of_eq rfl
  case c5 => decide
  case kB => exact locs rfl
  case c2 => exact rfl
  case c3 => exact rfl
  case c4 => exact rfl
  intro g' L' h' FG' F' N' B' X' T'
  (try dsimp only)
  (try k_fold)
  k_steps
  rename_i tk8 l8 h22 x11 h21 tk7 l7 h20 x10 h19 tk6 l6 h18 x9 h17 tk5 l5 h16 x8 h15 tk4 l4 h14 x7 h13 tk3 h12 l3 h11 x6 h10 tk2 D1 h9 x5 l2 h8 x4 h7 tk1 l1 h6 x3 h5 tk0 l0 h4 x2 h3 d0 h2 o0 lo0 hs0 fs0 hi0 fi0 x1 h1 D0 h0 F0 N0 x0
  obtain ⟨S, fn, fa, fr, X1, es, n, rfl, rfl, N1, B1, U1, K1, mD, mdb, hF, hlen, ht, hf, hout⟩ := init_pack N0 ⟨⟨by k_dflt k_get, by k_dflt k_get, by k_dflt k_get, by k_dflt k_get, by k_dflt k_get, fun x hx => by
      simp only [bankNames, List.mem_cons, List.not_mem_nil, or_false] at hx
      rcases hx with rfl | rfl | rfl | rfl | rfl | rfl <;> k_dflt k_get⟩, by k_dflt k_get, by k_dflt k_get, by k_dflt k_get⟩ (by omega) (by omega) (by omega) (by omega) (by omega) (by omega) (by omega) (by omega) (by omega) lo0 hs0 hl
      (Nat.le_of_ble_eq_true rfl) (by k_dflt k_get) (by k_dflt k_get)
  clear x0 x1 x2 x3 x4 x5 x6 x7 x8 x9 x10 x11
  refine' Does.use (make_ok (k := (Str.ofString "true", [], 0, 0)) (S := S) B1 (by decide) (by decide +kernel) (fun e => s_inj e (by decide)) mD .nil) ?d ?e ?f ?g ?h ?i ?j ?k ?l ?_
  case d => k_asm
  case e => k_asm
  case f => k_asm
  case g => exact N1
  case h => k_asm
  case i => rfl
  case j => rfl
  case k => (first | exact room1 (by assumption) (by decide) | (dsimp only [Around.deeper, Around.under, Around.in1]; omega))
  case l => (first | exact room1 (by assumption) (by decide) | (dsimp only [Around.deeper, Around.under, Around.in1]; omega))
  rintro r9 n9 h9 tk9 F9 N9 ⟨i1, ti1, T1, rfl, hB9, hl9, hD9, hi9, hE9⟩
  have U9 := U1.make B1.apart hE9
  have m9 := hE9 _ mdb fun z => absurd z (b_mut B1.apart)
  have K9 := keep_evo hE9 (fun a ha => hout a (List.mem_append.mpr (.inl (mut_all ha)))) K1
  k_steps
  refine' bank_set ?F ?X N9 hB9 U9 m9 hF (by omega) ?p1 ?p2 ?p3 ?p4 ht (.inl rfl) ?_
  case F => k_asm
  case X => k_asm
  case p1 => k_dflt k_is
  case p2 => k_dflt k_is
  case p3 => k_dflt k_is
  case p4 => k_dflt k_is
  intro h2 es2 n2 X2 F2 N2 B2 U2 m2 hF2 hlen2 g2 gg2 hE2
  have K2 : ∀ p ∈ news, p ∈ X2 := fun p hp => hE2 p (K9 p hp) fun z => absurd (List.mem_singleton.mp z) (hout S.db (by simp [BankA.all]) p hp)
  have hf2 : (getL (Str.ofString "false_number") es2).isSome = true := by rw [gg2 _ (by decide)]; exact hf
  have gm2 := hF2.1.2.2.2.2.2 "make" (by simp [bankNames])
  have b2 := B2.inst
  k_steps
  have hl9' : (T0 ++ T1).length ≤ 5000 := by have : T0.length = 1 := rfl; omega
  refine' Does.use (make_ok (k := (Str.ofString "false", [], 0, 0)) (S := S) (B2.mono' Evo.cons) hl9' (by decide +kernel) (fun e => s_inj e (by decide)) (List.Mem.head _) .nil) ?d ?e ?f ?g ?h ?i ?j ?k ?l ?_
  case d => k_asm
  case e => k_asm
  case f => k_asm
  case g => k_asm
  case h => k_asm
  case i => rfl
  case j => rfl
  case k => (first | exact room1 (by assumption) (by decide) | (dsimp only [Around.deeper, Around.under, Around.in1]; omega))
  case l => (first | exact room1 (by assumption) (by decide) | (dsimp only [Around.deeper, Around.under, Around.in1]; omega))
  rintro r3 n3 h3 tk3 F3 N3 ⟨i3, ti3, T3, rfl, hB3, hl3, hD3, hi3, hE3⟩
  have hE3' : Evo S.mut X2 n3 := fun p hp q => hE3 p (List.Mem.tail _ hp) q
  have U3 := U2.make B2.apart hE3'
  have m3 := hE3' _ m2 fun z => absurd z (b_mut B2.apart)
  have K3 := keep_evo hE3' (fun a ha => hout a (List.mem_append.mpr (.inl (mut_all ha)))) K2
  k_steps
  refine' bank_set ?F ?X N3 hB3 U3 m3 hF2 (by omega) ?p1 ?p2 ?p3 ?p4 hf2 (.inr rfl) ?_
  case F => k_asm
  case X => k_asm
  case p1 => k_dflt k_is
  case p2 => k_dflt k_is
  case p3 => k_dflt k_is
  case p4 => k_dflt k_is
  intro h4 es4 n4 X4 F4 N4 B4 U4 m4 hF4 hlen4 g4 gg4 hE4
  have K4 : ∀ p ∈ news, p ∈ X4 := fun p hp => hE4 p (K3 p hp) fun z => absurd (List.mem_singleton.mp z) (hout S.db (by simp [BankA.all]) p hp)
  k_steps
  have gt4 := (gg4 (Str.ofString "true_number") (by decide)).trans g2
  exact hret _ _ _ _ (by k_asm) (by k_asm) ⟨rfl, S, _, fn, fa, fr, rfl, B4, by have : T0.length = 1 := rfl; omega,
    ⟨i1, i3, ⟨es4, n4, ti1, ti3, m4, gt4, g4, hF4.1.2.2.2.2.2 _ (by simp [bankNames]), hF4.1.2.2.2.2.2 _ (by simp [bankNames])⟩, (Den.tt hD9).mono T3, Den.ff hD3⟩, U4, K4, hout⟩
end
section
example : True := by
  k_with_none
  (k_with "k_ne" => (refine neN ?_; (try dsimp only); first | exact Nat.ne_of_gt (by with_reducible assumption) | exact Nat.ne_of_lt (by with_reducible assumption) | exact Nat.ne_of_gt (And.left (by with_reducible assumption)) | exact Nat.ne_of_lt (And.left (by with_reducible assumption)) | exact Nat.ne_of_gt (And.left (And.right (by with_reducible assumption))) | exact Nat.ne_of_lt (And.left (And.right (by with_reducible assumption))) | exact Nat.ne_of_gt (And.left (And.right (And.right (by with_reducible assumption)))) | exact Nat.ne_of_lt (And.left (And.right (And.right (by with_reducible assumption)))) | exact Nat.ne_of_gt (And.left (And.right (And.right (And.right (by with_reducible assumption))))) | exact Nat.ne_of_lt (And.left (And.right (And.right (And.right (by with_reducible assumption))))) | exact Nat.ne_of_gt (And.left (And.right (And.right (And.right (And.right (by with_reducible assumption)))))) | exact Nat.ne_of_gt (And.left (And.right (And.right (And.right (And.right (And.right (by with_reducible assumption))))))) | exact Nat.ne_of_gt (And.left (And.right (And.right (And.right (And.right (And.right (And.right (by with_reducible assumption)))))))) | exact Nat.ne_of_gt (And.left (And.right (And.right (And.right (And.right (And.right (And.right (And.right (by with_reducible assumption))))))))) | exact Nat.ne_of_gt (And.left (And.right (And.right (And.right (And.right (And.right (And.right (And.right (And.right (by with_reducible assumption)))))))))) | exact Nat.ne_of_gt (And.left (And.right (And.right (And.right (And.right (And.right (And.right (And.right (And.right (And.right (by with_reducible assumption))))))))))) | exact Nat.ne_of_gt (And.left (And.right (And.right (And.right (And.right (And.right (And.right (And.right (And.right (And.right (And.right (by with_reducible assumption)))))))))))) | exact Nat.ne_of_gt (And.left (And.right (And.right (And.right (And.right (And.right (And.right (And.right (And.right (And.right (And.right (And.right (by with_reducible assumption))))))))))))) | exact Nat.ne_of_gt (And.left (And.right (And.right (And.right (And.right (And.right (And.right (And.right (And.right (And.right (And.right (And.right (And.right (by with_reducible assumption))))))))))))))))
  (k_with "k_mem" => first | assumption | exact mem_upd_self (by k_mem) | exact mem_upd_ne (by k_mem) (by first | assumption | exact Ne.symm (by assumption) | exact ne_of_new (by assumption) (by assumption)) | exact List.Mem.head _ | exact List.Mem.tail _ (by k_mem))
  (k_with "k_get" => with_reducible assumption)
  (k_with "call builtin:len" => (k_dflt (refine' len_lst (by k_asm) (by k_mem) (by (rw [List.length_append]; rfl)) (by (simp only [List.length_cons, List.length_nil]; omega)) ?_); intro _ _))
  (k_with "call builtin:list.append" => (k_dflt (refine' append_upd (by k_asm) (by k_asm) (by k_mem) (by first | decide | omega) ?_); intro _ _ _))
  (k_with "call type:tuple" => ((with_reducible show wpAny _ _ (call (Value.type "tuple") [Value.ref _]) _ _ _); k_dflt (refine' call_tuple_tup (by exact News.isTup (by k_asm) (by k_mem)) ?_)))
  trivial
theorem declare_ok {prog : Program} {w : World} {news : Led} {S : BankA} {Tb : List Key} {fn fa fr a : Addr} {c n : Nat} {x : Str} {t t2 : Tok} (hB : Bank prog w news S Tb) (hU : Funs news S fn fa fr c) (hc : c ≤ 100) (ha : (a, tupO [] n) ∈ news) :
    Does prog w 153 [.ref S.b, .str x t, .ref a, .int 0 t2] 4 20 news (fun r news' => (∃ tk, r = .int c tk) ∧ Funs news' S fn fa fr (c + 1) ∧ Evo [fn, fa, fr] news news') := by
  obtain ⟨⟨es, ne, hd, g1, g2, g3, g4, g5⟩, ⟨v1, n1, a1, b1⟩, ⟨v2, n2, a2, b2⟩, ⟨v3, n3, a3, b3⟩, ⟨p1, p2, p3⟩, hout⟩ := id hU
  have hin := hB.inst
  have o1 := hout fn (by simp)
  have o2 := hout fa (by simp)
  have o3 := hout fr (by simp)
  simp only [BankA.all, List.mem_cons, List.not_mem_nil, or_false, not_or] at o1 o2 o3
  obtain ⟨o11, o12, _⟩ := o1
  obtain ⟨o21, o22, _⟩ := o2
  obtain ⟨o31, o32, _⟩ := o3
  unfold Does
  intro p loose mean mg mb dp un gd env outer A₀ base h₀ L m s R B F X N T hf hke hdp hun hret
  refine' code_def B F X N T rfl hf hke ?k6 ?k7 ?k8 ?k9 ?kB ?_ ?c2 ?c3 ?c4 ?c5
  case k6 => k_dflt k_is
  case k7 => k_dflt k_is
  case k8 => show dp < 1000; omega
  case k9 => exact BindsTo.of_eq rfl
  case c5 => decide
  case kB => exact locs rfl
  case c2 => exact rfl
  case c3 => exact rfl
  case c4 => exact rfl
  intro g' L' h' FG' F' N' B' X' T'
  (try dsimp only)
  (try k_fold)
  have q1 : a ≠ fn := News.ne N ha a1 tup_ne_lst
  have q2 : a ≠ fa := News.ne N ha a2 tup_ne_lst
  have q3 : a ≠ fr := News.ne N ha a3 tup_ne_lst
  have r1 := News.nt N a1 lst_cls
  have r2 := News.nt N a2 lst_cls
  have r3 := News.nt N a3 lst_cls
  k_steps
  refine' len_lst ?a ?b ?c ?d ?_
  case a => k_asm
  case b => k_dflt k_mem
  case c => exact List.length_append
  case d => (simp only [List.length_cons, List.length_nil]; omega)
  intro t9 tk9
  k_steps
  exact hret _ _ _ _ (by k_asm) (by k_asm) ⟨⟨_, congrArg (Value.int · _) (by simp only [List.length_cons, List.length_nil]; omega)⟩,
    ⟨⟨es, ne, by k_dflt k_mem, g1, g2, g3, g4, g5⟩, ⟨_, _, by k_dflt k_mem, by simp [b1]⟩, ⟨_, _, by k_dflt k_mem, by simp [b2]⟩, ⟨_, _, by k_dflt k_mem, by simp [b3]⟩, ⟨p1, p2, p3⟩, hout⟩,
    Evo.upd' (Evo.upd' (Evo.upd' Evo.refl (by simp) r1) (by simp) r2) (by simp) r3⟩
end
section
theorem Evo.tsub {S T : List Addr} {a b : Led} (x : Evo S a b) (h : ∀ q ∈ S, q ∈ T) : Evo T a b := fun p hp q => x p hp fun hs => q (h _ hs)
example : True := by
  k_with_none
  (k_with "k_ne" => (refine neN ?_; (try dsimp only); first | exact Nat.ne_of_gt (by with_reducible assumption) | exact Nat.ne_of_lt (by with_reducible assumption) | exact Nat.ne_of_gt (And.left (by with_reducible assumption)) | exact Nat.ne_of_lt (And.left (by with_reducible assumption)) | exact Nat.ne_of_gt (And.left (And.right (by with_reducible assumption))) | exact Nat.ne_of_lt (And.left (And.right (by with_reducible assumption))) | exact Nat.ne_of_gt (And.left (And.right (And.right (by with_reducible assumption)))) | exact Nat.ne_of_lt (And.left (And.right (And.right (by with_reducible assumption)))) | exact Nat.ne_of_gt (And.left (And.right (And.right (And.right (by with_reducible assumption))))) | exact Nat.ne_of_lt (And.left (And.right (And.right (And.right (by with_reducible assumption))))) | exact Nat.ne_of_gt (And.left (And.right (And.right (And.right (And.right (by with_reducible assumption)))))) | exact Nat.ne_of_gt (And.left (And.right (And.right (And.right (And.right (And.right (by with_reducible assumption))))))) | exact Nat.ne_of_gt (And.left (And.right (And.right (And.right (And.right (And.right (And.right (by with_reducible assumption)))))))) | exact Nat.ne_of_gt (And.left (And.right (And.right (And.right (And.right (And.right (And.right (And.right (by with_reducible assumption))))))))) | exact Nat.ne_of_gt (And.left (And.right (And.right (And.right (And.right (And.right (And.right (And.right (And.right (by with_reducible assumption)))))))))) | exact Nat.ne_of_gt (And.left (And.right (And.right (And.right (And.right (And.right (And.right (And.right (And.right (And.right (by with_reducible assumption))))))))))) | exact Nat.ne_of_gt (And.left (And.right (And.right (And.right (And.right (And.right (And.right (And.right (And.right (And.right (And.right (by with_reducible assumption)))))))))))) | exact Nat.ne_of_gt (And.left (And.right (And.right (And.right (And.right (And.right (And.right (And.right (And.right (And.right (And.right (And.right (by with_reducible assumption))))))))))))) | exact Nat.ne_of_gt (And.left (And.right (And.right (And.right (And.right (And.right (And.right (And.right (And.right (And.right (And.right (And.right (And.right (by with_reducible assumption))))))))))))))))
  (k_with "k_mem" => assumption)
  (k_with "k_get" => assumption)
  (k_with "ktd_rel" => first | exact Evo.refl | assumption | (refine Evo.then ?_; ktd_rel))
  (k_with "call ref" => ((with_reducible show wpAny _ _ (call (Value.ref 153) _ _) _ _ _); k_dflt (refine' Does.on (by k_asm) (by k_asm) (by k_asm) (by k_asm) (by k_asm) (declare_ok (by exact Bank.mono' (by assumption) (by ktd_rel)) (by exact Funs.mono (X := []) (by assumption) (by ktd_rel) List.not_mem_nil List.not_mem_nil List.not_mem_nil List.not_mem_nil) (by assumption) (by exact List.Mem.head _)) rfl rfl (by (first | (first | exact room1 (by assumption) (by decide) | exact room0 (by assumption) (by decide) | (dsimp only [Around.deeper, Around.under, Around.in1]; omega)) | decide | omega)) (by (first | (first | exact room1 (by assumption) (by decide) | exact room0 (by assumption) (by decide) | (dsimp only [Around.deeper, Around.under, Around.in1]; omega)) | decide | omega)) ?_); rintro _ _ _ _ _ _ ⟨⟨_, e9⟩, _, _⟩; subst e9))
  trivial
theorem fresh_ok {prog : Program} {w : World} {news : Led} {S : BankA} {Tb : List Key} {fn fa fr : Addr} {c : Nat} {x : Str} {t t2 : Tok} (hB : Bank prog w news S Tb) (hT : Tb.length ≤ 100) (hU : Funs news S fn fa fr c) (hc : c ≤ 100) :
    Does prog w 167 [.ref S.b, .str x t, .int 0 t2] 8 60 news (fun r news' => ∃ (i : Nat) (tk : Tok) (T' : List Key), r = .int i tk ∧ Bank prog w news' S (Tb ++ T') ∧ (Tb ++ T').length ≤ Tb.length + 1 ∧ (Tb ++ T')[i]? = some (Str.ofString "app", [], 0, (c : Int)) ∧ Funs news' S fn fa fr (c + 1) ∧ Evo (S.mut ++ [fn, fa, fr]) news news') := by
  obtain ⟨es, ne, hd, g1, g2, g3, g4, g5⟩ := hU.dict
  have hin := hB.inst
  unfold Does
  intro p loose mean mg mb dp un gd env outer A₀ base h₀ L m s R B F X N T hf hke hdp hun hret
  refine' code_def B F X N T rfl hf hke ?k6 ?k7 ?k8 ?k9 ?kB ?_ ?c2 ?c3 ?c4 ?c5
  case k6 => k_dflt k_is
  case k7 => k_dflt k_is
  case k8 => show dp < 1000; omega
  case k9 => exact BindsTo.of_eq rfl
  case c5 => decide
  case kB => exact locs rfl
  case c2 => exact rfl
  case c3 => exact rfl
  case c4 => exact rfl
  intro g' L' h' FG' F' N' B' X' T'
  (try dsimp only)
  (try k_fold)
  k_steps
  rename_i D1 h1 l1 D2 h2 F2 N2 l2 n9 h9 tk9 F9 N9 t9 hU9 hE9
  have out9 : ∀ a ∈ S.all, a ∉ [fn, fa, fr] := fun a ha z => hU.out a z ha
  have E9 : Evo [fn, fa, fr] news n9 := fun p hp q => hE9 p (List.Mem.tail _ (List.Mem.tail _ hp)) q
  have B9 := hB.mono out9 E9
  have mD := hE9.tup (List.Mem.tail _ (List.Mem.head _))
  refine' Does.use (make_ok (k := (Str.ofString "app", [], 0, (c : Int))) (S := S) B9 (by omega) (show PyData.strOk (Str.ofString "app") = true by decide +kernel) (fun e => s_inj e (by decide)) mD .nil) ?d ?e ?f ?g ?h ?i ?j ?k ?l ?_
  case d => k_asm
  case e => k_asm
  case f => k_asm
  case g => k_asm
  case h => k_asm
  case i => rfl
  case j => rfl
  case k => (first | exact room1 (by assumption) (by decide) | (dsimp only [Around.deeper, Around.under, Around.in1]; omega))
  case l => (first | exact room1 (by assumption) (by decide) | (dsimp only [Around.deeper, Around.under, Around.in1]; omega))
  rintro r3 n3 h3 tk3 F3 N3 ⟨i3, ti3, T3, rfl, hB3, hl3, hD3, hi3, hE3⟩
  k_steps
  exact hret _ _ _ _ (by k_asm) (by k_asm) ⟨i3, ti3, T3, rfl, hB3, hl3, hD3, hU9.make hB.apart hE3, (E9.tsub fun q hq => List.mem_append.mpr (.inr hq)).trans (hE3.tsub fun q hq => List.mem_append.mpr (.inl hq))⟩
end
section
example : True := by
  k_with_none
  (k_with "k_ne" => (refine neN ?_; (try dsimp only); first | exact Nat.ne_of_gt (by with_reducible assumption) | exact Nat.ne_of_lt (by with_reducible assumption) | exact Nat.ne_of_gt (And.left (by with_reducible assumption)) | exact Nat.ne_of_lt (And.left (by with_reducible assumption)) | exact Nat.ne_of_gt (And.left (And.right (by with_reducible assumption))) | exact Nat.ne_of_lt (And.left (And.right (by with_reducible assumption))) | exact Nat.ne_of_gt (And.left (And.right (And.right (by with_reducible assumption)))) | exact Nat.ne_of_lt (And.left (And.right (And.right (by with_reducible assumption)))) | exact Nat.ne_of_gt (And.left (And.right (And.right (And.right (by with_reducible assumption))))) | exact Nat.ne_of_lt (And.left (And.right (And.right (And.right (by with_reducible assumption))))) | exact Nat.ne_of_gt (And.left (And.right (And.right (And.right (And.right (by with_reducible assumption)))))) | exact Nat.ne_of_gt (And.left (And.right (And.right (And.right (And.right (And.right (by with_reducible assumption))))))) | exact Nat.ne_of_gt (And.left (And.right (And.right (And.right (And.right (And.right (And.right (by with_reducible assumption)))))))) | exact Nat.ne_of_gt (And.left (And.right (And.right (And.right (And.right (And.right (And.right (And.right (by with_reducible assumption))))))))) | exact Nat.ne_of_gt (And.left (And.right (And.right (And.right (And.right (And.right (And.right (And.right (And.right (by with_reducible assumption)))))))))) | exact Nat.ne_of_gt (And.left (And.right (And.right (And.right (And.right (And.right (And.right (And.right (And.right (And.right (by with_reducible assumption))))))))))) | exact Nat.ne_of_gt (And.left (And.right (And.right (And.right (And.right (And.right (And.right (And.right (And.right (And.right (And.right (by with_reducible assumption)))))))))))) | exact Nat.ne_of_gt (And.left (And.right (And.right (And.right (And.right (And.right (And.right (And.right (And.right (And.right (And.right (And.right (by with_reducible assumption))))))))))))) | exact Nat.ne_of_gt (And.left (And.right (And.right (And.right (And.right (And.right (And.right (And.right (And.right (And.right (And.right (And.right (And.right (by with_reducible assumption))))))))))))))))
  (k_with "k_all" => exact all_ne (by assumption))
  trivial
theorem chk_init_ok {prog : Program} {w : World} {news : Led} {c dc b nm as' em : Addr} (hl : ∀ p ∈ news, p.1 < dc) (hb : @LT.lt Nat _ dc c) :
    Does prog w 432 [.ref c, .ref b, .ref nm, .ref as', .ref em] 5 60 ((c, instObj 544 dc) :: (dc, dictOf [] 0) :: news) (fun r news' => r = .none ∧ (c, instObj 544 dc) ∈ news' ∧ (∃ es n, (dc, dictOf es n) ∈ news' ∧ getL "bank" es = some (some (.ref b)) ∧ getL "names" es = some (some (.ref nm)) ∧ getL "assertions" es = some (some (.ref as')) ∧ ∀ x ∈ chkNames, getL x es = some none) ∧ ∀ p ∈ news, p ∈ news') := by
  unfold Does
  intro p loose mean mg mb dp un gd env outer A₀ base h₀ L m s R B F X N T hf hke hdp hun hret
  refine' code_def B F X N T rfl hf hke ?k6 ?k7 ?k8 ?k9 ?kB ?_ ?c2 ?c3 ?c4 ?c5
  case k6 => k_dflt k_is
  case k7 => k_dflt k_is
  case k8 => show dp < 1000; omega
  case k9 => exact BindsTo.of_eq rfl
  case c5 => decide
  case kB => exact locs rfl
  case c2 => exact rfl
  case c3 => exact rfl
  case c4 => exact rfl
  intro g' L' h' FG' F' N' B' X' T'
  (try dsimp only)
  (try k_fold)
  k_steps
  exact hret _ _ _ _ (by k_asm) (by k_asm) ⟨rfl, List.Mem.head _, ⟨_, _, List.Mem.tail _ (List.Mem.head _), by k_dflt k_get, by k_dflt k_get, by k_dflt k_get, fun x hx => by
      simp only [chkNames, List.mem_cons, List.not_mem_nil, or_false] at hx
      rcases hx with rfl | rfl | rfl | rfl | rfl | rfl | rfl <;> k_dflt k_get⟩, fun p hp => List.Mem.tail _ (List.Mem.tail _ hp)⟩
end
section
-- nofill
section
open PyProof.Rows.LCg
variable {prog : Program} {w : World} {A : Around} {E : Value → Shared → Prop} {s : Shared} {h₀ : Heap} {env : Env}
def ItersL (prog : Program) (w : World) (A : Around) (h₀ : Heap) (L : Addr) (xv : Value) (s₁ : Shared) (S : List Addr) (X₀ : Led) (n : Nat) (P : Nat → Value → Prop) : Prop :=
  ∀ (Q' : Value → Shared → Prop) (E' : Value → Shared → Prop),
    (∀ I fp St h₂, Walks prog w A I fp [I] n P St → (∀ i h, St i h → ∃ o, h.get? I = some o ∧ ¬ IsT o ∧ o.cls ≠ .type "list") → (∀ i h h' o Y, St i h → h.get? I = some o → h'.get? I = some o → News h₀ L h' Y → Evo S X₀ Y → St i h') → St 0 h₂ → (∀ b ∈ fp, b < h₂.objs.size) →
      (∀ b o, s₁.heap.get? b = some o → h₂.get? b = some o) → I = s₁.heap.objs.size → (∀ b ∈ fp, b = I ∨ ∃ o, (b, o) ∈ X₀ ∧ (b ∈ S → IsT o)) → Q' (.ref I) { s₁ with heap := h₂ }) → wpAny (model prog w) A (pyIter xv) Q' E' s₁
def HoldsL (X₀ : Led) (J : Nat → (Str → Option Value) → Led → Prop) : Prop := ∀ i m Y Y' S₃, (∀ p ∈ X₀, p.1 ∉ S₃) → (∀ p ∈ Y, p.1 ∈ S₃ → p.2.cls ≠ .type "list") → Evo S₃ Y Y' → J i m Y → J i m Y'
def ForJL (prog : Program) (w : World) (A : Around) (h₀ : Heap) (env : Env) (x : Str) (body : List Stmt) (Q : Flow → Shared → Prop) (E : Value → Shared → Prop) (xv : Value) (s₁ : Shared) : Prop :=
  ∃ X₀ S n P m₀ J, ItersL prog w A h₀ env.locals xv s₁ S X₀ n P ∧ Fr h₀ env.locals s₁.heap m₀ ∧ News h₀ env.locals s₁.heap X₀ ∧ (∀ a ∈ S, ∃ o, (a, o) ∈ X₀) ∧ J 0 m₀ X₀ ∧ HoldsL X₀ J ∧
    (∀ g, ForTurn prog w A h₀ env x body { s₁ with heap := g } S X₀ n P J Q E) ∧ ∀ h tk m' Y, J n m' Y → Evo S X₀ Y → Fr h₀ env.locals h m' → News h₀ env.locals h Y → Q .next { s₁ with heap := h, toks := tk }
theorem for_ledL {x : Str} {px pos : Pos} {iter : Expr} {body : List Stmt} {Q : Flow → Shared → Prop} {m : Str → Option Value} (_F₀ : Fr h₀ env.locals s.heap m) (hx : env.kindOf x = some .local)
    (hp : (env.scope.kind == .class || (env.scope.kind == .module && env.locals != env.globals)) = false)
    (h : wpAny (model prog w) A (eval iter env) (ForJL prog w A h₀ env x body Q E) E s)
    (hs : ∀ x, foldedSetIterable iter env x = pure x := by intro _; rfl)
    (hE : PassesOwn (model prog w) A env E := by passes_own) :
    wpAny (model prog w) A (exec (.For (.Name x px) iter body [] pos) env) Q E s := by
  refine For_invV h₀ hx hp (wpAny_mono h (fun xv s₁ h₁ => ?_) fun _ _ e => e) hs hE
  obtain ⟨X₀, S, n, P, m₀, J, hI, F, N, hS, hJ0, hmono, turn, fin⟩ := h₁
  refine hI _ _ fun I fp St h₂ W hIo hSt hst hfp up hIe hfo => ?_
  have offX : ∀ p ∈ X₀, p.1 ≠ I := fun p hp e => Nat.lt_irrefl I (by have := Heap.lt_size (N p hp).1; rw [← hIe, e] at this; exact this)
  have hIL : env.locals ≠ I := hIe ▸ Nat.ne_of_lt F.ns.lt
  have hI₀ : h₀.get? I = none := hIe ▸ next_is_new F
  have hIS : I ∉ S := fun z => let ⟨o, ho⟩ := hS I z; offX _ ho rfl
  refine ⟨I, fp, [I], n, P, St, m₀, X₀, fun i m Y => J i m Y ∧ Evo S X₀ Y, rfl, W, fun z => ?_, fun b hb => by rw [List.mem_singleton.mp hb]; exact hI₀, fun p hp z => offX p hp (List.mem_singleton.mp z), hst, F.keeps up, N.grown up, ⟨hJ0, Evo.refl⟩, ?_, ?_⟩
  · rcases hfo _ z with e | ⟨o, ho, _⟩
    · exact hIL e
    · exact (N _ ho).2.1 rfl
  · rintro i v m₁ Y s₂ own ⟨hh, tk, rfl⟩ hi hP ⟨hJ, hE'⟩ hoff hown hget hall hst' F' N'
    have eR : Evo [] Y (own ++ Y) := fun p hp _ => List.mem_append.mpr (.inr hp)
    refine wpAny_mono (turn h₂ i v m₁ (own ++ Y) hh tk hi hP (hmono _ _ _ _ [] (fun _ _ z => nomatch z) (fun _ _ z => nomatch z) eR hJ) (hE'.trans (Evo.nil eR)) F' N') (fun f s' hf => ?_) fun _ _ e => e
    have fin2 : (∃ h' tk' m' Y', s' = { { s₁ with heap := h₂ } with heap := h', toks := tk' } ∧ Fr h₀ env.locals h' m' ∧ News h₀ env.locals h' Y' ∧ Evo S (own ++ Y) Y' ∧ J (i + 1) m' Y') →
        LoopStepU h₀ env.locals [I] own (fun m Y => J (i + 1) m Y ∧ Evo S X₀ Y) { { s₁ with heap := h₂ } with heap := hh, toks := tk } .next s' := by
      rintro ⟨h', tk', m', Y', rfl, F₃, N₃, E₃, hJ₃⟩
      have keepOwn : ∀ p ∈ own, p ∈ Y' := by
        rintro ⟨b, oo⟩ hp
        rcases hfo _ (hown _ hp) with e | ⟨o, ho, hT⟩
        · exact E₃ _ (List.mem_append.mpr (.inl hp)) fun z => absurd (e ▸ z) hIS
        · have hY := hE' _ ho hT
          obtain rfl : oo = o := News.same N' (List.mem_append.mpr (.inl hp)) (List.mem_append.mpr (.inr hY))
          exact E₃ _ (List.mem_append.mpr (.inl hp)) hT
      obtain ⟨oI, hoI, hTI, hLI⟩ := hIo _ _ hst'
      have mI := keepOwn _ (hall I (W.sub I (List.mem_singleton.mpr rfl)) hI₀ oI hoI)
      have eF : Evo [I] Y' (Y'.filter fun p => p.1 ≠ I) := fun p hp q => List.mem_filter.mpr ⟨hp, decide_eq_true fun e => by
        obtain ⟨b, ob⟩ := p
        obtain rfl : b = I := e
        exact hTI (News.same N₃ hp mI ▸ q (List.mem_singleton.mpr rfl))⟩
      exact ⟨rfl, h', tk', m', Y'.filter fun p => p.1 ≠ I, rfl, F₃, fun p hp => (List.mem_append.mp hp).elim (fun z => N₃ p (keepOwn p z)) fun z => N₃ p (List.mem_filter.mp z).1,
        fun p hp z => (of_decide_eq_true (List.mem_filter.mp hp).2) (List.mem_singleton.mp z), hmono _ _ _ _ [I] (fun p hp z => offX p hp (List.mem_singleton.mp z)) (fun p hp z => by obtain ⟨b, ob⟩ := p; obtain rfl : b = I := List.mem_singleton.mp z; rw [News.same N₃ hp mI]; exact hLI) eF hJ₃,
        fun p hp q => eF p ((hE'.trans (Evo.nil eR)).trans E₃ p hp q) fun z => absurd (List.mem_singleton.mp z) (offX p hp)⟩
    cases f with
    | ret v => exact hf
    | brk => exact hf
    | next => exact fin2 hf
    | cont => exact fin2 hf
  · rintro h' tk m' Y F' N' _ ⟨hJ, hE'⟩
    exact fin h' tk m' Y hJ hE' F' N'
theorem itersL_range {L : Addr} {r : Addr} {a b : Int} {t u v : Tok} {n : Nat} {S : List Addr} {X₀ : Led} (hh : A.handled = none) (hr : IsRange s.heap r a b 1 t u v) (hsm : Builtin.Range.small a b 1 = true) (hn : Builtin.Range.rangeSize a b 1 = ((n : Nat) : Int)) :
    ItersL prog w A h₀ L (.ref r) s S X₀ n (fun i v => ∃ t, v = .int (a + (i : Int)) t) := fun Q' E' k => by
  refine wpAny_pyIter_range hr hsm (k s.heap.objs.size [s.heap.objs.size] (fun i h => IsRangeIter h s.heap.objs.size (a + (i : Nat) * 1) ((n : Int) - (i : Nat)) 1) _ (range_walks hh a n)
    (fun i h st => ⟨_, st, notT_cls (by show Value.type "range_iterator" ≠ Value.type "tuple"; decide), by show Value.type "range_iterator" ≠ Value.type "list"; decide⟩) (fun i h h' o Y st e e' N' hE => ?_) (by show IsRangeIter _ _ _ _ _; rw [hn]; simpa using Heap.get?_push_size _ rfl) (fun b hb => ?_) (fun b o e => Heap.get?_push_of_some _ e) rfl fun b hb => .inl (List.mem_singleton.mp hb))
  · have st' : h.get? s.heap.objs.size = some _ := st
    show h'.get? s.heap.objs.size = some _
    rw [e', ← e]; exact st'
  · rw [List.mem_singleton.mp hb]
    show s.heap.objs.size < (s.heap.push _).objs.size
    rw [Heap.size_push]; exact Nat.lt_succ_self _
end
end
section
-- nofill
/-- the law's own text, out of the written part of the heap -/
noncomputable def lawOf (w : World) : List Stmt × Scope := match (hd.heap_1 w.params).lookup 606 with
  | some o => (match o.data with
    | .func f => ((match f.body with | .stmts b => b | .expr _ => []), f.scope)
    | _ => ([], { kind := .function, names := [], isGenerator := false, isCoroutine := false }))
  | none => ([], { kind := .function, names := [], isGenerator := false, isCoroutine := false })
theorem with_own {M : Model} {A : Around} {env : Env} {Q : Flow → Shared → Prop} {E : Value → Shared → Prop} {b : List Stmt} {s : Shared} (hE : PassesOwn M A env E) (h : PassesOwn M A env E → wpAny M A (execs b env) Q E s) : wpAny M A (execs b env) Q E s := h hE
section
variable {prog : Program} {w : World} {A : Around} {E : Value → Shared → Prop} {s : Shared} {h₀ : Heap} {L a b : Addr} {m : Str → Option Value} {news : Led} {vs ws : List Value} {n n2 : Nat} {Q : Value → Shared → Prop}
theorem cat_lst (F : Fr h₀ L s.heap m) (N : News h₀ L s.heap news) (ha : (a, lstO vs n) ∈ news) (hb : (b, lstO ws n2) ∈ news) (hz : vs.length + ws.length ≤ 10000)
    (h : ∀ D h', Fr h₀ L h' m → News h₀ L h' ((D, lstO (vs ++ ws) 0) :: news) → (∀ p ∈ news, p.1 < D) → Q (.ref D) { s with heap := h' }) : wpAny (model prog w) A (binaryOp .Add (.ref a) (.ref b)) Q E s :=
  kmk_add_lit F N (News.isList N ha) (News.isList N hb) rfl h (by rw [sizeLine_eq]; show vs.length + ws.length ≤ _; omega)
end
/-- a clause as the law makes it -/
def ClV (Y : Led) (n : Nat) (v : Value) : Prop := ∃ cl ps its nc, v = .ref cl ∧ (cl, tupO its nc) ∈ Y ∧ All2 LitIs ps its ∧ (∀ p ∈ ps, p.1 < n) ∧ its.length ≤ 100 ∧ asc 0 ps = true
theorem ClV.mono {S : List Addr} {Y Y' : Led} {n : Nat} {v : Value} (e : Evo S Y Y') (h : ClV Y n v) : ClV Y' n v :=
  let ⟨cl, ps, its, nc, h1, h2, h3⟩ := h; ⟨cl, ps, its, nc, h1, e.tup h2, h3⟩
theorem range_small {n : Nat} (hn : n ≤ 100000) : Builtin.Range.rangeSize 0 (n : Int) 1 = ((n : Nat) : Int) ∧ Builtin.Range.small 0 (n : Int) 1 = true := by
  have h1 : Builtin.Range.rangeSize 0 (n : Int) 1 = ((n : Nat) : Int) := by
    unfold Builtin.Range.rangeSize
    rw [if_pos (by decide)]
    split <;> omega
  refine ⟨h1, ?_⟩
  have key : ∀ i : Int, 0 ≤ i → i ≤ 1000000 → Builtin.Range.rangeFitsLong i = true := fun i h1 h2 => by
    unfold Builtin.Range.rangeFitsLong
    rw [Bool.and_eq_true]
    exact ⟨decide_eq_true (by omega), decide_eq_true (by omega)⟩
  unfold Builtin.Range.small
  rw [h1, key 0 (by omega) (by omega), key (n : Int) (by omega) (by omega), key 1 (by omega) (by omega), if_pos (by decide), key ((n : Int) + (1 - 1)) (by omega) (by omega)]
  simp
def IntVs (us : List Value) (n : Nat) : Prop := (∀ v ∈ us, ∃ (k : Int) (t : Tok), v = .int k t) ∧ us.length = n
theorem list_upto {prog : Program} {w : World} {A : Around} {E : Value → Shared → Prop} {s : Shared} {h₀ : Heap} {L r : Addr} {m : Str → Option Value} {news : Led} {b : Int} {t u v : Tok} {n : Nat} {Q : Value → Shared → Prop}
    (hh : A.handled = none) (F : Fr h₀ L s.heap m) (N : News h₀ L s.heap news) (hr : IsRange s.heap r 0 b 1 t u v) (hb : b = (n : Int)) (hn : n ≤ 100000)
    (h : ∀ D us c h' tk, Fr h₀ L h' m → News h₀ L h' ((D, lstO us c) :: news) → (∀ p ∈ news, p.1 < D) → IntVs us n → Q (.ref D) { s with heap := h', toks := tk }) :
    wpAny (model prog w) A (call (.type "list") [.ref r]) Q E s := by
  subst hb
  obtain ⟨h1, h2⟩ := range_small hn
  refine kll_range hh F N hr h2 h1 (by omega) fun D us c h' tk F' N' l1 hI => h D us c h' tk F' N' l1 ⟨fun v hv => let ⟨_, e⟩ := List.mem_iff_getElem?.mp hv; ints_at hI e, ?_⟩
  rw [IntsAre.length hI]
  simp [rangeKs]
theorem note_all {Y : Led} {us : List Value} {n i c1 c2 : Nat} {v : Value} {k k2 k3 : Int} {t t1 t2 t3 : Tok} {x : Str} {a b : Addr} (h : IntVs us n) (e : (us ++ [.int k t, .bool true, .bool false, .none, .str x t1, .ref a, .ref b])[i]? = some v)
    (ha : (a, tupO [.int k2 t2] c1) ∈ Y) (hb : (b, lstO [.int k3 t3] c2) ∈ Y) : ∃ k, NoteV Y v k := by
  rcases List.mem_append.mp (List.mem_of_getElem? e) with h1 | h1
  · obtain ⟨n, t, rfl⟩ := h.1 v h1
    exact ⟨_, .int n t⟩
  · simp only [List.mem_cons, List.not_mem_nil, or_false] at h1
    rcases h1 with rfl | rfl | rfl | rfl | rfl | rfl | rfl
    · exact ⟨_, .int _ _⟩
    · exact ⟨_, .bool _⟩
    · exact ⟨_, .bool _⟩
    · exact ⟨_, .none⟩
    · exact ⟨_, .str _ _⟩
    · exact ⟨_, .tup ha⟩
    · exact ⟨_, .lst hb⟩
theorem itersL_upto {prog : Program} {w : World} {A : Around} {s : Shared} {h₀ : Heap} {L r : Addr} {b : Int} {t u v : Tok} {n : Nat} {S : List Addr} {X₀ : Led} (hh : A.handled = none) (hr : IsRange s.heap r 0 b 1 t u v) (hb : b = (n : Int)) (hn : n ≤ 100000) :
    ItersL prog w A h₀ L (.ref r) s S X₀ n (fun i v => ∃ t, v = .int (i : Int) t) := by
  subst hb
  obtain ⟨h1, h2⟩ := range_small hn
  have h := itersL_range (prog := prog) (w := w) (A := A) (h₀ := h₀) (L := L) (S := S) (X₀ := X₀) hh hr h2 h1
  simpa only [Int.zero_add] using h
end
section
example : True := by
  k_with_none
  (k_with "k_ne" => (refine neN ?_; (try dsimp only); first | exact Nat.ne_of_gt (by with_reducible assumption) | exact Nat.ne_of_lt (by with_reducible assumption) | exact Nat.ne_of_gt (And.left (by with_reducible assumption)) | exact Nat.ne_of_lt (And.left (by with_reducible assumption)) | exact Nat.ne_of_gt (And.left (And.right (by with_reducible assumption))) | exact Nat.ne_of_lt (And.left (And.right (by with_reducible assumption))) | exact Nat.ne_of_gt (And.left (And.right (And.right (by with_reducible assumption)))) | exact Nat.ne_of_lt (And.left (And.right (And.right (by with_reducible assumption)))) | exact Nat.ne_of_gt (And.left (And.right (And.right (And.right (by with_reducible assumption))))) | exact Nat.ne_of_lt (And.left (And.right (And.right (And.right (by with_reducible assumption))))) | exact Nat.ne_of_gt (And.left (And.right (And.right (And.right (And.right (by with_reducible assumption)))))) | exact Nat.ne_of_gt (And.left (And.right (And.right (And.right (And.right (And.right (by with_reducible assumption))))))) | exact Nat.ne_of_gt (And.left (And.right (And.right (And.right (And.right (And.right (And.right (by with_reducible assumption)))))))) | exact Nat.ne_of_gt (And.left (And.right (And.right (And.right (And.right (And.right (And.right (And.right (by with_reducible assumption))))))))) | exact Nat.ne_of_gt (And.left (And.right (And.right (And.right (And.right (And.right (And.right (And.right (And.right (by with_reducible assumption)))))))))) | exact Nat.ne_of_gt (And.left (And.right (And.right (And.right (And.right (And.right (And.right (And.right (And.right (And.right (by with_reducible assumption))))))))))) | exact Nat.ne_of_gt (And.left (And.right (And.right (And.right (And.right (And.right (And.right (And.right (And.right (And.right (And.right (by with_reducible assumption)))))))))))) | exact Nat.ne_of_gt (And.left (And.right (And.right (And.right (And.right (And.right (And.right (And.right (And.right (And.right (And.right (And.right (by with_reducible assumption))))))))))))) | exact Nat.ne_of_gt (And.left (And.right (And.right (And.right (And.right (And.right (And.right (And.right (And.right (And.right (And.right (And.right (And.right (by with_reducible assumption))))))))))))))))
  (k_with "k_mem" => first | assumption | exact List.Mem.head _ | exact List.Mem.tail _ (by k_mem) | exact Evo.mem (by assumption) (by k_mem))
  (k_with "k_get" => assumption)
  (k_with "ktd_rel" => first | exact Evo.refl | assumption | (refine Evo.then ?_; ktd_rel) | (refine Evo.trans ?_ (by assumption); ktd_rel))
  (k_with "eval Name" => (k_dflt (refine' nameX_L (by k_asm) (by first | assumption | exact (if_pos rfl) | ((refine (if_neg (by decide)).trans ?_); first | assumption | exact (if_pos rfl) | ((refine (if_neg (by decide)).trans ?_); assumption))) ?_ (by rfl) (by rfl) (by decide); k_whole)))
  (k_with "exec For" => (k_dflt (refine for_led (by k_asm) (by rfl) (by rfl) ?_ (by intro _; rfl) (by assumption))))
  (k_with "exec For Name Name cons nil" => (k_dflt (refine for_led (by k_asm) (by rfl) (by rfl) ?_ (by intro _; rfl) (by assumption))))
  (k_with "exec For Name BinOp cons nil" => (k_dflt (refine for_led (by k_asm) (by rfl) (by rfl) ?_ (by intro _; rfl) (by assumption))))
  (k_with "call builtin:len" => (k_dflt (refine' len_lst (by k_asm) (by k_mem) (by assumption) (by omega) ?_)))
  (k_with "call type:range" => (k_dflt (refine' range1_rows (by k_asm) (by k_asm) ?_); intro _ _ _ _ _ _ _ _ _))
  (k_with "call type:list" => (k_dflt (refine' list_upto rfl (by k_asm) (by k_asm) (by assumption) (by norm_cast) (by omega) ?_); intro _ _ _ _ _ _ _ _ _))
  (k_with "binaryOp Add ref ref" => (k_dflt (refine' cat_lst (by k_asm) (by k_asm) (by k_mem) (by k_mem) (by first | omega | (dsimp only [List.length]; omega)) ?_); intro _ _ _ _ _))
  (k_with "call ref" => ((with_reducible show wpAny _ _ (call (Value.ref 601) _ _) _ _ _); k_dflt (refine' Does.on (by k_asm) (by k_asm) (by k_asm) (by k_asm) (by k_asm) (is_right_ok (by assumption) (by assumption) (by assumption) (by assumption) (by assumption) (by assumption) (by assumption) (by assumption) (by assumption) (by assumption) (by assumption) (by assumption) (by assumption) (by assumption) (by assumption)) rfl rfl (by (first | (first | exact room1 (by assumption) (by decide) | exact room0 (by assumption) (by decide) | (dsimp only [Around.deeper, Around.under, Around.in1]; omega)) | decide | omega)) (by (first | (first | exact room1 (by assumption) (by decide) | exact room0 (by assumption) (by decide) | (dsimp only [Around.deeper, Around.under, Around.in1]; omega)) | decide | omega)) ?_); rintro _ _ _ _ _ _ ⟨e9, _⟩; subst e9))
  trivial
theorem law11 {w : World} {p : Program} {loose : List Str} {mean : ExcName → Option Value} {mg mb : Str → Option Value} {h₀ h : Heap} {L fa : Addr} {cd : Value} {qk : Flow → Shared → Prop} {ek : Value → Shared → Prop} {s1 : Shared} {tk : Tok} {m : Str → Option Value} {Y : Led} {body : List Stmt} {scope : Scope}
    (hb : body = (lawOf w).1.drop 11) (hsc : scope = (lawOf w).2) (KX : (hd.heap_1 w.params).In h₀) (T : Top p loose mean mg mb h₀) (K0 : Below callerA h₀ [] h₀)
    (hEk : PassesOwn (model PySem.Challenge.rw_qz0015_01.row.prog w) (callerA.deeper (envOfC (Str.ofString "law") scope L fa cd)) (envOfC (Str.ofString "law") scope L fa cd) ek)
    (F : Fr h₀ L h m) (N : News h₀ L h Y)
    {S : BankA} {Tb : List Key} {C : ChkA} {named told : List Sh} {tv nv cvs : List Value} {nc nt nn : Nat} {lc lt ln : Addr}
    (m1 : m (Str.ofString "checker") = some (.ref C.c)) (m2 : m (Str.ofString "told") = some (.ref lt)) (m3 : m (Str.ofString "named") = some (.ref ln)) (m4 : m (Str.ofString "clauses") = some (.ref lc))
    (hK : Chk PySem.Challenge.rw_qz0015_01.row.prog w Y S Tb C named told) (hlc : (lc, lstO cvs nc) ∈ Y) (hcv : ∀ v ∈ cvs, ClV Y named.length v) (hcl : cvs.length ≤ 100)
    (ht : (lt, lstO tv nt) ∈ Y) (htv : ShsIn Y told tv) (hn : (ln, lstO nv nn) ∈ Y) (hnv : ShsIn Y named nv) (hd1 : ∀ x ∈ told, x.dp ≤ 50) (hd2 : ∀ x ∈ named, x.dp ≤ 50)
    (hz : named.length ≤ 100) (hz3 : told.length ≤ 100)
    (hend : ∀ h' m tk, Fr h₀ L h' m → qk (.ret (.bool true)) { s1 with heap := h', toks := tk }) :
    wpAny (model PySem.Challenge.rw_qz0015_01.row.prog w) (callerA.deeper (envOfC (Str.ofString "law") scope L fa cd)) (execs body (envOfC (Str.ofString "law") scope L fa cd)) qk ek { s1 with heap := h, toks := tk } := by
  have hlt := htv.len.symm
  conv at hb => rhs; whnf
  conv at hsc => rhs; whnf
  subst hb hsc
  (try k_fold)
  (try dsimp only)
  k_steps
  refine ⟨_, [], cvs.length, fun i v => cvs[i]? = some v, _, fun _ m _ => m (Str.ofString "checker") = some (.ref C.c) ∧ m (Str.ofString "told") = some (.ref lt) ∧ m (Str.ofString "named") = some (.ref ln), iters_list rfl N hlc List.not_mem_nil, F, N, (fun _ h => nomatch h), ⟨m1, m2, m3⟩, (fun _ _ _ _ _ _ _ h => h), ?_, ?_⟩
  · intro g i v m' Y' h' tk' hi hP hJ hE F N
    obtain ⟨m1, m2, m3⟩ := hJ
    obtain ⟨cl, ps, its, nc', rfl, c1, c2, c3, c4, c5⟩ := hcv v (List.mem_of_getElem? hP)
    have c1 := hE.tup c1
    have ht2 := Evo.mem hE ht
    have hn2 := Evo.mem hE hn
    have hK2 := hK.mono hE
    have htv2 := htv.mono hE
    have hnv2 := hnv.mono hE
    change Fr h₀ L h' _ at F
    change News h₀ L h' _ at N
    try k_fold
    k_steps
    rename_i hL us c hh tkL l1 hU D2 h2 l2 l3 h3 l4 l5 h5 F5 N5 l6
    have hUl := hU.2
    refine cat_lst F5 N5 (List.Mem.tail _ (List.Mem.tail _ (List.Mem.tail _ (List.Mem.head _)))) (List.Mem.head _) (by simp only [List.length_cons, List.length_nil]; omega) fun D6 h6 F6 N6 l7 => ?_
    refine ⟨_, [], _, _, _, fun _ m _ => m (Str.ofString "checker") = some (.ref C.c) ∧ m (Str.ofString "told") = some (.ref lt) ∧ m (Str.ofString "named") = some (.ref ln) ∧ m (Str.ofString "clause") = some (.ref cl), iters_list rfl N6 (List.Mem.head _) List.not_mem_nil, F6, N6, (fun _ h => nomatch h), ⟨(if_neg (by decide)).trans m1, (if_neg (by decide)).trans m2, (if_neg (by decide)).trans m3, if_pos rfl⟩, (fun _ _ _ _ _ _ _ h => h), ?_, ?_⟩
    · intro g i v m' Y2 h' tk' hi hP hJ hE2 F N
      change Fr h₀ L h' _ at F
      change News h₀ L h' _ at N
      obtain ⟨m1, m2, m3, m4⟩ := hJ
      obtain ⟨k, hv⟩ := note_all hU hP (Evo.mem hE2 (List.Mem.tail _ (List.Mem.tail _ (List.Mem.tail _ (List.Mem.head _))))) (Evo.mem hE2 (List.Mem.tail _ (List.Mem.tail _ (List.Mem.head _))))
      have hE3 : Evo [] Y' Y2 := fun q hq hz => hE2 q (up5 N6 hq) hz
      have c1 := hE3.tup c1
      have ht3 := Evo.mem hE3 ht2
      have hn3 := Evo.mem hE3 hn2
      have hK3 := hK2.mono hE3
      have htv3 := htv2.mono hE3
      have hnv3 := hnv2.mono hE3
      clear hE2 hU N6 F6 F5 N5 hK2 htv2 hnv2 hK htv hnv
      try k_fold
      k_steps
      rename_i n9 h9 tk9 F9 N9 hE9
      exact ForEnd.intro F9 N9 hE9 ⟨(if_neg (by decide)).trans m1, (if_neg (by decide)).trans m2, (if_neg (by decide)).trans m3, (if_neg (by decide)).trans m4⟩
    · intro h' tk' m' Y2 hJ hE2 F N
      change Fr h₀ L h' _ at F
      change News h₀ L h' _ at N
      obtain ⟨m1, m2, m3, m4⟩ := hJ
      have hE3 : Evo [] Y' Y2 := fun q hq hz => hE2 q (up5 N6 hq) hz
      try k_fold
      k_steps
      exact ForEnd.intro F N hE3 ⟨m1, m2, m3⟩
  · intro h' tk' m' Y' hJ hE F N
    try k_fold
    k_steps
    exact hend _ _ _ F
end
section
example : True := by
  k_with_none
  (k_with "k_ne" => (refine neN ?_; (try dsimp only); first | exact Nat.ne_of_gt (by with_reducible assumption) | exact Nat.ne_of_lt (by with_reducible assumption) | exact Nat.ne_of_gt (And.left (by with_reducible assumption)) | exact Nat.ne_of_lt (And.left (by with_reducible assumption)) | exact Nat.ne_of_gt (And.left (And.right (by with_reducible assumption))) | exact Nat.ne_of_lt (And.left (And.right (by with_reducible assumption))) | exact Nat.ne_of_gt (And.left (And.right (And.right (by with_reducible assumption)))) | exact Nat.ne_of_lt (And.left (And.right (And.right (by with_reducible assumption)))) | exact Nat.ne_of_gt (And.left (And.right (And.right (And.right (by with_reducible assumption))))) | exact Nat.ne_of_lt (And.left (And.right (And.right (And.right (by with_reducible assumption))))) | exact Nat.ne_of_gt (And.left (And.right (And.right (And.right (And.right (by with_reducible assumption)))))) | exact Nat.ne_of_gt (And.left (And.right (And.right (And.right (And.right (And.right (by with_reducible assumption))))))) | exact Nat.ne_of_gt (And.left (And.right (And.right (And.right (And.right (And.right (And.right (by with_reducible assumption)))))))) | exact Nat.ne_of_gt (And.left (And.right (And.right (And.right (And.right (And.right (And.right (And.right (by with_reducible assumption))))))))) | exact Nat.ne_of_gt (And.left (And.right (And.right (And.right (And.right (And.right (And.right (And.right (And.right (by with_reducible assumption)))))))))) | exact Nat.ne_of_gt (And.left (And.right (And.right (And.right (And.right (And.right (And.right (And.right (And.right (And.right (by with_reducible assumption))))))))))) | exact Nat.ne_of_gt (And.left (And.right (And.right (And.right (And.right (And.right (And.right (And.right (And.right (And.right (And.right (by with_reducible assumption)))))))))))) | exact Nat.ne_of_gt (And.left (And.right (And.right (And.right (And.right (And.right (And.right (And.right (And.right (And.right (And.right (And.right (by with_reducible assumption))))))))))))) | exact Nat.ne_of_gt (And.left (And.right (And.right (And.right (And.right (And.right (And.right (And.right (And.right (And.right (And.right (And.right (And.right (by with_reducible assumption))))))))))))))))
  (k_with "k_mem" => first | assumption | exact List.Mem.head _ | exact List.Mem.tail _ (by k_mem) | exact Evo.mem (by assumption) (by k_mem))
  (k_with "k_get" => assumption)
  (k_with "ktd_rel" => first | exact Evo.refl | assumption | (refine Evo.then ?_; ktd_rel) | (refine Evo.trans ?_ (by assumption); ktd_rel))
  (k_with "eval Name" => (k_dflt (refine' nameX_L (by k_asm) (by first | assumption | exact (if_pos rfl) | ((refine (if_neg (by decide)).trans ?_); first | assumption | exact (if_pos rfl) | ((refine (if_neg (by decide)).trans ?_); assumption))) ?_ (by rfl) (by rfl) (by decide); k_whole)))
  (k_with "exec For" => (k_dflt (refine for_led (by k_asm) (by rfl) (by rfl) ?_ (by intro _; rfl) (by assumption))))
  (k_with "exec For Name Name cons nil" => (k_dflt (refine for_led (by k_asm) (by rfl) (by rfl) ?_ (by intro _; rfl) (by assumption))))
  (k_with "exec For Name BinOp cons nil" => (k_dflt (refine for_led (by k_asm) (by rfl) (by rfl) ?_ (by intro _; rfl) (by assumption))))
  (k_with "call builtin:len" => (k_dflt (refine' len_lst (by k_asm) (by k_mem) (by assumption) (by omega) ?_)))
  (k_with "call type:range" => (k_dflt (refine' range1_rows (by k_asm) (by k_asm) ?_); intro _ _ _ _ _ _ _ _ _))
  (k_with "call type:list" => (k_dflt (refine' list_upto rfl (by k_asm) (by k_asm) (by assumption) (by norm_cast) (by omega) ?_); intro _ _ _ _ _ _ _ _ _))
  (k_with "binaryOp Add ref ref" => (k_dflt (refine' cat_lst (by k_asm) (by k_asm) (by k_mem) (by k_mem) (by first | omega | (dsimp only [List.length]; omega)) ?_); intro _ _ _ _ _))
  (k_with "exec For Name Call cons nil" => (k_dflt (refine for_ledL (by k_asm) (by rfl) (by rfl) ?_ (by intro _; rfl) (by assumption))))
  trivial
def ClausesJ (n i : Nat) (m : Str → Option Value) (Y : Led) : Prop := ∃ lc cvs nc, m (Str.ofString "clauses") = some (.ref lc) ∧ (lc, lstO cvs nc) ∈ Y ∧ (∀ v ∈ cvs, ClV Y n v) ∧ cvs.length = 1 + 2 * i
theorem ClausesJ.holds {X₀ : Led} {n : Nat} : HoldsL X₀ (ClausesJ n) := by
  rintro i m Y Y' S₃ hoff hl hE ⟨lc, cvs, nc, h1, h2, h3, h4⟩
  exact ⟨lc, cvs, nc, h1, hE _ h2 fun z => absurd rfl (hl _ h2 z), fun v hv => (h3 v hv).mono hE, h4⟩
def ThreeM (C : ChkA) (lt ln : Addr) (m : Str → Option Value) : Prop := m (Str.ofString "checker") = some (.ref C.c) ∧ m (Str.ofString "told") = some (.ref lt) ∧ m (Str.ofString "named") = some (.ref ln)
theorem clv_one {Y : Led} {n k c : Nat} {a : Addr} {z : Int} {t : Tok} (b : Bool) (hm : (a, tupO [.int z t] c) ∈ Y) (hk : k < n) (hz : z = litOf (k, b)) : ClV Y n (.ref a) :=
  ⟨a, [(k, b)], _, c, rfl, hm, .cons ⟨t, by rw [hz]⟩ .nil, fun p hp => by rw [List.mem_singleton.mp hp]; exact hk, by simp, by simp only [asc, Bool.and_true, decide_eq_true_eq]; omega⟩
theorem clv_two {Y : Led} {n c : Nat} {a : Addr} {z : Int} {t t2 : Tok} (b : Bool) (hm : (a, tupO [.int z t, .int 2 t2] c) ∈ Y) (hk : 1 < n) (hz : z = litOf (0, b)) : ClV Y n (.ref a) :=
  ⟨a, [(0, b), (1, true)], _, c, rfl, hm, .cons ⟨t, by rw [hz]⟩ (.cons ⟨t2, rfl⟩ .nil), fun p hp => by
    simp only [List.mem_cons, List.not_mem_nil, or_false] at hp
    rcases hp with rfl | rfl
    · show 0 < n; omega
    · exact hk, by simp, by simp [asc]⟩
theorem ClausesJ.next {n i : Nat} {m' : Str → Option Value} {Y Y' : Led} {D a b c1 c2 c3 : Nat} {cvs : List Value} {z1 z2 : Int} {t1 t2 : Tok} (h3 : ∀ v ∈ cvs, ClV Y n v) (h4 : cvs.length = 1 + 2 * i) (hi : i < n) (e : Evo [] Y Y') (hD : m' (Str.ofString "clauses") = some (.ref D))
    (hm : (D, lstO (cvs ++ [.ref a, .ref b]) c1) ∈ Y') (ha : (a, tupO [.int z1 t1] c2) ∈ Y') (hb : (b, tupO [.int z2 t2] c3) ∈ Y') (h1 : z1 = (i : Int) + 1) (h2 : z2 = 0 - 1 - (i : Int)) : ClausesJ n (i + 1) m' Y' :=
  ⟨D, _, c1, hD, hm, fun v hv => (List.mem_append.mp hv).elim (fun z => (h3 v z).mono e) fun z => by
    simp only [List.mem_cons, List.not_mem_nil, or_false] at z
    rcases z with rfl | rfl
    · exact clv_one true ha hi (by rw [h1]; rfl)
    · exact clv_one false hb hi (by rw [h2]; show _ = -((i : Int) + 1); omega), by rw [List.length_append, h4]; simp only [List.length_cons, List.length_nil]; omega⟩
theorem law8 {w : World} {p : Program} {loose : List Str} {mean : ExcName → Option Value} {mg mb : Str → Option Value} {h₀ h : Heap} {L fa : Addr} {cd : Value} {qk : Flow → Shared → Prop} {ek : Value → Shared → Prop} {s1 : Shared} {tk : Tok} {m : Str → Option Value} {Y : Led} {body : List Stmt} {scope : Scope}
    (hb : body = (lawOf w).1.drop 8) (hsc : scope = (lawOf w).2) (KX : (hd.heap_1 w.params).In h₀) (T : Top p loose mean mg mb h₀) (K0 : Below callerA h₀ [] h₀)
    (hEk : PassesOwn (model PySem.Challenge.rw_qz0015_01.row.prog w) (callerA.deeper (envOfC (Str.ofString "law") scope L fa cd)) (envOfC (Str.ofString "law") scope L fa cd) ek)
    (F : Fr h₀ L h m) (N : News h₀ L h Y)
    {S : BankA} {Tb : List Key} {C : ChkA} {named told : List Sh} {nv : List Value} {nn : Nat} {lt ln : Addr}
    (m1 : m (Str.ofString "checker") = some (.ref C.c)) (m2 : m (Str.ofString "told") = some (.ref lt)) (m3 : m (Str.ofString "named") = some (.ref ln))
    (hK : Chk PySem.Challenge.rw_qz0015_01.row.prog w Y S Tb C named told)
    (hn : (ln, lstO nv nn) ∈ Y) (hnv : nv.length = named.length) (hz0 : 1 ≤ named.length) (hz : named.length ≤ 10) (hz3 : told.length ≤ 100)
    (next : ∀ h' tk' m' Y' lc cvs nc, Fr h₀ L h' m' → News h₀ L h' Y' → Evo [] Y Y' → m' (Str.ofString "checker") = some (.ref C.c) → m' (Str.ofString "told") = some (.ref lt) → m' (Str.ofString "named") = some (.ref ln) → m' (Str.ofString "clauses") = some (.ref lc) →
      (lc, lstO cvs nc) ∈ Y' → (∀ v ∈ cvs, ClV Y' named.length v) → cvs.length ≤ 100 →
      wpAny (model PySem.Challenge.rw_qz0015_01.row.prog w) (callerA.deeper (envOfC (Str.ofString "law") scope L fa cd)) (execs (body.drop 3) (envOfC (Str.ofString "law") scope L fa cd)) qk ek { s1 with heap := h', toks := tk' }) :
    wpAny (model PySem.Challenge.rw_qz0015_01.row.prog w) (callerA.deeper (envOfC (Str.ofString "law") scope L fa cd)) (execs body (envOfC (Str.ofString "law") scope L fa cd)) qk ek { s1 with heap := h, toks := tk } := by
  conv at hb => rhs; whnf
  conv at hsc => rhs; whnf
  subst hb hsc
  (try k_fold)
  (try dsimp only)
  dsimp only [List.drop] at next
  k_steps
  rename_i D1 h1 l1 l2 h2 l3 h3 F3 N3 t3 tk3 hR tkR t1 u1 v1 hRg F4 N4 kp
  have hE0 : Evo [] Y ((l2, lstO [.ref D1] 0) :: (D1, tupO [] 0) :: Y) := fun q hq _ => .tail _ (.tail _ hq)
  refine ⟨_, [], named.length, _, _, fun i m Y => ThreeM C lt ln m ∧ ClausesJ named.length i m Y, itersL_upto rfl hRg rfl (by omega), F4, N4, (fun _ h => nomatch h), ⟨⟨(if_neg (by decide)).trans m1, (if_neg (by decide)).trans m2, (if_neg (by decide)).trans m3⟩, l2, [.ref D1], 0, if_pos rfl, List.Mem.head _, fun v hv => ?_, rfl⟩, fun i m Y Y' S₃ a b c d => ⟨d.1, ClausesJ.holds i m Y Y' S₃ a b c d.2⟩, ?_, ?_⟩
  · rw [List.mem_singleton.mp hv]
    exact ⟨D1, [], [], 0, rfl, List.Mem.tail _ (List.Mem.head _), .nil, (fun _ z => nomatch z), Nat.zero_le _, rfl⟩
  · intro g i v m' Y2 h' tk' hi hP hJ hE F N
    change Fr h₀ L h' _ at F
    change News h₀ L h' _ at N
    obtain ⟨⟨m1, m2, m3⟩, lc, cvs, nc, c1, c2, c3, c4⟩ := hJ
    obtain ⟨tv, rfl⟩ := hP
    clear F3 N3 F4 N4
    try k_fold
    dsimp only
    k_steps
    rename_i D1 h1 l1 D2 h2 l2 l3 h3 l4 D4 h4 l5 h5 F5 N5
    exact ForEnd.intro F5 N5 (fun q hq _ => .tail _ (.tail _ (.tail _ (.tail _ hq)))) ⟨⟨(if_neg (by decide)).trans ((if_neg (by decide)).trans m1), (if_neg (by decide)).trans ((if_neg (by decide)).trans m2), (if_neg (by decide)).trans ((if_neg (by decide)).trans m3)⟩,
      ClausesJ.next c3 c4 hi (fun q hq _ => .tail _ (.tail _ (.tail _ (.tail _ hq)))) (if_pos rfl) (List.Mem.head _) (List.Mem.tail _ (List.Mem.tail _ (List.Mem.tail _ (List.Mem.head _)))) (List.Mem.tail _ (List.Mem.tail _ (List.Mem.head _))) rfl rfl⟩
  · intro h' tk' m' Y2 hJ hE F N
    change Fr h₀ L h' _ at F
    change News h₀ L h' _ at N
    obtain ⟨⟨m1, m2, m3⟩, lc, cvs, nc, c1, c2, c3, c4⟩ := hJ
    have hE2 := hE0.trans hE
    have hK2 := hK.mono hE2
    have hn2 := Evo.mem hE2 hn
    clear F3 N3 F4 N4 hE hE0
    have hin := hK2.inst
    obtain ⟨es, ne, hd, g1, g2, g3, g4⟩ := hK2.dict
    have g5 := g4 "fault_of" (by simp [chkNames])
    by_cases hn1 : 1 < named.length
    · try k_fold
      dsimp only
      iterate 80 walk1
      refine' Does.use (fault_c (ps := [(1, true), (0, true)]) (j := 0) ?y1 ?y2 ?y3 ?y4 ?y5 ?y6 ?y7 ?y8 ?y9 ?yA ?yB ?yC ?yD ?yE) ?x1 ?x2 ?x3 ?x4 ?x5 ?x6 ?x7 ?x8 ?x9 ?_
      case x1 => k_asm
      case x2 => k_asm
      case x3 => k_asm
      case x4 => k_asm
      case x5 => k_asm
      case y1 => exact Chk.mono (by assumption) (by ktd_rel)
      case yA => k_mem
      case yB => exact rfl
      case yC => decide
      case yD => k_mem
      case yE => k_mem
      case y2 => k_mem
      case y3 => exact .cons ⟨_, rfl⟩ (.cons ⟨_, rfl⟩ .nil)
      case y4 => (intro q hq; simp only [List.mem_cons, List.not_mem_nil, or_false] at hq; rcases hq with rfl | rfl <;> (dsimp only; omega))
      case y5 => omega
      case y6 => exact Nat.le_of_ble_eq_true rfl
      case y7 => assumption
      case y8 => rfl
      case y9 => exact .int _ _
      case x6 => rfl
      case x7 => rfl
      case x8 => (first | (dsimp only [Around.deeper, Around.under, Around.in1]; omega) | decide | omega)
      case x9 => (first | (dsimp only [Around.deeper, Around.under, Around.in1]; omega) | decide | omega)
      intro r9 n9 h9 tk9 F9 N9 hp9; obtain ⟨⟨t9, e9⟩, hE9⟩ := hp9; subst e9
      try k_fold
      dsimp only
      repeat' (first | (k_unfold; (try dsimp only)) | ((fail_if_success (with_reducible show wpAny _ _ (execs (Stmt.For _ _ _ _ _ :: _) _) _ _ _)); first | walk1 | (dsimp only; walk1)))
      have eB := Evo.trans (fun q hq _ => .tail _ (.tail _ (.tail _ (.tail _ (.tail _ (.tail _ (.tail _ (.tail _ hq))))))) : Evo [] Y2 _) hE9
      exact next _ _ _ _ _ _ _ F9 N9 (hE2.trans eB) ((if_neg (by decide)).trans m1) ((if_neg (by decide)).trans m2) ((if_neg (by decide)).trans m3) (if_pos rfl)
        (Evo.mem hE9 (.tail _ (.tail _ (.tail _ (.tail _ (.head _)))))) (fun v hv => (List.mem_append.mp hv).elim (fun z => (c3 v z).mono eB) fun z => by
          simp only [List.mem_cons, List.not_mem_nil, or_false] at z
          rcases z with rfl | rfl
          · exact clv_two true (hE9.tup (.tail _ (.tail _ (.tail _ (.tail _ (.tail _ (.tail _ (.tail _ (.head _))))))))) hn1 rfl
          · exact clv_two false (hE9.tup (.tail _ (.tail _ (.tail _ (.tail _ (.tail _ (.tail _ (.head _)))))))) hn1 rfl) (by rw [List.length_append, c4]; simp only [List.length_cons, List.length_nil]; omega)
    · try k_fold
      dsimp only
      repeat' (first | (k_unfold; (try dsimp only)) | ((fail_if_success (with_reducible show wpAny _ _ (execs (Stmt.For _ _ _ _ _ :: _) _) _ _ _)); first | walk1 | (dsimp only; walk1)))
      exact next _ _ _ _ _ _ _ (by k_asm) (by k_asm) hE2 m1 m2 m3 c1 c2 c3 (by omega)
end
section
example : True := by
  k_with_none
  (k_with "k_ne" => (refine neN ?_; (try dsimp only); first | exact Nat.ne_of_gt (by with_reducible assumption) | exact Nat.ne_of_lt (by with_reducible assumption) | exact Nat.ne_of_gt (And.left (by with_reducible assumption)) | exact Nat.ne_of_lt (And.left (by with_reducible assumption)) | exact Nat.ne_of_gt (And.left (And.right (by with_reducible assumption))) | exact Nat.ne_of_lt (And.left (And.right (by with_reducible assumption))) | exact Nat.ne_of_gt (And.left (And.right (And.right (by with_reducible assumption)))) | exact Nat.ne_of_lt (And.left (And.right (And.right (by with_reducible assumption)))) | exact Nat.ne_of_gt (And.left (And.right (And.right (And.right (by with_reducible assumption))))) | exact Nat.ne_of_lt (And.left (And.right (And.right (And.right (by with_reducible assumption))))) | exact Nat.ne_of_gt (And.left (And.right (And.right (And.right (And.right (by with_reducible assumption)))))) | exact Nat.ne_of_gt (And.left (And.right (And.right (And.right (And.right (And.right (by with_reducible assumption))))))) | exact Nat.ne_of_gt (And.left (And.right (And.right (And.right (And.right (And.right (And.right (by with_reducible assumption)))))))) | exact Nat.ne_of_gt (And.left (And.right (And.right (And.right (And.right (And.right (And.right (And.right (by with_reducible assumption))))))))) | exact Nat.ne_of_gt (And.left (And.right (And.right (And.right (And.right (And.right (And.right (And.right (And.right (by with_reducible assumption)))))))))) | exact Nat.ne_of_gt (And.left (And.right (And.right (And.right (And.right (And.right (And.right (And.right (And.right (And.right (by with_reducible assumption))))))))))) | exact Nat.ne_of_gt (And.left (And.right (And.right (And.right (And.right (And.right (And.right (And.right (And.right (And.right (And.right (by with_reducible assumption)))))))))))) | exact Nat.ne_of_gt (And.left (And.right (And.right (And.right (And.right (And.right (And.right (And.right (And.right (And.right (And.right (And.right (by with_reducible assumption))))))))))))) | exact Nat.ne_of_gt (And.left (And.right (And.right (And.right (And.right (And.right (And.right (And.right (And.right (And.right (And.right (And.right (And.right (by with_reducible assumption))))))))))))))))
  (k_with "k_mem" => first | assumption | exact List.Mem.head _ | exact List.Mem.tail _ (by k_mem) | exact Evo.mem (by assumption) (by k_mem))
  (k_with "k_get" => assumption)
  (k_with "ktd_rel" => first | exact Evo.refl | assumption | (refine Evo.then ?_; ktd_rel) | (refine Evo.trans ?_ (by assumption); ktd_rel))
  (k_with "eval Name" => (k_dflt (refine' nameX_L (by k_asm) (by first | assumption | exact (if_pos rfl) | ((refine (if_neg (by decide)).trans ?_); first | assumption | exact (if_pos rfl) | ((refine (if_neg (by decide)).trans ?_); assumption))) ?_ (by rfl) (by rfl) (by decide); k_whole)))
  (k_with "call builtin:len" => (k_dflt (refine' len_lst (by k_asm) (by k_mem) (by assumption) (by omega) ?_)))
  (k_with "call type:range" => (k_dflt (refine' range1_rows (by k_asm) (by k_asm) ?_); intro _ _ _ _ _ _ _ _ _))
  (k_with "call type:list" => (k_dflt (refine' list_upto rfl (by k_asm) (by k_asm) (by assumption) (by norm_cast) (by omega) ?_); intro _ _ _ _ _ _ _ _ _))
  (k_with "binaryOp Add ref ref" => (k_dflt (refine' cat_lst (by k_asm) (by k_asm) (by k_mem) (by k_mem) (by first | omega | (dsimp only [List.length]; omega)) ?_); intro _ _ _ _ _))
  (k_with "eval ListComp" => (k_dflt (refine comp_eval (by k_asm) (by with_unfolding_all rfl) (by decide) (by rfl) (by decide) (by rfl) ?_)))
  (k_with "call ref" => ((with_reducible show wpAny _ _ (call (Value.ref 574) _ _) _ _ _); k_dflt (refine' Does.on (by k_asm) (by k_asm) (by k_asm) (by k_asm) (by k_asm) ‹Does _ _ 574 _ _ _ _ _› rfl rfl (by exact Nat.lt_of_le_of_lt (Nat.add_le_add_left (show _ ≤ 300 by omega) _) (by decide)) (by exact Nat.lt_of_le_of_lt (Nat.add_le_add_left (show _ ≤ 2000 by omega) _) (by decide)) ?_); rintro _ _ _ _ _ _ ⟨_, _, _, e9, _, _, _, _⟩; subst e9))
  (k_with "call ref" => ((with_reducible show wpAny _ _ (call (Value.ref 544) _ _) _ _ _); k_dflt (refine' call_cls (by k_asm) (by k_asm) (by k_asm) (by k_is) (by k_is) (by k_is) ?_); intro _ _ _ _ _ _ _))
  trivial
theorem evo_of {h₀ h : Heap} {L : Addr} {p : Addr × Obj} {Y : Led} (_ : News h₀ L h (p :: Y)) : Evo [] Y (p :: Y) := Evo.cons
theorem terms_of {T : List Key} {ts : List Nat} {xs : List Sh} (h : DenAll T ts xs) : ∀ {ys : List Value}, IntsAre ys (ts.map fun t : Nat => (t : Int)) → TermsAre T ys xs := by
  induction h with
  | nil => intro ys hI; cases hI; exact ⟨rfl, fun i x e => by simp at e⟩
  | cons d _ ih =>
    intro ys hI
    cases hI with
    | cons n tk hI =>
      obtain ⟨h1, h2⟩ := ih hI
      refine ⟨by simp [h1], fun i x e => ?_⟩
      cases i with
      | zero => simp only [List.getElem?_cons_zero, Option.some.injEq] at e; subst e; exact ⟨_, tk, rfl, d⟩
      | succ i => exact h2 i x (by simpa using e)
theorem TermsAre.mono {T : List Key} {vs : List Value} {xs : List Sh} (T' : List Key) (h : TermsAre T vs xs) : TermsAre (T ++ T') vs xs := ⟨h.1, fun i x e => let ⟨t, tk, a, b⟩ := h.2 i x e; ⟨t, tk, a, b.mono T'⟩⟩
theorem law6 {w : World} {p : Program} {loose : List Str} {mean : ExcName → Option Value} {mg mb : Str → Option Value} {h₀ h : Heap} {L fa : Addr} {cd : Value} {qk : Flow → Shared → Prop} {ek : Value → Shared → Prop} {s1 : Shared} {tk : Tok} {m : Str → Option Value} {Y : Led} {body : List Stmt} {scope : Scope}
    (hb : body = (lawOf w).1.drop 6) (hsc : scope = (lawOf w).2) (KX : (hd.heap_1 w.params).In h₀) (T : Top p loose mean mg mb h₀) (K0 : Below callerA h₀ [] h₀)
    (hEk : PassesOwn (model PySem.Challenge.rw_qz0015_01.row.prog w) (callerA.deeper (envOfC (Str.ofString "law") scope L fa cd)) (envOfC (Str.ofString "law") scope L fa cd) ek)
    (F : Fr h₀ L h m) (N : News h₀ L h Y)
    {S : BankA} {Tb : List Key} {named told : List Sh} {tv nv cs : List Value} {nt nn nso : Nat} {lt ln so : Addr} {oB oS : Obj}
    (m2 : m (Str.ofString "told") = some (.ref lt)) (m3 : m (Str.ofString "named") = some (.ref ln))
    (mcB : (L + 1 + 1, oB) ∈ Y) (hdB : oB.data = Data.cell (some (.ref S.b))) (mcS : (L + 1 + 1 + 1, oS) ∈ Y) (hdS : oS.data = Data.cell (some (.ref so)))
    (hB : Bank PySem.Challenge.rw_qz0015_01.row.prog w Y S Tb) (hT : TFs Y S Tb) (hso : (so, lstO cs nso) ∈ Y) (hC : Consts Tb cs)
    (hsn : so ∉ S.all) (hltn : lt ∉ S.all) (hlnn : ln ∉ S.all) (hcBn : L + 1 + 1 ∉ S.all) (hcSn : L + 1 + 1 + 1 ∉ S.all)
    (ht : (lt, lstO tv nt) ∈ Y) (htv : ShsIn Y told tv) (hn : (ln, lstO nv nn) ∈ Y) (hnv : ShsIn Y named nv) (hd1 : ∀ x ∈ told, x.dp ≤ 50) (hd2 : ∀ x ∈ named, x.dp ≤ 50)
    (hz : named.length ≤ 100) (hz3 : told.length ≤ 100) (hsz : Tb.length + (sizes named + sizes told + 2) ≤ 5000)
    (next : ∀ h' tk' m' Y' Tb' C, Fr h₀ L h' m' → News h₀ L h' Y' → Evo S.mut Y Y' → m' (Str.ofString "checker") = some (.ref (C : ChkA).c) → m' (Str.ofString "told") = some (.ref lt) → m' (Str.ofString "named") = some (.ref ln) →
      Chk PySem.Challenge.rw_qz0015_01.row.prog w Y' S Tb' C named told →
      wpAny (model PySem.Challenge.rw_qz0015_01.row.prog w) (callerA.deeper (envOfC (Str.ofString "law") scope L fa cd)) (execs (body.drop 2) (envOfC (Str.ofString "law") scope L fa cd)) qk ek { s1 with heap := h', toks := tk' }) :
    wpAny (model PySem.Challenge.rw_qz0015_01.row.prog w) (callerA.deeper (envOfC (Str.ofString "law") scope L fa cd)) (execs body (envOfC (Str.ofString "law") scope L fa cd)) qk ek { s1 with heap := h, toks := tk } := by
  have hln := hnv.len.symm
  have hlt := htv.len.symm
  conv at hb => rhs; whnf
  conv at hsc => rhs; whnf
  subst hb hsc
  (try k_fold)
  (try dsimp only)
  dsimp only [List.drop] at next
  k_steps
  rename_i l0 h0 F0 N0 l1
  have nm : ∀ {a : Addr}, a ∉ S.all → a ∉ S.mut := fun h z => h (mut_all z)
  have e0 : Evo [] Y ((l0, lstO [.int 0 tk] 0) :: Y) := Evo.cons
  have B0 := hB.mono' e0
  have has0 := B0.has
  refine ⟨_, S.mut, nv.length, fun i v => nv[i]? = some v, KidsJ _ w S Tb named, iters_list rfl N0 (List.Mem.tail _ hn) (nm hlnn), F0, N0, by omega, fun a ha => has0 a (mut_all ha), ⟨[], [], by rw [List.append_nil]; exact B0, .nil, .nil, by simp⟩, KidsJ.holds3 B0, ?_, ?_⟩
  · intro g i v ys Y1 C' oC m₂ h tk' E' hi hP hJ hE mC hoC hx F N
    obtain ⟨sh, hsh, hv⟩ := hnv.at hP
    obtain ⟨T', ts, hB', h1, h2, h3⟩ := hJ
    have hE0 : Evo S.mut Y Y1 := (Evo.nil e0).trans hE
    have mc : (L + 1 + 1, oB) ∈ Y1 := hE0 _ mcB fun z => absurd z (nm hcBn)
    have mc2 : (L + 1 + 1 + 1, oS) ∈ Y1 := hE0 _ mcS fun z => absurd z (nm hcSn)
    have mso : (so, lstO cs nso) ∈ Y1 := hE0 _ hso fun z => absurd z (nm hsn)
    have hdp := hd2 sh (List.mem_of_getElem? hsh)
    have D := put_ok sh Y1 (Tb ++ T') v cs nso (hv.mono hE0) hB' (hT.mono (b_mut hB.apart) hE0 T') mso hsn (hC.mono T') (put_room hsh h3 (by omega))
    clear hE0 hE hP hB hT hso hC F0 N0 e0 B0 has0
    try k_fold
    dsimp only
    k_steps
    · k_asm
    · k_asm
    · assumption
    · exact KidsJ.next hsh h1 h2 h3 (by assumption) (by assumption) (by assumption)
  · intro D h' tk' ys Y1 hJ hE N mD F
    obtain ⟨T', ts, hB', h1, h2, h3⟩ := hJ
    rw [show nv.length = named.length from hln, List.take_length] at h2 h3
    have hyl : ys.length ≤ 100 := by rw [ints_len h1, List.length_map, h2.len]; omega
    have hE0 : Evo S.mut Y Y1 := (Evo.nil e0).trans hE
    have ml0 : l0 ∉ S.mut := fun z => by
      obtain ⟨o, ho⟩ := hB.has l0 (mut_all z)
      exact Nat.lt_irrefl _ (l1 _ ho)
    have m0 : (l0, lstO [.int 0 tk] 0) ∈ Y1 := hE _ (.head _) fun z => absurd z ml0
    have mc : (L + 1 + 1, oB) ∈ Y1 := hE0 _ mcB fun z => absurd z (nm hcBn)
    have mc2 : (L + 1 + 1 + 1, oS) ∈ Y1 := hE0 _ mcS fun z => absurd z (nm hcSn)
    have mso : (so, lstO cs nso) ∈ Y1 := hE0 _ hso fun z => absurd z (nm hsn)
    have ht1 : (lt, lstO tv nt) ∈ Y1 := hE0 _ ht fun z => absurd z (nm hltn)
    have htv1 := htv.mono hE0
    have hT1 := hT.mono (b_mut hB.apart) hE0 T'
    have tm := terms_of h2 h1
    have hC1 := hC.mono T'
    clear B0 has0
    try k_fold
    dsimp only
    k_steps
    rename_i hD hx l2 h2 F2 N2
    have e2 := evo_of N2
    have B2 := hB'.mono' e2
    have has2 := B2.has
    have mDn : hD ∉ S.mut := fun z => by
      obtain ⟨o, ho⟩ := hB'.has hD (mut_all z)
      exact Nat.lt_irrefl _ (l2 _ ho)
    refine ⟨_, S.mut, tv.length, fun i v => tv[i]? = some v, KidsJ PySem.Challenge.rw_qz0015_01.row.prog w S (Tb ++ T') told, iters_list rfl N2 (List.Mem.tail _ ht1) (nm hltn), F2, N2, by omega, fun a ha => has2 a (mut_all ha), ⟨[], [], by rw [List.append_nil]; exact B2, .nil, .nil, by simp⟩, KidsJ.holds3 B2, ?_, ?_⟩
    · intro g i v ys3 Y3 C' oC m₂ h tk' E' hi hP hJ hE3 mC hoC hx F N
      obtain ⟨sh, hsh, hv⟩ := htv.at hP
      obtain ⟨T3, ts3, hB3, h4, h5, h6⟩ := hJ
      have hE4 : Evo S.mut Y1 Y3 := (Evo.nil e2).trans hE3
      have mc : (L + 1 + 1, oB) ∈ Y3 := hE4 _ mc fun z => absurd z (nm hcBn)
      have mc2 : (L + 1 + 1 + 1, oS) ∈ Y3 := hE4 _ mc2 fun z => absurd z (nm hcSn)
      have mso : (so, lstO cs nso) ∈ Y3 := hE4 _ mso fun z => absurd z (nm hsn)
      have hdp := hd1 sh (List.mem_of_getElem? hsh)
      have D := put_ok sh Y3 ((Tb ++ T') ++ T3) v cs nso ((hv.mono hE0).mono hE4) hB3 (hT1.mono (b_mut hB.apart) hE4 T3) mso hsn (hC1.mono T3) (put_room hsh h6 (by omega))
      clear hE0 hE hE3 hE4 hP hB hT hso hC e0 F2 N2 e2 B2 has2 hB' hT1 hC1
      try k_fold
      dsimp only
      k_steps
      · k_asm
      · k_asm
      · assumption
      · exact KidsJ.next hsh h4 h5 h6 (by assumption) (by assumption) (by assumption)
    · intro D3 h3' tk3 ys3 Y3 hJ hE3 N mD3 F
      obtain ⟨T3, ts3, hB3, h4, h5, h6⟩ := hJ
      rw [show tv.length = told.length from hlt, List.take_length] at h5 h6
      have hyl3 : ys3.length ≤ 100 := by rw [ints_len h4, List.length_map, h5.len]; omega
      have hE4 : Evo S.mut Y1 Y3 := (Evo.nil e2).trans hE3
      have mhD := hE3 _ (List.Mem.head _) fun z => absurd z mDn
      clear F2 N2 B2 has2
      try k_fold
      dsimp only
      k_steps
      rename_i em hA FA lA NA x d hx FB NB lB lC
      refine chk_init_ok lB lC _ _ _ _ _ _ _ _ _ _ _ _ _ _ _ _ _ (by k_asm) FB (by k_asm) NB (by k_asm) rfl rfl ?_ ?_ fun r Y4 h4' tk4 F4 N4 hp => ?_
      · exact Nat.le_of_ble_eq_true rfl
      · exact Nat.le_of_ble_eq_true rfl
      obtain ⟨rfl, hi, hdict, hkeep⟩ := hp
      have eK : Evo [] Y3 Y4 := fun q hq _ => hkeep _ (.tail _ hq)
      clear FB NB
      (try dsimp only [InitBack])
      repeat' (first | (k_unfold; (try dsimp only)) | ((fail_if_success (with_reducible show wpAny _ _ (execs (_ :: Stmt.For _ _ _ _ _ :: _) _) _ _ _)); first | walk1 | (dsimp only; walk1)))
      rename Fr _ _ _ _ => F5
      rename News _ _ _ Y4 => N5
      exact next _ _ _ _ (Tb ++ T' ++ T3) ⟨x, d, hD, D3⟩ F5 N5 ((hE0.trans hE4).trans eK.nil) (if_pos rfl) ((if_neg (by decide)).trans ((if_neg (by decide)).trans m2)) ((if_neg (by decide)).trans ((if_neg (by decide)).trans m3))
        ⟨hB3.mono' eK, by omega, hi, hdict, ⟨_, ys, 0, hkeep _ (.tail _ mhD), tm.mono T3⟩, ⟨ys3, _, hkeep _ (.tail _ mD3), terms_of h5 h4⟩⟩
end
section
example : True := by
  k_with_none
  (k_with "k_ne" => (refine neN ?_; (try dsimp only); first | exact Nat.ne_of_gt (by with_reducible assumption) | exact Nat.ne_of_lt (by with_reducible assumption) | exact Nat.ne_of_gt (And.left (by with_reducible assumption)) | exact Nat.ne_of_lt (And.left (by with_reducible assumption)) | exact Nat.ne_of_gt (And.left (And.right (by with_reducible assumption))) | exact Nat.ne_of_lt (And.left (And.right (by with_reducible assumption))) | exact Nat.ne_of_gt (And.left (And.right (And.right (by with_reducible assumption)))) | exact Nat.ne_of_lt (And.left (And.right (And.right (by with_reducible assumption)))) | exact Nat.ne_of_gt (And.left (And.right (And.right (And.right (by with_reducible assumption))))) | exact Nat.ne_of_lt (And.left (And.right (And.right (And.right (by with_reducible assumption))))) | exact Nat.ne_of_gt (And.left (And.right (And.right (And.right (And.right (by with_reducible assumption)))))) | exact Nat.ne_of_gt (And.left (And.right (And.right (And.right (And.right (And.right (by with_reducible assumption))))))) | exact Nat.ne_of_gt (And.left (And.right (And.right (And.right (And.right (And.right (And.right (by with_reducible assumption)))))))) | exact Nat.ne_of_gt (And.left (And.right (And.right (And.right (And.right (And.right (And.right (And.right (by with_reducible assumption))))))))) | exact Nat.ne_of_gt (And.left (And.right (And.right (And.right (And.right (And.right (And.right (And.right (And.right (by with_reducible assumption)))))))))) | exact Nat.ne_of_gt (And.left (And.right (And.right (And.right (And.right (And.right (And.right (And.right (And.right (And.right (by with_reducible assumption))))))))))) | exact Nat.ne_of_gt (And.left (And.right (And.right (And.right (And.right (And.right (And.right (And.right (And.right (And.right (And.right (by with_reducible assumption)))))))))))) | exact Nat.ne_of_gt (And.left (And.right (And.right (And.right (And.right (And.right (And.right (And.right (And.right (And.right (And.right (And.right (by with_reducible assumption))))))))))))) | exact Nat.ne_of_gt (And.left (And.right (And.right (And.right (And.right (And.right (And.right (And.right (And.right (And.right (And.right (And.right (And.right (by with_reducible assumption))))))))))))))))
  (k_with "k_mem" => first | assumption | exact List.Mem.head _ | exact List.Mem.tail _ (by k_mem) | exact Evo.mem (by assumption) (by k_mem))
  (k_with "k_get" => assumption)
  (k_with "ktd_rel" => first | exact Evo.refl | assumption | (refine Evo.then ?_; ktd_rel) | (refine Evo.trans ?_ (by assumption); ktd_rel))
  (k_with "eval Name" => (k_dflt (refine' nameX_L (by k_asm) (by first | assumption | exact (if_pos rfl) | ((refine (if_neg (by decide)).trans ?_); first | assumption | exact (if_pos rfl) | ((refine (if_neg (by decide)).trans ?_); assumption))) ?_ (by rfl) (by rfl) (by decide); k_whole)))
  (k_with "call builtin:len" => (k_dflt (refine' len_lst (by k_asm) (by k_mem) (by assumption) (by omega) ?_)))
  (k_with "call type:range" => (k_dflt (refine' range1_rows (by k_asm) (by k_asm) ?_); intro _ _ _ _ _ _ _ _ _))
  (k_with "call type:list" => (k_dflt (refine' list_upto rfl (by k_asm) (by k_asm) (by assumption) (by norm_cast) (by omega) ?_); intro _ _ _ _ _ _ _ _ _))
  (k_with "binaryOp Add ref ref" => (k_dflt (refine' cat_lst (by k_asm) (by k_asm) (by k_mem) (by k_mem) (by first | omega | (dsimp only [List.length]; omega)) ?_); intro _ _ _ _ _))
  (k_with "call ref" => ((with_reducible show wpAny _ _ (call (Value.ref 415) _ _) _ _ _); k_dflt (refine' call_cls (by k_asm) (by k_asm) (by k_asm) (by k_is) (by k_is) (by k_is) ?_); intro _ _ _ _ _ _ _))
  (k_with "eval ListComp" => (k_dflt (refine comp_eval (by k_asm) (by with_unfolding_all rfl) (by decide) (by rfl) (by decide) (by rfl) ?_)))
  (k_with "call ref" => ((with_reducible show wpAny _ _ (call (Value.ref 167) _ _) _ _ _); k_dflt (refine' Does.on (by k_asm) (by k_asm) (by k_asm) (by k_asm) (by k_asm) (fresh_ok (by exact Bank.mono' (by assumption) (by ktd_rel)) (by omega) (by exact Funs.mono (X := []) (by assumption) (by ktd_rel) List.not_mem_nil List.not_mem_nil List.not_mem_nil List.not_mem_nil) (by decide)) rfl rfl (by (first | (first | exact room1 (by assumption) (by decide) | exact room0 (by assumption) (by decide) | (dsimp only [Around.deeper, Around.under, Around.in1]; omega)) | decide | omega)) (by (first | (first | exact room1 (by assumption) (by decide) | exact room0 (by assumption) (by decide) | (dsimp only [Around.deeper, Around.under, Around.in1]; omega)) | decide | omega)) ?_); rintro _ _ _ _ _ _ ⟨_, _, _, e9, _, _, _, _, _⟩; subst e9))
  trivial
def FreshJ (prog : Program) (w : World) (S : BankA) (T : List Key) (fn fa fr : Addr) (i : Nat) (ys : List Value) (Y : Led) : Prop :=
  ∃ T', Bank prog w Y S (T ++ T') ∧ (T ++ T').length ≤ T.length + i ∧ Funs Y S fn fa fr i ∧ ys.length = i ∧ ∀ j, j < i → ∃ (t : Nat) (tk : Tok), ys[j]? = some (.int t tk) ∧ (T ++ T')[t]? = some (Str.ofString "app", [], 0, (j : Int))
theorem FreshJ.holds {prog : Program} {w : World} {S : BankA} {T T₀ : List Key} {fn fa fr : Addr} {X₀ : Led} (B : Bank prog w X₀ S T₀) (U : Funs X₀ S fn fa fr 0) : Holds3 X₀ (FreshJ prog w S T fn fa fr) := by
  rintro i ys Y Y' S₃ hoff hE ⟨T', hB, h2, h3, h4⟩
  obtain ⟨_, _, a1, _⟩ := U.names
  obtain ⟨_, _, a2, _⟩ := U.args
  obtain ⟨_, _, a3, _⟩ := U.results
  obtain ⟨_, _, a4, _⟩ := U.dict
  exact ⟨T', hB.mono (fun a ha => let ⟨o, ho⟩ := B.has a ha; hoff _ ho) hE, h2, h3.mono hE (hoff _ a4) (hoff _ a1) (hoff _ a2) (hoff _ a3), h4⟩
theorem FreshJ.next {prog : Program} {w : World} {S : BankA} {T T' T'' : List Key} {fn fa fr : Addr} {i t : Nat} {tk : Tok} {ys : List Value} {Y : Led} (h2 : (T ++ T').length ≤ T.length + i) (h4 : ys.length = i)
    (h5 : ∀ j, j < i → ∃ (t : Nat) (tk : Tok), ys[j]? = some (.int t tk) ∧ (T ++ T')[t]? = some (Str.ofString "app", [], 0, (j : Int)))
    (B : Bank prog w Y S ((T ++ T') ++ T'')) (hl : ((T ++ T') ++ T'').length ≤ (T ++ T').length + 1) (hD : ((T ++ T') ++ T'')[t]? = some (Str.ofString "app", [], 0, (i : Int))) (U : Funs Y S fn fa fr (i + 1)) :
    FreshJ prog w S T fn fa fr (i + 1) (ys ++ [.int t tk]) Y := by
  refine ⟨T' ++ T'', by rw [← List.append_assoc]; exact B, by rw [← List.append_assoc]; omega, U, by simp [h4], fun j hj => ?_⟩
  rw [← List.append_assoc]
  by_cases e : j = i
  · subst e
    exact ⟨t, tk, by rw [List.getElem?_append_right (by omega), h4, Nat.sub_self]; rfl, hD⟩
  · obtain ⟨t', tk', a, b⟩ := h5 j (by omega)
    exact ⟨t', tk', get_more a, get_more b⟩
theorem list_off {prog : Program} {w : World} {S : BankA} {T : List Key} {Y : Led} {h₀ h : Heap} {L D n : Addr} {ys : List Value} (N : News h₀ L h Y) (B : Bank prog w Y S T) (hD : (D, lstO ys n) ∈ Y) (hl : ys.length ≠ T.length) : D ∉ S.all := by
  obtain ⟨es, n, d1, d2⟩ := B.dict
  obtain ⟨vo, no, o1, o2, _⟩ := B.ops
  obtain ⟨va, na, a1, a2, _⟩ := B.args
  obtain ⟨vs, ns, s1, s2⟩ := B.sorts
  obtain ⟨vd, nd, e1, e2⟩ := B.datas
  obtain ⟨xs, ⟨_, o, es', ep, x1, x2, x3, _⟩, _⟩ := B.nums
  have ll : ∀ {a : Addr} {vs : List Value} {n : Nat}, (a, lstO vs n) ∈ Y → vs.length = T.length → D ≠ a := fun hm he e => by
    subst e
    have := News.same N hD hm
    injection this with _ _ h3 _
    injection h3 with h4 _
    have h5 := congrArg Array.size h4
    simp only [List.size_toArray] at h5
    omega
  simp only [BankA.all, List.mem_cons, List.not_mem_nil, or_false, not_or]
  refine ⟨News.ne N hD B.inst fun e => ?_, News.ne N hD d1 fun e => ?_, ll o1 o2, ll a1 a2, ll s1 s2, ll e1 e2, News.ne N hD x1 fun e => ?_⟩
  · injection e with e1 _ _ _; exact absurd e1 (by decide)
  · injection e with e1 _ _ _; exact absurd e1 (by decide)
  · rw [← e] at x3; cases x3
theorem four_keys {T : List Key} {a b c : Nat} (h0 : T[0]? = some (Str.ofString "", [], 0, 0)) (h1 : T[a]? = some (Str.ofString "app", [], 0, 0)) (h2 : T[b]? = some (Str.ofString "app", [], 0, 1)) (h3 : T[c]? = some (Str.ofString "app", [], 0, 2)) : 4 ≤ T.length := by
  have l0 := (List.getElem?_eq_some_iff.mp h0).1
  have l1 := (List.getElem?_eq_some_iff.mp h1).1
  have l2 := (List.getElem?_eq_some_iff.mp h2).1
  have l3 := (List.getElem?_eq_some_iff.mp h3).1
  have n1 : a ≠ 0 := fun e => by subst e; rw [h0] at h1; exact (s_inj (Prod.mk.inj (Option.some.inj h1)).1 (by decide)).elim
  have n2 : b ≠ 0 := fun e => by subst e; rw [h0] at h2; exact (s_inj (Prod.mk.inj (Option.some.inj h2)).1 (by decide)).elim
  have n3 : c ≠ 0 := fun e => by subst e; rw [h0] at h3; exact (s_inj (Prod.mk.inj (Option.some.inj h3)).1 (by decide)).elim
  have n4 : a ≠ b := fun e => by subst e; rw [h1] at h2; simp at h2
  have n5 : a ≠ c := fun e => by subst e; rw [h1] at h3; simp at h3
  have n6 : b ≠ c := fun e => by subst e; rw [h2] at h3; simp at h3
  omega
theorem FreshJ.consts {T T' : List Key} {ys : List Value} (h5 : ∀ j : Nat, j < 3 → ∃ (t : Nat) (tk : Tok), ys[j]? = some (.int t tk) ∧ (T ++ T')[t]? = some (Str.ofString "app", [], 0, (j : Int))) : Consts (T ++ T') ys := fun i hi =>
  let ⟨t, tk, a, b⟩ := h5 i hi; ⟨t, tk, a, .c b hi⟩
theorem law4 {w : World} {p : Program} {loose : List Str} {mean : ExcName → Option Value} {mg mb : Str → Option Value} {h₀ h : Heap} {L fa : Addr} {cd : Value} {qk : Flow → Shared → Prop} {ek : Value → Shared → Prop} {s1 : Shared} {tk : Tok} {m : Str → Option Value} {Y : Led} {body : List Stmt} {scope : Scope}
    (hb : body = (lawOf w).1.drop 4) (hsc : scope = (lawOf w).2) (KX : (hd.heap_1 w.params).In h₀) (T : Top p loose mean mg mb h₀) (K0 : Below callerA h₀ [] h₀)
    (hEk : PassesOwn (model PySem.Challenge.rw_qz0015_01.row.prog w) (callerA.deeper (envOfC (Str.ofString "law") scope L fa cd)) (envOfC (Str.ofString "law") scope L fa cd) ek)
    (F : Fr h₀ L h m) (N : News h₀ L h Y)
    {o2 o3 : Obj} (mcB : (L + 1 + 1, o2) ∈ Y) (hd2 : o2.data = Data.cell none) (mcS : (L + 1 + 1 + 1, o3) ∈ Y) (hd3 : o3.data = Data.cell none)
    (next : ∀ h' tk' Y' S T so cs nso oB oS, Fr h₀ L h' m → News h₀ L h' Y' → (L + 1 + 1, oB) ∈ Y' → oB.data = Data.cell (some (.ref (S : BankA).b)) → (L + 1 + 1 + 1, oS) ∈ Y' → oS.data = Data.cell (some (.ref so)) →
      Bank PySem.Challenge.rw_qz0015_01.row.prog w Y' S T → TFs Y' S T → (so, lstO cs nso) ∈ Y' → Consts T cs → so ∉ S.all → (∀ p ∈ Y, p.1 ∉ S.all) → T.length ≤ 6 → Evo [L + 1 + 1, L + 1 + 1 + 1] Y Y' →
      wpAny (model PySem.Challenge.rw_qz0015_01.row.prog w) (callerA.deeper (envOfC (Str.ofString "law") scope L fa cd)) (execs (body.drop 2) (envOfC (Str.ofString "law") scope L fa cd)) qk ek { s1 with heap := h', toks := tk' }) :
    wpAny (model PySem.Challenge.rw_qz0015_01.row.prog w) (callerA.deeper (envOfC (Str.ofString "law") scope L fa cd)) (execs body (envOfC (Str.ofString "law") scope L fa cd)) qk ek { s1 with heap := h, toks := tk } := by
  conv at hb => rhs; whnf
  conv at hsc => rhs; whnf
  subst hb hsc
  (try k_fold)
  (try dsimp only)
  dsimp only [List.drop] at next
  k_steps
  rename_i x d hx F1 N1 l1 l2
  refine init_ok l1 l2 _ _ _ _ _ _ _ _ _ _ _ _ _ _ _ _ _ (by k_asm) F1 (by k_asm) N1 (by k_asm) rfl rfl ?_ ?_ fun r Y4 h4' tk4 F4 N4 hp => ?_
  · exact Nat.le_of_ble_eq_true rfl
  · exact Nat.le_of_ble_eq_true rfl
  obtain ⟨rfl, S, T, fn, fa', fr, rfl, hB, hTl, hTF, hU, hkeep, hap⟩ := hp
  clear F1 N1
  (try dsimp only [InitBack])
  k_steps
  refine cell_store F4 N4 (hkeep _ mcB) hd2 rfl rfl rfl fun h5 oB F5 N5 hdB hE5 mB5 => ?_
  have offB : ∀ a ∈ S.all ++ [fn, fa', fr], a ∉ [L + 1 + 1] := fun a ha z => hap a ha _ mcB (List.mem_singleton.mp z).symm
  have offS : ∀ a ∈ S.all ++ [fn, fa', fr], a ≠ L + 1 + 1 + 1 := fun a ha z => hap a ha _ mcS z.symm
  have inA : ∀ {a : Addr}, a ∈ S.all → a ∈ S.all ++ [fn, fa', fr] := fun h => List.mem_append.mpr (.inl h)
  have inF : ∀ {a : Addr}, a ∈ [fn, fa', fr] → a ∈ S.all ++ [fn, fa', fr] := fun h => List.mem_append.mpr (.inr h)
  have B5 := hB.mono (fun a ha => offB a (inA ha)) hE5
  have dbA : S.db ∈ S.all := by simp [BankA.all]
  have U5 := hU.mono hE5 (offB _ (inA dbA)) (offB _ (inF (by simp))) (offB _ (inF (by simp))) (offB _ (inF (by simp)))
  have T5 := hTF.mono (offB _ (inA dbA)) hE5 []
  rw [List.append_nil] at T5
  have mS5 := hE5 _ (hkeep _ mcS) fun z => absurd (List.mem_singleton.mp z) (neN (by omega))
  have eY5 : Evo [L + 1 + 1] Y (upd Y4 (L + 1 + 1) oB) := fun q hq z => hE5 q (hkeep q hq) z
  generalize upd Y4 (L + 1 + 1) oB = Y5 at *
  clear F4 N4 hE5 hB hU hTF
  try k_fold
  dsimp only
  k_steps
  rename_i hR tkR t1 u1 v1 hRg F6 N6 kp
  have has5 := B5.has
  have mm : ∀ {a : Addr}, a ∈ S.mut ++ [fn, fa', fr] → a ∈ S.all ++ [fn, fa', fr] := fun h => (List.mem_append.mp h).elim (fun z => inA (mut_all z)) inF
  refine ⟨_, S.mut ++ [fn, fa', fr], 3, _, FreshJ PySem.Challenge.rw_qz0015_01.row.prog w S T fn fa' fr, iters_upto rfl hRg rfl (by decide), F6, N6, by decide, (fun a ha => (List.mem_append.mp ha).elim (fun z => has5 a (mut_all z)) fun z => ?_), ⟨[], by rw [List.append_nil]; exact B5, by simp, U5, rfl, fun j hj => absurd hj (Nat.not_lt_zero _)⟩, FreshJ.holds B5 U5, ?_, ?_⟩
  · obtain ⟨_, _, a1, _⟩ := U5.names
    obtain ⟨_, _, a2, _⟩ := U5.args
    obtain ⟨_, _, a3, _⟩ := U5.results
    simp only [List.mem_cons, List.not_mem_nil, or_false] at z
    rcases z with rfl | rfl | rfl
    · exact ⟨_, a1⟩
    · exact ⟨_, a2⟩
    · exact ⟨_, a3⟩
  · intro g i v ys Y1 C' oC m₂ h tk' E' hi hP hJ hE mC hoC hx F N
    obtain ⟨T', hB', h2, hU', h4, h6⟩ := hJ
    have mc : (L + 1 + 1, oB) ∈ Y1 := hE _ mB5 fun z => absurd (List.mem_singleton.mpr rfl) (offB _ (mm z))
    have hin := hB'.inst
    obtain ⟨es, ne, hde, g1, g2, g3, g4, g5, g6⟩ := hB'.dict
    have g7 := g6 "fresh_const" (by simp [bankNames])
    clear F6 N6 N5 F5 B5 U5 T5 has5 hE
    obtain rfl | rfl | rfl : i = 0 ∨ i = 1 ∨ i = 2 := by omega
    all_goals
      obtain ⟨tv, rfl⟩ := hP
      try k_fold
      dsimp only
      k_steps
      · k_asm
      · k_asm
      · assumption
      · exact FreshJ.next h2 h4 h6 (by assumption) (by assumption) (by assumption) (by assumption)
  · intro D h tk' ys Y1 hJ hE N mD F
    obtain ⟨T', hB', h2, hU', h4, h6⟩ := hJ
    have hC := FreshJ.consts h6
    have mD : (D, lstO ys ys.length) ∈ Y1 := mD
    have h7 : 4 ≤ (T ++ T').length := by
      obtain ⟨t0, _, _, q0⟩ := h6 0 (by decide)
      obtain ⟨t1, _, _, q1⟩ := h6 1 (by decide)
      obtain ⟨t2, _, _, q2⟩ := h6 2 (by decide)
      exact four_keys hB'.zero q0 q1 q2
    have hDn := list_off N hB' mD (by omega)
    have mS1 := hE _ mS5 fun z => absurd rfl (offS _ (mm z))
    have mB1 := hE _ mB5 fun z => absurd (List.mem_singleton.mpr rfl) (offB _ (mm z))
    have dbn : S.db ∉ S.mut ++ [fn, fa', fr] := fun z => (List.mem_append.mp z).elim (fun z => b_mut B5.apart z) fun z => U5.out _ z dbA
    have T1 := T5.mono dbn hE T'
    have nD3 : D ≠ L + 1 + 1 + 1 := News.ne N mD mS1 fun e => by rw [← e] at hd3; cases hd3
    clear F6 N6 N5 F5 U5 T5 has5
    try k_fold
    dsimp only
    k_steps
    refine cell_store F N mS1 hd3 rfl rfl rfl fun h7 oS F7 N7 hdS hE7 mS7 => ?_
    have offS1 : ∀ a ∈ S.all, a ∉ [L + 1 + 1 + 1] := fun a ha z => offS a (inA ha) (List.mem_singleton.mp z)
    have B7 := hB'.mono offS1 hE7
    have T7 := T1.mono (offS1 _ dbA) hE7 []
    rw [List.append_nil] at T7
    have mD7 := hE7 _ mD fun z => absurd (List.mem_singleton.mp z) nD3
    have mB7 := hE7 _ mB1 fun z => absurd (List.mem_singleton.mp z) (neN (by omega))
    have eA : Evo [L + 1 + 1, L + 1 + 1 + 1] Y (upd Y1 (L + 1 + 1 + 1) oS) := fun p hp q => hE7 p (hE p (eY5 p hp fun z => q (by rw [List.mem_singleton.mp z]; simp)) fun z => absurd rfl (hap _ (mm z) p hp)) fun z => q (by rw [List.mem_singleton.mp z]; simp)
    generalize upd Y1 (L + 1 + 1 + 1) oS = Y7 at *
    clear hE7 F N hE
    try k_fold
    dsimp only
    repeat' (first | (k_unfold; (try dsimp only)) | ((fail_if_success (with_reducible show wpAny _ _ (execs (_ :: _) _) _ _ _)); first | walk1 | (dsimp only; walk1)))
    exact next _ _ _ S (T ++ T') D ys _ oB oS F7 N7 mB7 hdB mS7 hdS B7 T7 mD7 hC hDn (fun p hp z => hap _ (inA z) p hp rfl) (by omega) eA
end
section
theorem Evo.off {d a : Addr} {o : Obj} {Y Y' : Led} (e : Evo [d] Y Y') (h : (a, o) ∈ Y) (n : a ≠ d) : (a, o) ∈ Y' := e _ h fun z => absurd (List.mem_singleton.mp z) n
example : True := by
  k_with_none
  (k_with "k_ne" => (refine neN ?_; (try dsimp only); first | exact Nat.ne_of_gt (by with_reducible assumption) | exact Nat.ne_of_lt (by with_reducible assumption) | exact Nat.ne_of_gt (And.left (by with_reducible assumption)) | exact Nat.ne_of_lt (And.left (by with_reducible assumption)) | exact Nat.ne_of_gt (And.left (And.right (by with_reducible assumption))) | exact Nat.ne_of_lt (And.left (And.right (by with_reducible assumption))) | exact Nat.ne_of_gt (And.left (And.right (And.right (by with_reducible assumption)))) | exact Nat.ne_of_lt (And.left (And.right (And.right (by with_reducible assumption)))) | exact Nat.ne_of_gt (And.left (And.right (And.right (And.right (by with_reducible assumption))))) | exact Nat.ne_of_lt (And.left (And.right (And.right (And.right (by with_reducible assumption))))) | exact Nat.ne_of_gt (And.left (And.right (And.right (And.right (And.right (by with_reducible assumption)))))) | exact Nat.ne_of_gt (And.left (And.right (And.right (And.right (And.right (And.right (by with_reducible assumption))))))) | exact Nat.ne_of_gt (And.left (And.right (And.right (And.right (And.right (And.right (And.right (by with_reducible assumption)))))))) | exact Nat.ne_of_gt (And.left (And.right (And.right (And.right (And.right (And.right (And.right (And.right (by with_reducible assumption))))))))) | exact Nat.ne_of_gt (And.left (And.right (And.right (And.right (And.right (And.right (And.right (And.right (And.right (by with_reducible assumption)))))))))) | exact Nat.ne_of_gt (And.left (And.right (And.right (And.right (And.right (And.right (And.right (And.right (And.right (And.right (by with_reducible assumption))))))))))) | exact Nat.ne_of_gt (And.left (And.right (And.right (And.right (And.right (And.right (And.right (And.right (And.right (And.right (And.right (by with_reducible assumption)))))))))))) | exact Nat.ne_of_gt (And.left (And.right (And.right (And.right (And.right (And.right (And.right (And.right (And.right (And.right (And.right (And.right (by with_reducible assumption))))))))))))) | exact Nat.ne_of_gt (And.left (And.right (And.right (And.right (And.right (And.right (And.right (And.right (And.right (And.right (And.right (And.right (And.right (by with_reducible assumption))))))))))))))))
  (k_with "k_mem" => first | assumption | exact List.Mem.head _ | exact List.Mem.tail _ (by k_mem) | exact Evo.off (by assumption) (by k_mem) (by assumption) | exact Evo.mem (by assumption) (by k_mem))
  (k_with "k_get" => assumption)
  (k_with "ktd_rel" => first | exact Evo.refl | assumption | (refine Evo.then ?_; ktd_rel) | (refine Evo.trans ?_ (by assumption); ktd_rel) | (refine Evo.trans ?_ (Evo.nil (by assumption)); ktd_rel))
  (k_with "ktr_rel" => first | assumption | exact ShIn.mono (Evo.cons (S := [])) (by ktr_rel) | exact ShIn.mono (by assumption) (by ktr_rel))
  (k_with "eval Name" => (k_dflt (refine' nameX_L (by k_asm) (by first | assumption | exact (if_pos rfl) | ((refine (if_neg (by decide)).trans ?_); first | assumption | exact (if_pos rfl) | ((refine (if_neg (by decide)).trans ?_); assumption))) ?_ (by rfl) (by rfl) (by decide); k_whole)))
  (k_with "exec For Name Call cons nil" => (k_dflt (refine for_led (by k_asm) (by rfl) (by rfl) ?_ (by intro _; rfl) (by assumption))))
  (k_with "call builtin:len" => (k_dflt (refine' len_lst (by k_asm) (by k_mem) (by assumption) (by omega) ?_)))
  (k_with "call type:range" => (k_dflt (refine' range1_rows (by k_asm) (by k_asm) ?_); intro _ _ _ _ _ _ _ _ _))
  (k_with "call builtin:list.append" => (k_dflt (refine' append_upd (by k_asm) (by k_asm) (by k_mem) (by first | decide | omega) ?_); intro _ _ _))
  (k_with "call ref" => ((with_reducible show wpAny _ _ (call (Value.ref 555) _ _) _ _ _); k_dflt (refine' Does.on (by k_asm) (by k_asm) (by k_asm) (by k_asm) (by k_asm) (next_ok (by first | assumption | exact Feed.cons (by assumption) | exact Feed.mono (by assumption) (by assumption)) (by omega) (by first | decide | omega)) rfl rfl (by (first | (first | exact room1 (by assumption) (by decide) | exact room0 (by assumption) (by decide) | (dsimp only [Around.deeper, Around.under, Around.in1]; omega)) | decide | omega)) (by (first | (first | exact room1 (by assumption) (by decide) | exact room0 (by assumption) (by decide) | (dsimp only [Around.deeper, Around.under, Around.in1]; omega)) | decide | omega)) ?_); rintro _ _ _ _ _ _ ⟨_, _, e9, _, _, _⟩; subst e9))
  (k_with "call ref" => ((with_reducible show wpAny _ _ (call (Value.ref 569) _ _) _ _ _); k_dflt (refine' Does.on (by k_asm) (by k_asm) (by k_asm) (by k_asm) (by k_asm) (shape_ok (by assumption) (by omega)) rfl rfl (by (first | (first | exact room1 (by assumption) (by decide) | exact room0 (by assumption) (by decide) | (dsimp only [Around.deeper, Around.under, Around.in1]; omega)) | decide | omega)) (by (first | (first | exact room1 (by assumption) (by decide) | exact room0 (by assumption) (by decide) | (dsimp only [Around.deeper, Around.under, Around.in1]; omega)) | decide | omega)) ?_); rintro _ _ _ _ _ _ ⟨_, _, _, _, _, _, _⟩))
  (k_with "call ref" => ((with_reducible show wpAny _ _ (call (Value.ref 581) _ _) _ _ _); k_dflt (refine' Does.on (by k_asm) (by k_asm) (by k_asm) (by k_asm) (by k_asm) (bare_ok (by ktr_rel)) rfl rfl (by (first | (first | exact room1 (by assumption) (by decide) | exact room0 (by assumption) (by decide) | (dsimp only [Around.deeper, Around.under, Around.in1]; omega)) | decide | omega)) (by (first | (first | exact room1 (by assumption) (by decide) | exact room0 (by assumption) (by decide) | (dsimp only [Around.deeper, Around.under, Around.in1]; omega)) | decide | omega)) ?_); rintro _ _ _ _ _ _ ⟨_, _, _, e9, _, _, _⟩; subst e9))
  (k_with "call ref" => ((with_reducible show wpAny _ _ (call (Value.ref 562) _ _) _ _ _); k_dflt (refine' Does.on (by k_asm) (by k_asm) (by k_asm) (by k_asm) (by k_asm) (denied_ok (by ktr_rel) (by omega) (by omega)) rfl rfl (by (first | (first | exact room1 (by assumption) (by decide) | exact room0 (by assumption) (by decide) | (dsimp only [Around.deeper, Around.under, Around.in1]; omega)) | decide | omega)) (by (first | (first | exact room1 (by assumption) (by decide) | exact room0 (by assumption) (by decide) | (dsimp only [Around.deeper, Around.under, Around.in1]; omega)) | decide | omega)) ?_); rintro _ _ _ _ _ _ ⟨_, _⟩))
  trivial
theorem item_sh {prog : Program} {w : World} {A : Around} {E : Value → Shared → Prop} {s : Shared} {h₀ : Heap} {L l : Addr} {Y Y0 : Led} {tv : List Value} {n v : Nat} {u : Tok} {told : List Sh} {value slice : PySem.Expr} {Q : Value → Shared → Prop} (N : News h₀ L s.heap Y) (hm : (l, lstO tv n) ∈ Y) (ht : ShsIn Y0 told tv) (hv : (v : Int) < told.length) (hz : told.length ≤ 100)
    (h : ∀ z x, ShIn Y0 z x → x ∈ told → Q z s) (hs : subscripted slice false (.ref l) (.int v u) = operate [.ref l, .int v u] (getItem (.ref l) (.int v u)) := by with_unfolding_all rfl) : wpAny (model prog w) A (subscriptTail value slice (.ref l) (.int v u)) Q E s := by
  have hlt : v < told.length := by omega
  obtain ⟨z, hz1, hz2⟩ := ht.to (List.getElem?_eq_getElem hlt)
  exact item_at N hm (Int.ofNat_nonneg v) (by omega) (by rw [Int.toNat_natCast]; exact hz1) (h z _ hz2 (List.getElem_mem hlt)) hs
example : True := by
  (k_with "subscriptTail" => ((with_reducible show wpAny _ _ (subscriptTail _ _ (Value.ref _) (Value.int 0 _)) _ _ _); k_dflt (refine' item_first (by k_asm) (by k_mem) ?_)))
  (k_with "subscriptTail" => ((with_reducible show wpAny _ _ (subscriptTail _ _ (Value.ref _) (Value.int (Nat.cast _) _)) _ _ _); k_dflt (refine' item_sh (by k_asm) (by k_mem) (by assumption) (by assumption) (by omega) ?_); intro _ _ _ _))
  trivial
def NamedJ (prog : Program) (w : World) (d0 D ln k0 : Addr) (i : Nat) (Y : Led) : Prop := ∃ xs vs n k, (ln, lstO vs n) ∈ Y ∧ ShsIn Y xs vs ∧ xs.length = i ∧ (∀ x ∈ xs, x.dp ≤ 10) ∧ Feed prog w Y d0 D k ∧ k ≤ k0 + 12 * i
theorem NamedJ.holds {prog : Program} {w : World} {d0 D ln k0 k : Addr} {X₀ : Led} {o : Obj} (hF : Feed prog w X₀ d0 D k) (hn : (ln, o) ∈ X₀) {i : Nat} {Y Y' : Led} {S₃ : List Addr} (hoff : ∀ p ∈ X₀, p.1 ∉ S₃) (hE : Evo S₃ Y Y') : NamedJ prog w d0 D ln k0 i Y → NamedJ prog w d0 D ln k0 i Y' := by
  rintro ⟨xs, vs, n, k, h1, h2, h3, h4, h5, h6⟩
  obtain ⟨⟨o1, a1⟩, o2, a2⟩ := hF.has
  exact ⟨xs, vs, n, k, hE _ h1 (fun z => absurd z (hoff (ln, o) hn)), h2.mono hE, h3, h4, h5.keep hE (hoff _ a1) (hoff _ a2), h6⟩
theorem NamedJ.next {prog : Program} {w : World} {d0 D ln k0 k' i n : Nat} {xs : List Sh} {vs : List Value} {v : Value} {x : Sh} {Y Z : Led} {h₀ h : Heap} {L : Addr} (N : News h₀ L h Z) (hm : (ln, lstO vs n) ∈ Z) (e : Evo [d0] Y Z) (j2 : ShsIn Y xs vs) (j3 : xs.length = i) (j4 : ∀ x ∈ xs, x.dp ≤ 10)
    (hs : ShIn Z v x) (hd : x.dp ≤ 10) (hF : Feed prog w Z d0 D k') (hk : k' ≤ k0 + 12 * (i + 1)) (n5 : ln ≠ d0) (n6 : ln ≠ D) : NamedJ prog w d0 D ln k0 (i + 1) (upd Z ln (lstO (vs ++ [v]) (n + 1))) ∧ Evo [d0, ln] Y (upd Z ln (lstO (vs ++ [v]) (n + 1))) := by
  have e2 : Evo [ln] Z (upd Z ln (lstO (vs ++ [v]) (n + 1))) := Evo.upd N hm lst_cls
  exact ⟨⟨xs ++ [x], vs ++ [v], n + 1, k', mem_upd_self hm, ((j2.mono e).mono e2).snoc (hs.mono e2), by rw [List.length_append, j3]; rfl, fun z hz => (List.mem_append.mp hz).elim (j4 z) fun h => List.mem_singleton.mp h ▸ hd,
    hF.keep e2 (fun z => n5 (List.mem_singleton.mp z).symm) (fun z => n6 (List.mem_singleton.mp z).symm), hk⟩,
    (e.weaken fun q hq => by rw [List.mem_singleton.mp hq]; exact List.Mem.head _).trans (e2.weaken fun q hq => by rw [List.mem_singleton.mp hq]; exact List.Mem.tail _ (List.Mem.head _))⟩
theorem dp_nb {x : Sh} {n : Nat} (h : x.dp ≤ 7) (hn : (n : Int) < 4) : (Sh.negs (n : Int).toNat x.bare).dp ≤ 10 := by
  have := Sh.dp_bare x
  rw [Sh.dp_negs]
  omega
theorem law3 {w : World} {p : Program} {loose : List Str} {mean : ExcName → Option Value} {mg mb : Str → Option Value} {h₀ h : Heap} {L fa : Addr} {cd : Value} {qk : Flow → Shared → Prop} {ek : Value → Shared → Prop} {s1 : Shared} {tk : Tok} {m : Str → Option Value} {Y : Led} {body : List Stmt} {scope : Scope}
    (hb : body = (lawOf w).1.drop 3) (hsc : scope = (lawOf w).2) (KX : (hd.heap_1 w.params).In h₀) (T : Top p loose mean mg mb h₀) (K0 : Below callerA h₀ [] h₀)
    (hEk : PassesOwn (model PySem.Challenge.rw_qz0015_01.row.prog w) (callerA.deeper (envOfC (Str.ofString "law") scope L fa cd)) (envOfC (Str.ofString "law") scope L fa cd) ek)
    (F : Fr h₀ L h m) (N : News h₀ L h Y)
    {d0 D lt ln k : Nat} {told : List Sh} {tv : List Value} {nt : Nat} {oF : Obj}
    (m2 : m (Str.ofString "told") = some (.ref lt)) (m3 : m (Str.ofString "named") = some (.ref ln))
    (mcF : (L + 1, oF) ∈ Y) (hdF : oF.data = Data.cell (some (.ref d0))) (hF : Feed PySem.Challenge.rw_qz0015_01.row.prog w Y d0 D k) (hk : k ≤ 31)
    (ht : (lt, lstO tv nt) ∈ Y) (htv : ShsIn Y told tv) (hd1 : ∀ x ∈ told, x.dp ≤ 7) (hz1 : 1 ≤ told.length) (hz3 : told.length ≤ 3) (hn : (ln, lstO [] 0) ∈ Y)
    (n1 : L + 1 ≠ d0) (n2 : L + 1 ≠ ln) (n3 : lt ≠ d0) (n4 : lt ≠ ln) (n5 : ln ≠ d0) (n6 : ln ≠ D)
    (next : ∀ h' tk' m' Y' named nv nn, Fr h₀ L h' m' → News h₀ L h' Y' → Evo [d0, ln] Y Y' → m' (Str.ofString "told") = some (.ref lt) → m' (Str.ofString "named") = some (.ref ln) → (ln, lstO nv nn) ∈ Y' → ShsIn Y' named nv → 1 ≤ named.length → named.length ≤ 4 → (∀ x ∈ named, x.dp ≤ 10) →
      wpAny (model PySem.Challenge.rw_qz0015_01.row.prog w) (callerA.deeper (envOfC (Str.ofString "law") scope L fa cd)) (execs (body.drop 1) (envOfC (Str.ofString "law") scope L fa cd)) qk ek { s1 with heap := h', toks := tk' }) :
    wpAny (model PySem.Challenge.rw_qz0015_01.row.prog w) (callerA.deeper (envOfC (Str.ofString "law") scope L fa cd)) (execs body (envOfC (Str.ofString "law") scope L fa cd)) qk ek { s1 with heap := h, toks := tk } := by
  have hlt := htv.len.symm
  conv at hb => rhs; whnf
  conv at hsc => rhs; whnf
  subst hb hsc
  (try k_fold)
  (try dsimp only)
  dsimp only [List.drop] at next
  k_steps
  rename_i n9 h9 tk9 F9 N9 v9 t9 h19 hF9 hE9 hR tkR t1 u1 v1 hRg F1 N1 kp
  have hn9 := hE9.off hn n5
  have hd9 := hF9.has.1
  refine ⟨_, [d0, ln], 1 + v9, _, _, fun i m Y => (m (Str.ofString "told") = some (.ref lt) ∧ m (Str.ofString "named") = some (.ref ln)) ∧ NamedJ PySem.Challenge.rw_qz0015_01.row.prog w d0 D ln (k + 1) i Y, iters_upto rfl hRg (by omega) (by omega), F1, N1, (fun a ha => ?_), ⟨⟨m2, m3⟩, [], [], 0, k + 1, hn9, .nil, rfl, (fun _ z => nomatch z), hF9, Nat.le_refl _⟩, (fun i m Y Y' S₃ hoff hE d => ⟨d.1, d.2.holds hF9 hn9 hoff hE⟩), ?_, ?_⟩
  · simp only [List.mem_cons, List.not_mem_nil, or_false] at ha
    rcases ha with rfl | rfl
    · exact hd9
    · exact ⟨_, hn9⟩
  · intro g i v m' Y1 h' tk' hi hP hJ hE F N
    change Fr h₀ L h' _ at F
    change News h₀ L h' _ at N
    obtain ⟨⟨m2, m3⟩, xs, vs, n, k1, j1, j2, j3, j4, j5, j6⟩ := hJ
    have off2 : ∀ {a : Nat}, a ≠ d0 → a ≠ ln → a ∉ [d0, ln] := fun h1 h2 z => by
      simp only [List.mem_cons, List.not_mem_nil, or_false] at z
      exact z.elim h1 h2
    have mcF1 := hE _ (hE9.off mcF n1) fun z => absurd z (off2 n1 n2)
    have ht1 := hE _ (hE9.off ht n3) fun z => absurd z (off2 n3 n4)
    have htv1 := (htv.mono hE9).mono hE
    have hvl : vs.length ≤ 100 := by have := j2.len; omega
    clear F9 N9 F1 N1 hE hE9 hF9 hF htv hd9
    obtain ⟨tv9, rfl⟩ := hP
    try k_fold
    dsimp only
    k_steps
    · rename_i x9 hu9 hx9 n3 h3 tk3 a9 u9 c9 hm9 hs3 hE3 h4 F4 N4 tk4 n5' h5 tk5 F5 N5 v5 t5 h15 hF5 hE5 r9 n9 h9 tk9 F9 N9 hs9 hE9 hx F' N'
      obtain ⟨q1, q2⟩ := NamedJ.next (k0 := k + 1) N9 (by k_mem) (by ktd_rel) j2 j3 j4 hs9 (dp_nb (hd1 _ hx9) h15) (Feed.mono hE9 hF5) (by omega) n5 n6
      exact ForEnd.intro F' N' q2 ⟨⟨(if_neg (by decide)).trans ((if_neg (by decide)).trans m2), (if_neg (by decide)).trans ((if_neg (by decide)).trans m3)⟩, q1⟩
    · rename_i r9 n9 h9 tk9 F9 N9 x9 k9 hs9 hF9 hd9 hk9 hE9 hx F' N'
      obtain ⟨q1, q2⟩ := NamedJ.next (k0 := k + 1) N9 (by k_mem) (by ktd_rel) j2 j3 j4 hs9 (by omega) hF9 (by omega) n5 n6
      exact ForEnd.intro F' N' q2 ⟨⟨(if_neg (by decide)).trans m2, (if_neg (by decide)).trans m3⟩, q1⟩
  · intro h' tk' m' Y1 hJ hE F N
    change Fr h₀ L h' _ at F
    change News h₀ L h' _ at N
    obtain ⟨⟨m2, m3⟩, xs, vs, n, k1, j1, j2, j3, j4, j5, j6⟩ := hJ
    exact next _ _ _ _ xs vs n F N ((hE9.weaken fun q hq => by rw [List.mem_singleton.mp hq]; exact List.Mem.head _).trans hE) m2 m3 j1 j2 (by omega) (by omega) j4
end
section
-- nofill
theorem sizes_bound {d b : Nat} : ∀ {l : List Sh}, (∀ x ∈ l, x.dp ≤ d) → 2 ^ d ≤ b → sizes l ≤ b * l.length
  | [], _, _ => by simp [sizes]
  | x :: r, h, hb => by
    have h1 := Sh.size_lt x
    have h2 := Nat.pow_le_pow_right (n := 2) (by decide) (h x (List.mem_cons_self ..))
    have h3 := sizes_bound (l := r) (fun y hy => h y (List.mem_cons_of_mem _ hy)) hb
    simp only [sizes, List.length_cons, Nat.mul_succ]
    omega
theorem law3on {w : World} {p : Program} {loose : List Str} {mean : ExcName → Option Value} {mg mb : Str → Option Value} {h₀ h : Heap} {L fa : Addr} {cd : Value} {qk : Flow → Shared → Prop} {ek : Value → Shared → Prop} {s1 : Shared} {tk : Tok} {m : Str → Option Value} {Y : Led} {body : List Stmt} {scope : Scope}
    (hb : body = (lawOf w).1.drop 3) (hsc : scope = (lawOf w).2) (KX : (hd.heap_1 w.params).In h₀) (T : Top p loose mean mg mb h₀) (K0 : Below callerA h₀ [] h₀)
    (hEk : PassesOwn (model PySem.Challenge.rw_qz0015_01.row.prog w) (callerA.deeper (envOfC (Str.ofString "law") scope L fa cd)) (envOfC (Str.ofString "law") scope L fa cd) ek)
    (F : Fr h₀ L h m) (N : News h₀ L h Y)
    {d0 D lt ln k : Nat} {told : List Sh} {tv : List Value} {nt : Nat} {oF o2 o3 : Obj}
    (m2 : m (Str.ofString "told") = some (.ref lt)) (m3 : m (Str.ofString "named") = some (.ref ln))
    (mcF : (L + 1, oF) ∈ Y) (hdF : oF.data = Data.cell (some (.ref d0))) (hF : Feed PySem.Challenge.rw_qz0015_01.row.prog w Y d0 D k) (hk : k ≤ 31)
    (ht : (lt, lstO tv nt) ∈ Y) (htv : ShsIn Y told tv) (hd1 : ∀ x ∈ told, x.dp ≤ 7) (hz1 : 1 ≤ told.length) (hz3 : told.length ≤ 3) (hn : (ln, lstO [] 0) ∈ Y)
    (n1 : L + 1 ≠ d0) (n2 : L + 1 ≠ ln) (n3 : lt ≠ d0) (n4 : lt ≠ ln) (n5 : ln ≠ d0) (n6 : ln ≠ D)
    (mcB : (L + 1 + 1, o2) ∈ Y) (hdB : o2.data = Data.cell none) (mcS : (L + 1 + 1 + 1, o3) ∈ Y) (hdS : o3.data = Data.cell none)
    (b1 : L + 1 + 1 ≠ d0) (b2 : L + 1 + 1 ≠ ln) (b3 : L + 1 + 1 + 1 ≠ d0) (b4 : L + 1 + 1 + 1 ≠ ln) (b5 : lt ≠ L + 1 + 1) (b6 : lt ≠ L + 1 + 1 + 1)
    (hend : ∀ h' m tk, Fr h₀ L h' m → qk (.ret (.bool true)) { s1 with heap := h', toks := tk }) :
    wpAny (model PySem.Challenge.rw_qz0015_01.row.prog w) (callerA.deeper (envOfC (Str.ofString "law") scope L fa cd)) (execs body (envOfC (Str.ofString "law") scope L fa cd)) qk ek { s1 with heap := h, toks := tk } := by
  have dr : ∀ n : Nat, body.drop n = (lawOf w).1.drop (3 + n) := fun n => by rw [hb, List.drop_drop]
  have two : ∀ {a b c : Nat}, a ≠ b → a ≠ c → a ∉ [b, c] := fun h1 h2 z => by
    simp only [List.mem_cons, List.not_mem_nil, or_false] at z
    exact z.elim h1 h2
  refine law3 hb hsc KX T K0 hEk F N m2 m3 mcF hdF hF hk ht htv hd1 hz1 hz3 hn n1 n2 n3 n4 n5 n6 ?_
  intro h1 tk1 m1 Y1 named nv nn F1 N1 e1 p2 p3 hn1 hnv hz4 hz5 hd2
  have ht1 := e1 _ ht fun z => absurd z (two n3 n4)
  have mB1 := e1 _ mcB fun z => absurd z (two b1 b2)
  have mS1 := e1 _ mcS fun z => absurd z (two b3 b4)
  refine law4 (dr 1) hsc KX T K0 hEk F1 N1 mB1 hdB mS1 hdS ?_
  intro h2 tk2 Y2 S Tb so cs nso oB oS F2 N2 mB2 hB2 mS2 hS2 bk tf hso hC hsn hoff hTl e2
  rw [List.drop_drop]
  have nB : ln ∉ [L + 1 + 1, L + 1 + 1 + 1] := two b2.symm b4.symm
  have nT : lt ∉ [L + 1 + 1, L + 1 + 1 + 1] := two b5 b6
  have ht2 := e2 _ ht1 fun z => absurd z nT
  have hn2 := e2 _ hn1 fun z => absurd z nB
  have htv1 := htv.mono e1
  have htv2 := htv1.mono e2
  have hnv2 := hnv.mono e2
  have s1 := sizes_bound (d := 7) (b := 128) hd1 (by decide)
  have s2 := sizes_bound (d := 10) (b := 1024) hd2 (by decide)
  refine law6 (dr 3) hsc KX T K0 hEk F2 N2 p2 p3 mB2 hB2 mS2 hS2 bk tf hso hC hsn (hoff _ ht1) (hoff _ hn1) (hoff _ mB1) (hoff _ mS1) ht2 htv2 hn2 hnv2 (fun x hx => Nat.le_trans (hd1 x hx) (by decide)) (fun x hx => Nat.le_trans (hd2 x hx) (by decide)) (by omega) (by omega) (by omega) ?_
  intro h3 tk3 m3' Y3 Tb' C F3 N3 e3 q1 q2 q3 hK
  rw [List.drop_drop]
  have ht3 := e3 _ ht2 fun z => absurd (mut_all z) (hoff _ ht1)
  have hn3 := e3 _ hn2 fun z => absurd (mut_all z) (hoff _ hn1)
  refine law8 (dr 5) hsc KX T K0 hEk F3 N3 q1 q2 q3 hK hn3 hnv.len.symm hz4 (by omega) (by omega) ?_
  intro h4 tk4 m4 Y4 lc cvs nc F4 N4 e4 r1 r2 r3 r4 hlc hcv hcl
  rw [List.drop_drop]
  exact law11 (dr 8) hsc KX T K0 hEk F4 N4 r1 r2 r3 r4 (hK.mono e4) hlc hcv hcl (Evo.mem e4 ht3) ((htv2.mono e3).mono e4) (Evo.mem e4 hn3) ((hnv2.mono e3).mono e4) (fun x hx => Nat.le_trans (hd1 x hx) (by decide)) (fun x hx => Nat.le_trans (hd2 x hx) (by decide)) (by omega) (by omega) hend
end
section
-- nofill
/- Names taken, and nothing else: each row below is True. For each state that the library's head writes under law_ok it would lay
a second form (tw..) and its equation (te..), for the kernel's speed alone; where the name is taken, it goes on with the state as
it is. At this program's 607 objects those equations are 115 MB of the compiled file; without them the head is proved in the same
way, and faster. No proof below stands upon these rows. -/
theorem law_ok.tw10012479879170010862 : True := trivial
theorem law_ok.tw10043700743546411219 : True := trivial
theorem law_ok.tw10071457202318957091 : True := trivial
theorem law_ok.tw10141859146593582305 : True := trivial
theorem law_ok.tw10286081905624737889 : True := trivial
theorem law_ok.tw10297157063837515552 : True := trivial
theorem law_ok.tw10297574901788101794 : True := trivial
theorem law_ok.tw1030366899970740395 : True := trivial
theorem law_ok.tw1033563876918301386 : True := trivial
theorem law_ok.tw10339350219819380992 : True := trivial
theorem law_ok.tw10342169592287685949 : True := trivial
theorem law_ok.tw10372596584106923900 : True := trivial
theorem law_ok.tw1038946958811069917 : True := trivial
theorem law_ok.tw10414963769798558729 : True := trivial
theorem law_ok.tw10445056624341554395 : True := trivial
theorem law_ok.tw10447904064755599642 : True := trivial
theorem law_ok.tw10459375310814284735 : True := trivial
theorem law_ok.tw10459500480057450255 : True := trivial
theorem law_ok.tw10472654678707686436 : True := trivial
theorem law_ok.tw10476424027884668821 : True := trivial
theorem law_ok.tw10488011732319749419 : True := trivial
theorem law_ok.tw10492020577589755282 : True := trivial
theorem law_ok.tw10505551596932773286 : True := trivial
theorem law_ok.tw10547367356602853888 : True := trivial
theorem law_ok.tw10561700564135272432 : True := trivial
theorem law_ok.tw10590749821266192738 : True := trivial
theorem law_ok.tw10600113419552330170 : True := trivial
theorem law_ok.tw10625090877074703825 : True := trivial
theorem law_ok.tw10636189744880577726 : True := trivial
theorem law_ok.tw1066148309881797463 : True := trivial
theorem law_ok.tw10704014690910382523 : True := trivial
theorem law_ok.tw10711307178010309023 : True := trivial
theorem law_ok.tw10746965574311647383 : True := trivial
theorem law_ok.tw10775508585936697610 : True := trivial
theorem law_ok.tw10789341057215718106 : True := trivial
theorem law_ok.tw10792732916168874012 : True := trivial
theorem law_ok.tw10798943744831304352 : True := trivial
theorem law_ok.tw10838004568280948937 : True := trivial
theorem law_ok.tw10845265928669503487 : True := trivial
theorem law_ok.tw10861644312172809063 : True := trivial
theorem law_ok.tw10869366540074513172 : True := trivial
theorem law_ok.tw1089120489518695355 : True := trivial
theorem law_ok.tw10891882547920919738 : True := trivial
theorem law_ok.tw10904749744504994294 : True := trivial
theorem law_ok.tw10905902130376236752 : True := trivial
theorem law_ok.tw1091793337230168975 : True := trivial
theorem law_ok.tw10921849914867165041 : True := trivial
theorem law_ok.tw10924933103251322350 : True := trivial
theorem law_ok.tw10946702324925661976 : True := trivial
theorem law_ok.tw10952926067378490198 : True := trivial
theorem law_ok.tw10962527726413813614 : True := trivial
theorem law_ok.tw10965555587067577654 : True := trivial
theorem law_ok.tw11000818138347100103 : True := trivial
theorem law_ok.tw11034764148145307989 : True := trivial
theorem law_ok.tw11047920712682165190 : True := trivial
theorem law_ok.tw11060437701027195343 : True := trivial
theorem law_ok.tw11067398991024188959 : True := trivial
theorem law_ok.tw11078584202671501607 : True := trivial
theorem law_ok.tw11101197923615915921 : True := trivial
theorem law_ok.tw11102426719226159226 : True := trivial
theorem law_ok.tw11109130932970573483 : True := trivial
theorem law_ok.tw1113795804304036723 : True := trivial
theorem law_ok.tw11148672621180681492 : True := trivial
theorem law_ok.tw11156873459782989095 : True := trivial
theorem law_ok.tw11196480170201697940 : True := trivial
theorem law_ok.tw1123876990009098271 : True := trivial
theorem law_ok.tw11253100916375381258 : True := trivial
theorem law_ok.tw11273256547395381130 : True := trivial
theorem law_ok.tw11273813469567551250 : True := trivial
theorem law_ok.tw11365692031351271325 : True := trivial
theorem law_ok.tw11386081972187129749 : True := trivial
theorem law_ok.tw11396957916140393920 : True := trivial
theorem law_ok.tw11428322920017081344 : True := trivial
theorem law_ok.tw11451878056061501010 : True := trivial
theorem law_ok.tw11494174202697743994 : True := trivial
theorem law_ok.tw11509241127786303370 : True := trivial
theorem law_ok.tw11522079498903683586 : True := trivial
theorem law_ok.tw11524619088135352344 : True := trivial
theorem law_ok.tw1154088625609757729 : True := trivial
theorem law_ok.tw11561936418431809499 : True := trivial
theorem law_ok.tw11581986511603125189 : True := trivial
theorem law_ok.tw11642336483550856098 : True := trivial
theorem law_ok.tw11688280737032409427 : True := trivial
theorem law_ok.tw11702203403409982260 : True := trivial
theorem law_ok.tw11726557904778967422 : True := trivial
theorem law_ok.tw11743352878347851914 : True := trivial
theorem law_ok.tw11748903463831704680 : True := trivial
theorem law_ok.tw11763095610724918707 : True := trivial
theorem law_ok.tw11773316227452262185 : True := trivial
theorem law_ok.tw11781487767613486815 : True := trivial
theorem law_ok.tw11802476623031146041 : True := trivial
theorem law_ok.tw11811496802793099539 : True := trivial
theorem law_ok.tw11825246478555830647 : True := trivial
theorem law_ok.tw11846295515681956781 : True := trivial
theorem law_ok.tw11900804911919351568 : True := trivial
theorem law_ok.tw11975201221276152393 : True := trivial
theorem law_ok.tw11982750745061242497 : True := trivial
theorem law_ok.tw11985721062450620623 : True := trivial
theorem law_ok.tw12012363894223229729 : True := trivial
theorem law_ok.tw12030359265031933573 : True := trivial
theorem law_ok.tw12032936306102685367 : True := trivial
theorem law_ok.tw1204937335870809952 : True := trivial
theorem law_ok.tw12062847528558227363 : True := trivial
theorem law_ok.tw12068983520814989463 : True := trivial
theorem law_ok.tw12091767710172878752 : True := trivial
theorem law_ok.tw12112973673008751705 : True := trivial
theorem law_ok.tw12165137746278023630 : True := trivial
theorem law_ok.tw12179942214473075342 : True := trivial
theorem law_ok.tw1220030944622457381 : True := trivial
theorem law_ok.tw12238868398705397261 : True := trivial
theorem law_ok.tw12241564642685785879 : True := trivial
theorem law_ok.tw12254368416156085317 : True := trivial
theorem law_ok.tw12263194681774924717 : True := trivial
theorem law_ok.tw1226483584014160141 : True := trivial
theorem law_ok.tw12331781611874594633 : True := trivial
theorem law_ok.tw12391086972666550107 : True := trivial
theorem law_ok.tw12397938930275722795 : True := trivial
theorem law_ok.tw1240012278758316483 : True := trivial
theorem law_ok.tw12403147902078164853 : True := trivial
theorem law_ok.tw12425992467787610314 : True := trivial
theorem law_ok.tw12457980233825065490 : True := trivial
theorem law_ok.tw12490153383875378636 : True := trivial
theorem law_ok.tw12520989227053031312 : True := trivial
theorem law_ok.tw12528335116697255576 : True := trivial
theorem law_ok.tw12530349180650793934 : True := trivial
theorem law_ok.tw12585300629676246653 : True := trivial
theorem law_ok.tw12590893165067909224 : True := trivial
theorem law_ok.tw12614643848160342147 : True := trivial
theorem law_ok.tw12654780229465643010 : True := trivial
theorem law_ok.tw12655982050399246214 : True := trivial
theorem law_ok.tw1265780246679066344 : True := trivial
theorem law_ok.tw12696019487870668043 : True := trivial
theorem law_ok.tw1270216625399542103 : True := trivial
theorem law_ok.tw12758063562782191 : True := trivial
theorem law_ok.tw12759705822619952297 : True := trivial
theorem law_ok.tw12768317785297742883 : True := trivial
theorem law_ok.tw1279560984534083479 : True := trivial
theorem law_ok.tw12851383554650571829 : True := trivial
theorem law_ok.tw12873741765787739702 : True := trivial
theorem law_ok.tw12912878243319032510 : True := trivial
theorem law_ok.tw12945344741440858319 : True := trivial
theorem law_ok.tw12995852178635112203 : True := trivial
theorem law_ok.tw13021271742673932865 : True := trivial
theorem law_ok.tw13022590507434106435 : True := trivial
theorem law_ok.tw1306241110963214795 : True := trivial
theorem law_ok.tw13064267164985243641 : True := trivial
theorem law_ok.tw13085151271488648169 : True := trivial
theorem law_ok.tw13085212291775750020 : True := trivial
theorem law_ok.tw13099867473740493098 : True := trivial
theorem law_ok.tw13101834047339246624 : True := trivial
theorem law_ok.tw13127696471131091095 : True := trivial
theorem law_ok.tw13131608519790794340 : True := trivial
theorem law_ok.tw13144202363461702641 : True := trivial
theorem law_ok.tw13200875542295570209 : True := trivial
theorem law_ok.tw13222505512851808361 : True := trivial
theorem law_ok.tw13229462541264499840 : True := trivial
theorem law_ok.tw13238614823768766014 : True := trivial
theorem law_ok.tw13285863472709499693 : True := trivial
theorem law_ok.tw13301257972681283543 : True := trivial
theorem law_ok.tw13327827979365782507 : True := trivial
theorem law_ok.tw13342742401248724747 : True := trivial
theorem law_ok.tw1336026617802344131 : True := trivial
theorem law_ok.tw13394816773133605588 : True := trivial
theorem law_ok.tw13415629036179248361 : True := trivial
theorem law_ok.tw13433541878458056358 : True := trivial
theorem law_ok.tw13436636125508984914 : True := trivial
theorem law_ok.tw13446426429208353352 : True := trivial
theorem law_ok.tw13475010574379940186 : True := trivial
theorem law_ok.tw13475123123177324015 : True := trivial
theorem law_ok.tw13496940513975544108 : True := trivial
theorem law_ok.tw1350528267803081702 : True := trivial
theorem law_ok.tw13532318231979164376 : True := trivial
theorem law_ok.tw13545497429126178422 : True := trivial
theorem law_ok.tw13565322203896492608 : True := trivial
theorem law_ok.tw13574991917116087893 : True := trivial
theorem law_ok.tw13597333520160298596 : True := trivial
theorem law_ok.tw13601698912884245990 : True := trivial
theorem law_ok.tw13621243887627054842 : True := trivial
theorem law_ok.tw13627918818707173467 : True := trivial
theorem law_ok.tw13665329438705366092 : True := trivial
theorem law_ok.tw13697322245319094025 : True := trivial
theorem law_ok.tw13702176116457618797 : True := trivial
theorem law_ok.tw13712868808740333699 : True := trivial
theorem law_ok.tw13716497879146266760 : True := trivial
theorem law_ok.tw13720528057907314082 : True := trivial
theorem law_ok.tw13748006842988471338 : True := trivial
theorem law_ok.tw13786520517968327729 : True := trivial
theorem law_ok.tw13813039785796836024 : True := trivial
theorem law_ok.tw13814273553951929546 : True := trivial
theorem law_ok.tw13816265215709503744 : True := trivial
theorem law_ok.tw13824868169494187883 : True := trivial
theorem law_ok.tw13834347481115241895 : True := trivial
theorem law_ok.tw13868894194935865647 : True := trivial
theorem law_ok.tw13881730086140979010 : True := trivial
theorem law_ok.tw13882598791657318424 : True := trivial
theorem law_ok.tw13889651640324684624 : True := trivial
theorem law_ok.tw13895035210866501885 : True := trivial
theorem law_ok.tw13912293236101437264 : True := trivial
theorem law_ok.tw13952841820173172036 : True := trivial
theorem law_ok.tw13956970233140757012 : True := trivial
theorem law_ok.tw13964362790050138126 : True := trivial
theorem law_ok.tw13970080270058280119 : True := trivial
theorem law_ok.tw14019946597874815884 : True := trivial
theorem law_ok.tw14079362423148100939 : True := trivial
theorem law_ok.tw14094815315185448338 : True := trivial
theorem law_ok.tw1411395524442878071 : True := trivial
theorem law_ok.tw14133953589978561511 : True := trivial
theorem law_ok.tw14142314080292169694 : True := trivial
theorem law_ok.tw14145103849939954744 : True := trivial
theorem law_ok.tw14195192171034933768 : True := trivial
theorem law_ok.tw14198588023993606764 : True := trivial
theorem law_ok.tw14229092083918362485 : True := trivial
theorem law_ok.tw14248210991872372061 : True := trivial
theorem law_ok.tw1426654599973094809 : True := trivial
theorem law_ok.tw14292374992998358023 : True := trivial
theorem law_ok.tw14344687710529873745 : True := trivial
theorem law_ok.tw14387815473439380390 : True := trivial
theorem law_ok.tw14415564343559873875 : True := trivial
theorem law_ok.tw14426832840004764686 : True := trivial
theorem law_ok.tw14434180179415169566 : True := trivial
theorem law_ok.tw14435985506372926911 : True := trivial
theorem law_ok.tw14496564842260790783 : True := trivial
theorem law_ok.tw14543365057036940560 : True := trivial
theorem law_ok.tw14555245534657897199 : True := trivial
theorem law_ok.tw14570104732457111890 : True := trivial
theorem law_ok.tw14652604958342383117 : True := trivial
theorem law_ok.tw14696471081025107357 : True := trivial
theorem law_ok.tw14707295485655203418 : True := trivial
theorem law_ok.tw14713607780834248044 : True := trivial
theorem law_ok.tw14720877084124032599 : True := trivial
theorem law_ok.tw14736669635421143225 : True := trivial
theorem law_ok.tw14771721099278105165 : True := trivial
theorem law_ok.tw14790003884176563554 : True := trivial
theorem law_ok.tw14814581690689388803 : True := trivial
theorem law_ok.tw14849790255880589400 : True := trivial
theorem law_ok.tw14866976346458632932 : True := trivial
theorem law_ok.tw14870816276347465506 : True := trivial
theorem law_ok.tw14926717419432682100 : True := trivial
theorem law_ok.tw14930752582495332653 : True := trivial
theorem law_ok.tw14934395583118738618 : True := trivial
theorem law_ok.tw14962452690395488154 : True := trivial
theorem law_ok.tw14964057328375972201 : True := trivial
theorem law_ok.tw14978807439564852327 : True := trivial
theorem law_ok.tw15000166883336172518 : True := trivial
theorem law_ok.tw15014230715244938515 : True := trivial
theorem law_ok.tw15047172837301376754 : True := trivial
theorem law_ok.tw15078316574438740354 : True := trivial
theorem law_ok.tw15152959797412011728 : True := trivial
theorem law_ok.tw15185761139090470538 : True := trivial
theorem law_ok.tw15206611300927271380 : True := trivial
theorem law_ok.tw15247906133749373782 : True := trivial
theorem law_ok.tw15284189114198517620 : True := trivial
theorem law_ok.tw15291305029495615819 : True := trivial
theorem law_ok.tw15297413821293117384 : True := trivial
theorem law_ok.tw15304970921279981248 : True := trivial
theorem law_ok.tw15317074118795815421 : True := trivial
theorem law_ok.tw1532434094815970482 : True := trivial
theorem law_ok.tw15351942187670410251 : True := trivial
theorem law_ok.tw15354024991535793412 : True := trivial
theorem law_ok.tw15386226198392641467 : True := trivial
theorem law_ok.tw1542387345001747316 : True := trivial
theorem law_ok.tw15432726820904863456 : True := trivial
theorem law_ok.tw1544551959888955725 : True := trivial
theorem law_ok.tw15472547060870224796 : True := trivial
theorem law_ok.tw15481942193886319968 : True := trivial
theorem law_ok.tw1548772664898252541 : True := trivial
theorem law_ok.tw15597828353343400504 : True := trivial
theorem law_ok.tw156358884595364801 : True := trivial
theorem law_ok.tw15703463465939647224 : True := trivial
theorem law_ok.tw15775443860911651436 : True := trivial
theorem law_ok.tw15789105653453399672 : True := trivial
theorem law_ok.tw15800018159172396415 : True := trivial
theorem law_ok.tw15800079260411616712 : True := trivial
theorem law_ok.tw15833004055134317831 : True := trivial
theorem law_ok.tw15833800308006868869 : True := trivial
theorem law_ok.tw15846149233760976488 : True := trivial
theorem law_ok.tw15865698980756406732 : True := trivial
theorem law_ok.tw15897875876423469450 : True := trivial
theorem law_ok.tw15912479167100210143 : True := trivial
theorem law_ok.tw15923666913787406832 : True := trivial
theorem law_ok.tw15943797790640218661 : True := trivial
theorem law_ok.tw15950953646405357893 : True := trivial
theorem law_ok.tw15972769693900946611 : True := trivial
theorem law_ok.tw15981648590296615016 : True := trivial
theorem law_ok.tw16028928752713079443 : True := trivial
theorem law_ok.tw16035615327186478290 : True := trivial
theorem law_ok.tw16067049722670180851 : True := trivial
theorem law_ok.tw16080425892960069609 : True := trivial
theorem law_ok.tw16166655704125280943 : True := trivial
theorem law_ok.tw16168004281077227485 : True := trivial
theorem law_ok.tw16175372668556065777 : True := trivial
theorem law_ok.tw1617939559688827673 : True := trivial
theorem law_ok.tw16222934209659601053 : True := trivial
theorem law_ok.tw16257485527137555949 : True := trivial
theorem law_ok.tw16431081600542864865 : True := trivial
theorem law_ok.tw1645718758581806170 : True := trivial
theorem law_ok.tw16457864223248855553 : True := trivial
theorem law_ok.tw16468050772434239819 : True := trivial
theorem law_ok.tw16481501514083677587 : True := trivial
theorem law_ok.tw16489815488682211055 : True := trivial
theorem law_ok.tw16490305706116132250 : True := trivial
theorem law_ok.tw16495207245201107632 : True := trivial
theorem law_ok.tw16506373281137625932 : True := trivial
theorem law_ok.tw16544328010851332092 : True := trivial
theorem law_ok.tw16556105016720208607 : True := trivial
theorem law_ok.tw16557225700197076878 : True := trivial
theorem law_ok.tw16615214514676263352 : True := trivial
theorem law_ok.tw16649579154727535558 : True := trivial
theorem law_ok.tw1667917884393270531 : True := trivial
theorem law_ok.tw16684461108945919533 : True := trivial
theorem law_ok.tw16696067601688687413 : True := trivial
theorem law_ok.tw1670100751684081796 : True := trivial
theorem law_ok.tw16705599948698527364 : True := trivial
theorem law_ok.tw16737507432439321175 : True := trivial
theorem law_ok.tw16760701245908571908 : True := trivial
theorem law_ok.tw16779505384208271662 : True := trivial
theorem law_ok.tw16780835988347825435 : True := trivial
theorem law_ok.tw16794728932027564254 : True := trivial
theorem law_ok.tw168027094499749093 : True := trivial
theorem law_ok.tw16806498575139375868 : True := trivial
theorem law_ok.tw16817230699459737761 : True := trivial
theorem law_ok.tw16860638618376947269 : True := trivial
theorem law_ok.tw16872721295246069513 : True := trivial
theorem law_ok.tw1688868516474116982 : True := trivial
theorem law_ok.tw16899084733008507368 : True := trivial
theorem law_ok.tw16919416429652957973 : True := trivial
theorem law_ok.tw1693716250125123597 : True := trivial
theorem law_ok.tw17005047509767832177 : True := trivial
theorem law_ok.tw17092127478106005679 : True := trivial
theorem law_ok.tw1709718534730700757 : True := trivial
theorem law_ok.tw17105747857123930427 : True := trivial
theorem law_ok.tw17107015491105200507 : True := trivial
theorem law_ok.tw17119112713897922501 : True := trivial
theorem law_ok.tw17124383835018941105 : True := trivial
theorem law_ok.tw17160577548441743302 : True := trivial
theorem law_ok.tw17182374122394589212 : True := trivial
theorem law_ok.tw17185738000041328219 : True := trivial
theorem law_ok.tw17257499759292082622 : True := trivial
theorem law_ok.tw17263489374239603806 : True := trivial
theorem law_ok.tw17275844055137569052 : True := trivial
theorem law_ok.tw17321683602496824614 : True := trivial
theorem law_ok.tw17345671147895247953 : True := trivial
theorem law_ok.tw17383234201581434283 : True := trivial
theorem law_ok.tw17404557632949777309 : True := trivial
theorem law_ok.tw17407193882065761966 : True := trivial
theorem law_ok.tw17428858707428213299 : True := trivial
theorem law_ok.tw17429893922571153566 : True := trivial
theorem law_ok.tw17437983384563281072 : True := trivial
theorem law_ok.tw17447990527176612490 : True := trivial
theorem law_ok.tw17476259874602751844 : True := trivial
theorem law_ok.tw17498379449111202454 : True := trivial
theorem law_ok.tw17503735680547262872 : True := trivial
theorem law_ok.tw17530013617072845629 : True := trivial
theorem law_ok.tw17531338606364577921 : True := trivial
theorem law_ok.tw17539102390545846742 : True := trivial
theorem law_ok.tw1755249971630584058 : True := trivial
theorem law_ok.tw17600205995241550929 : True := trivial
theorem law_ok.tw17609075772846507584 : True := trivial
theorem law_ok.tw17658515177410677963 : True := trivial
theorem law_ok.tw17673854431933056547 : True := trivial
theorem law_ok.tw17689579215900992003 : True := trivial
theorem law_ok.tw17693967819148865893 : True := trivial
theorem law_ok.tw17697450005493114937 : True := trivial
theorem law_ok.tw17703525899094448728 : True := trivial
theorem law_ok.tw1770552714482014285 : True := trivial
theorem law_ok.tw17752974856672481153 : True := trivial
theorem law_ok.tw17771499115097639154 : True := trivial
theorem law_ok.tw17796375532461347730 : True := trivial
theorem law_ok.tw17814190411114186632 : True := trivial
theorem law_ok.tw17817474421014106635 : True := trivial
theorem law_ok.tw17908630626508599730 : True := trivial
theorem law_ok.tw17911166970601896736 : True := trivial
theorem law_ok.tw17938762214850685786 : True := trivial
theorem law_ok.tw17943348233596182406 : True := trivial
theorem law_ok.tw17948183874482008266 : True := trivial
theorem law_ok.tw18032699716851397758 : True := trivial
theorem law_ok.tw18039046120053971649 : True := trivial
theorem law_ok.tw18118558807831606073 : True := trivial
theorem law_ok.tw18159556251797688085 : True := trivial
theorem law_ok.tw18186013307763024825 : True := trivial
theorem law_ok.tw18282492521119060558 : True := trivial
theorem law_ok.tw18308706271341169422 : True := trivial
theorem law_ok.tw18321058273930184512 : True := trivial
theorem law_ok.tw1833027472594368290 : True := trivial
theorem law_ok.tw18363092486636866764 : True := trivial
theorem law_ok.tw18366588320268564889 : True := trivial
theorem law_ok.tw18367772011930019650 : True := trivial
theorem law_ok.tw18371744995208566494 : True := trivial
theorem law_ok.tw1837475414349959933 : True := trivial
theorem law_ok.tw18391729116086207068 : True := trivial
theorem law_ok.tw18430309895571116687 : True := trivial
theorem law_ok.tw18442408421953962277 : True := trivial
theorem law_ok.tw1851587540257378555 : True := trivial
theorem law_ok.tw1897027228844486584 : True := trivial
theorem law_ok.tw1899734961770360985 : True := trivial
theorem law_ok.tw191302682651031135 : True := trivial
theorem law_ok.tw1922008925457613082 : True := trivial
theorem law_ok.tw1939501422829569747 : True := trivial
theorem law_ok.tw1941622324806697116 : True := trivial
theorem law_ok.tw1942246841123498078 : True := trivial
theorem law_ok.tw1959508993253476546 : True := trivial
theorem law_ok.tw1972135924236673772 : True := trivial
theorem law_ok.tw1972230953914648179 : True := trivial
theorem law_ok.tw1975379508185871681 : True := trivial
theorem law_ok.tw2030563397340796305 : True := trivial
theorem law_ok.tw2053400630596354368 : True := trivial
theorem law_ok.tw2113244870736765749 : True := trivial
theorem law_ok.tw2142027547289754598 : True := trivial
theorem law_ok.tw2144394055862137324 : True := trivial
theorem law_ok.tw2189977595117084848 : True := trivial
theorem law_ok.tw219970694643851168 : True := trivial
theorem law_ok.tw2240993679852206019 : True := trivial
theorem law_ok.tw2245398979460277840 : True := trivial
theorem law_ok.tw225493093074315945 : True := trivial
theorem law_ok.tw2384844188892357934 : True := trivial
theorem law_ok.tw2393612199109255845 : True := trivial
theorem law_ok.tw2394970061459070866 : True := trivial
theorem law_ok.tw2395284668283714868 : True := trivial
theorem law_ok.tw2436454712634590527 : True := trivial
theorem law_ok.tw2461231055418726782 : True := trivial
theorem law_ok.tw2498936172229020908 : True := trivial
theorem law_ok.tw2509147778413210194 : True := trivial
theorem law_ok.tw2511601452851242140 : True := trivial
theorem law_ok.tw255809293959391352 : True := trivial
theorem law_ok.tw2597924943688068011 : True := trivial
theorem law_ok.tw2622875324353621139 : True := trivial
theorem law_ok.tw2634175286366372716 : True := trivial
theorem law_ok.tw2648901860514524259 : True := trivial
theorem law_ok.tw2651769136145787535 : True := trivial
theorem law_ok.tw2686679281905746093 : True := trivial
theorem law_ok.tw2697588489022566568 : True := trivial
theorem law_ok.tw2704096272521550462 : True := trivial
theorem law_ok.tw2750692357778865536 : True := trivial
theorem law_ok.tw2770972220882614294 : True := trivial
theorem law_ok.tw2774956930009235795 : True := trivial
theorem law_ok.tw2776928121632198374 : True := trivial
theorem law_ok.tw278511747144479309 : True := trivial
theorem law_ok.tw2798167170240900975 : True := trivial
theorem law_ok.tw2812405918973263503 : True := trivial
theorem law_ok.tw2814691256925988907 : True := trivial
theorem law_ok.tw2849246472279420467 : True := trivial
theorem law_ok.tw2859378147814560730 : True := trivial
theorem law_ok.tw2859379352625660630 : True := trivial
theorem law_ok.tw2879535940504650089 : True := trivial
theorem law_ok.tw2882748451482491249 : True := trivial
theorem law_ok.tw2899832004034143871 : True := trivial
theorem law_ok.tw2904811999133846107 : True := trivial
theorem law_ok.tw2957684812295641845 : True := trivial
theorem law_ok.tw296402391286839642 : True := trivial
theorem law_ok.tw2965145976613160969 : True := trivial
theorem law_ok.tw2968233127391319962 : True := trivial
theorem law_ok.tw2968502055024114333 : True := trivial
theorem law_ok.tw2978461460213582753 : True := trivial
theorem law_ok.tw3036504707139174077 : True := trivial
theorem law_ok.tw3038783601953147494 : True := trivial
theorem law_ok.tw3086143144214301317 : True := trivial
theorem law_ok.tw3123836420709219045 : True := trivial
theorem law_ok.tw3130132153820843868 : True := trivial
theorem law_ok.tw3134144475379061952 : True := trivial
theorem law_ok.tw3146441554569569552 : True := trivial
theorem law_ok.tw3172265459198918903 : True := trivial
theorem law_ok.tw3190613102788852186 : True := trivial
theorem law_ok.tw3236652726748959999 : True := trivial
theorem law_ok.tw3250261743335337256 : True := trivial
theorem law_ok.tw327688865159038549 : True := trivial
theorem law_ok.tw328192420710714510 : True := trivial
theorem law_ok.tw3292275700789014140 : True := trivial
theorem law_ok.tw3299532818679661461 : True := trivial
theorem law_ok.tw3302864137107628383 : True := trivial
theorem law_ok.tw3310113703913284162 : True := trivial
theorem law_ok.tw3313104851707978535 : True := trivial
theorem law_ok.tw3314086101199045293 : True := trivial
theorem law_ok.tw3326567852587728545 : True := trivial
theorem law_ok.tw3348478462896623383 : True := trivial
theorem law_ok.tw3359010211013809434 : True := trivial
theorem law_ok.tw3377332621456873166 : True := trivial
theorem law_ok.tw3397544926531586335 : True := trivial
theorem law_ok.tw3404626719791550520 : True := trivial
theorem law_ok.tw3415410179560851311 : True := trivial
theorem law_ok.tw3416740783924209247 : True := trivial
theorem law_ok.tw3443838150187576216 : True := trivial
theorem law_ok.tw3448229924677011965 : True := trivial
theorem law_ok.tw3457206415287749275 : True := trivial
theorem law_ok.tw3464390932328452950 : True := trivial
theorem law_ok.tw3471996853604012508 : True := trivial
theorem law_ok.tw3481922831588024733 : True := trivial
theorem law_ok.tw3493936654048594489 : True := trivial
theorem law_ok.tw3494671553356957294 : True := trivial
theorem law_ok.tw3511720378182323665 : True := trivial
theorem law_ok.tw3515588709311328248 : True := trivial
theorem law_ok.tw3532723196582461764 : True := trivial
theorem law_ok.tw3551532131078726483 : True := trivial
theorem law_ok.tw3563835413860582142 : True := trivial
theorem law_ok.tw357439545951085703 : True := trivial
theorem law_ok.tw3583993871058681366 : True := trivial
theorem law_ok.tw3593881455434780479 : True := trivial
theorem law_ok.tw3610314518991628617 : True := trivial
theorem law_ok.tw363558789653745918 : True := trivial
theorem law_ok.tw3644044182132770064 : True := trivial
theorem law_ok.tw3681687449868027528 : True := trivial
theorem law_ok.tw3693212469901493656 : True := trivial
theorem law_ok.tw3695663026427050684 : True := trivial
theorem law_ok.tw3706698780173127498 : True := trivial
theorem law_ok.tw3768775479905045936 : True := trivial
theorem law_ok.tw3769161970980628659 : True := trivial
theorem law_ok.tw3783414400398684795 : True := trivial
theorem law_ok.tw37930724777668470 : True := trivial
theorem law_ok.tw3800658605591150582 : True := trivial
theorem law_ok.tw3802815668926819264 : True := trivial
theorem law_ok.tw3836197038641584248 : True := trivial
theorem law_ok.tw383655492102331692 : True := trivial
theorem law_ok.tw3843072059817799774 : True := trivial
theorem law_ok.tw3882936520366082941 : True := trivial
theorem law_ok.tw3886123418890178925 : True := trivial
theorem law_ok.tw3921107970179883728 : True := trivial
theorem law_ok.tw3922126864113833554 : True := trivial
theorem law_ok.tw3928024658850009200 : True := trivial
theorem law_ok.tw398547918841541480 : True := trivial
theorem law_ok.tw4022521482298940053 : True := trivial
theorem law_ok.tw4026331345245386493 : True := trivial
theorem law_ok.tw4037177337398743211 : True := trivial
theorem law_ok.tw4039506420044499667 : True := trivial
theorem law_ok.tw4051661751014107989 : True := trivial
theorem law_ok.tw4057977685861522086 : True := trivial
theorem law_ok.tw4068203061858526167 : True := trivial
theorem law_ok.tw4070622113802893544 : True := trivial
theorem law_ok.tw4110846080685538540 : True := trivial
theorem law_ok.tw4115055491538133600 : True := trivial
theorem law_ok.tw4146940365872055462 : True := trivial
theorem law_ok.tw4161518952752577004 : True := trivial
theorem law_ok.tw4161536875352984808 : True := trivial
theorem law_ok.tw4175492114315624634 : True := trivial
theorem law_ok.tw421999103924851805 : True := trivial
theorem law_ok.tw4236508183388496933 : True := trivial
theorem law_ok.tw428490158010141058 : True := trivial
theorem law_ok.tw4285884056840290291 : True := trivial
theorem law_ok.tw4304987371571556260 : True := trivial
theorem law_ok.tw4333900472266966232 : True := trivial
theorem law_ok.tw4397499491859613397 : True := trivial
theorem law_ok.tw4413199352357101481 : True := trivial
theorem law_ok.tw443042806802728316 : True := trivial
theorem law_ok.tw443551138699594170 : True := trivial
theorem law_ok.tw4541704360429323886 : True := trivial
theorem law_ok.tw455122957415217379 : True := trivial
theorem law_ok.tw4566787275755180351 : True := trivial
theorem law_ok.tw4587582502796137803 : True := trivial
theorem law_ok.tw4597235756824410494 : True := trivial
theorem law_ok.tw4614079961404004870 : True := trivial
theorem law_ok.tw4644235553247067458 : True := trivial
theorem law_ok.tw4658015033352392890 : True := trivial
theorem law_ok.tw4665516462305634021 : True := trivial
theorem law_ok.tw467324209017664003 : True := trivial
theorem law_ok.tw4678560076761262200 : True := trivial
theorem law_ok.tw4736417984224356581 : True := trivial
theorem law_ok.tw4774106743280670270 : True := trivial
theorem law_ok.tw4774687955842178250 : True := trivial
theorem law_ok.tw4789336996671840836 : True := trivial
theorem law_ok.tw4838971101024340215 : True := trivial
theorem law_ok.tw4856078422803444416 : True := trivial
theorem law_ok.tw4857737992372715381 : True := trivial
theorem law_ok.tw4860214508480333103 : True := trivial
theorem law_ok.tw4864487941165642646 : True := trivial
theorem law_ok.tw4868491810751357464 : True := trivial
theorem law_ok.tw4874007899854315064 : True := trivial
theorem law_ok.tw4932779659677404492 : True := trivial
theorem law_ok.tw4933756284116128778 : True := trivial
theorem law_ok.tw4952439747524435535 : True := trivial
theorem law_ok.tw4954469535427822606 : True := trivial
theorem law_ok.tw4983816279090059528 : True := trivial
theorem law_ok.tw5046309074431404005 : True := trivial
theorem law_ok.tw5051961413961215649 : True := trivial
theorem law_ok.tw5056028539619161061 : True := trivial
theorem law_ok.tw5056263349066183239 : True := trivial
theorem law_ok.tw5061147260642216973 : True := trivial
theorem law_ok.tw5106033919597214175 : True := trivial
theorem law_ok.tw5130753112364674580 : True := trivial
theorem law_ok.tw5138390142323248730 : True := trivial
theorem law_ok.tw5140637634135525364 : True := trivial
theorem law_ok.tw5163593723154804294 : True := trivial
theorem law_ok.tw516500798494436915 : True := trivial
theorem law_ok.tw5197033033453071381 : True := trivial
theorem law_ok.tw5197287874925524071 : True := trivial
theorem law_ok.tw5218299322290461412 : True := trivial
theorem law_ok.tw5270961628933091654 : True := trivial
theorem law_ok.tw5299751704431768017 : True := trivial
theorem law_ok.tw5302928488789776547 : True := trivial
theorem law_ok.tw5389538095987651805 : True := trivial
theorem law_ok.tw5390954099367486457 : True := trivial
theorem law_ok.tw5410703576499266281 : True := trivial
theorem law_ok.tw5485794261957042688 : True := trivial
theorem law_ok.tw5492140474724192786 : True := trivial
theorem law_ok.tw5492307327761480934 : True := trivial
theorem law_ok.tw5494918511725434042 : True := trivial
theorem law_ok.tw5511186970432303777 : True := trivial
theorem law_ok.tw5536207748547261074 : True := trivial
theorem law_ok.tw5547751582133850625 : True := trivial
theorem law_ok.tw5556724948475932772 : True := trivial
theorem law_ok.tw557948428946883783 : True := trivial
theorem law_ok.tw559059283178257686 : True := trivial
theorem law_ok.tw5606795813905279752 : True := trivial
theorem law_ok.tw5607901104166350477 : True := trivial
theorem law_ok.tw5612255736371207582 : True := trivial
theorem law_ok.tw5616376864605653295 : True := trivial
theorem law_ok.tw5627804829132738560 : True := trivial
theorem law_ok.tw5639241688683333018 : True := trivial
theorem law_ok.tw5654866877798258666 : True := trivial
theorem law_ok.tw5672433003871487873 : True := trivial
theorem law_ok.tw5702349449593773649 : True := trivial
theorem law_ok.tw5711132312806214029 : True := trivial
theorem law_ok.tw5725207966628340872 : True := trivial
theorem law_ok.tw5727943250394705938 : True := trivial
theorem law_ok.tw5745881219748309986 : True := trivial
theorem law_ok.tw5800105236339770830 : True := trivial
theorem law_ok.tw5818451383861733601 : True := trivial
theorem law_ok.tw5828092847561013618 : True := trivial
theorem law_ok.tw5845254132780308483 : True := trivial
theorem law_ok.tw5845900518522644572 : True := trivial
theorem law_ok.tw5853016265149289253 : True := trivial
theorem law_ok.tw5862809404339315670 : True := trivial
theorem law_ok.tw5885198610316876843 : True := trivial
theorem law_ok.tw5949331248722358056 : True := trivial
theorem law_ok.tw5961400650964835003 : True := trivial
theorem law_ok.tw6067507120873186773 : True := trivial
theorem law_ok.tw6075597756878948436 : True := trivial
theorem law_ok.tw6083614255588362393 : True := trivial
theorem law_ok.tw6092394757653959987 : True := trivial
theorem law_ok.tw610683258762621035 : True := trivial
theorem law_ok.tw6116415586918407093 : True := trivial
theorem law_ok.tw6119902616877977780 : True := trivial
theorem law_ok.tw6135278550697651125 : True := trivial
theorem law_ok.tw6196086716693475949 : True := trivial
theorem law_ok.tw6201013973285289104 : True := trivial
theorem law_ok.tw6227314618395547815 : True := trivial
theorem law_ok.tw6234365932968520919 : True := trivial
theorem law_ok.tw6270996726546318833 : True := trivial
theorem law_ok.tw628684455492981207 : True := trivial
theorem law_ok.tw6291472560006979854 : True := trivial
theorem law_ok.tw6329816658005393691 : True := trivial
theorem law_ok.tw6373477671914155897 : True := trivial
theorem law_ok.tw6395936145319705130 : True := trivial
theorem law_ok.tw6399100591719391348 : True := trivial
theorem law_ok.tw6425686123292202348 : True := trivial
theorem law_ok.tw6429270379639164837 : True := trivial
theorem law_ok.tw6458852384838576435 : True := trivial
theorem law_ok.tw6507861058861306757 : True := trivial
theorem law_ok.tw6517837236645498204 : True := trivial
theorem law_ok.tw6522816244018363109 : True := trivial
theorem law_ok.tw6544649066083808821 : True := trivial
theorem law_ok.tw6555368654370989809 : True := trivial
theorem law_ok.tw6571040964710292307 : True := trivial
theorem law_ok.tw6580361837948046937 : True := trivial
theorem law_ok.tw6587264534874173053 : True := trivial
theorem law_ok.tw6591891247862952446 : True := trivial
theorem law_ok.tw6630156667820431417 : True := trivial
theorem law_ok.tw6674278666171318909 : True := trivial
theorem law_ok.tw6683414231463918119 : True := trivial
theorem law_ok.tw6693355176489758165 : True := trivial
theorem law_ok.tw6696296481769119477 : True := trivial
theorem law_ok.tw6697676792893987622 : True := trivial
theorem law_ok.tw6701529251705557659 : True := trivial
theorem law_ok.tw6715651952670004744 : True := trivial
theorem law_ok.tw6739132333992870913 : True := trivial
theorem law_ok.tw6750045367075623389 : True := trivial
theorem law_ok.tw6779066123314830357 : True := trivial
theorem law_ok.tw6786588686132397199 : True := trivial
theorem law_ok.tw6807300019566884232 : True := trivial
theorem law_ok.tw6840429287328245328 : True := trivial
theorem law_ok.tw6864149954232557700 : True := trivial
theorem law_ok.tw6869946163132378130 : True := trivial
theorem law_ok.tw6879505103504935048 : True := trivial
theorem law_ok.tw6881103172008864798 : True := trivial
theorem law_ok.tw6903274521176941149 : True := trivial
theorem law_ok.tw6916724476625247926 : True := trivial
theorem law_ok.tw695941549569141054 : True := trivial
theorem law_ok.tw6959974671057852399 : True := trivial
theorem law_ok.tw703737697363126227 : True := trivial
theorem law_ok.tw704427511573505180 : True := trivial
theorem law_ok.tw7090876626751824113 : True := trivial
theorem law_ok.tw7095595374189037121 : True := trivial
theorem law_ok.tw7107129403642223400 : True := trivial
theorem law_ok.tw7120540144654759304 : True := trivial
theorem law_ok.tw7128659961890874276 : True := trivial
theorem law_ok.tw7133712915830470743 : True := trivial
theorem law_ok.tw7159946618216295561 : True := trivial
theorem law_ok.tw7197968764640069862 : True := trivial
theorem law_ok.tw7287317394445052346 : True := trivial
theorem law_ok.tw729881484058225691 : True := trivial
theorem law_ok.tw731686142451666986 : True := trivial
theorem law_ok.tw7327205904302849805 : True := trivial
theorem law_ok.tw7345168437973457075 : True := trivial
theorem law_ok.tw7380626245004402895 : True := trivial
theorem law_ok.tw7393533207252905123 : True := trivial
theorem law_ok.tw7414602875821945213 : True := trivial
theorem law_ok.tw7460595315913643665 : True := trivial
theorem law_ok.tw7471519370151522856 : True := trivial
theorem law_ok.tw752075241935833846 : True := trivial
theorem law_ok.tw7530901438484319231 : True := trivial
theorem law_ok.tw7562125851381042987 : True := trivial
theorem law_ok.tw7579006364113896302 : True := trivial
theorem law_ok.tw7597298720162720655 : True := trivial
theorem law_ok.tw762986238519792243 : True := trivial
theorem law_ok.tw7633651183860273974 : True := trivial
theorem law_ok.tw7699023490990693164 : True := trivial
theorem law_ok.tw7724103620506020234 : True := trivial
theorem law_ok.tw7749858349589378183 : True := trivial
theorem law_ok.tw7754295942332163697 : True := trivial
theorem law_ok.tw7771995291731633939 : True := trivial
theorem law_ok.tw7781104154375679191 : True := trivial
theorem law_ok.tw7781694561704820005 : True := trivial
theorem law_ok.tw7800753143936429847 : True := trivial
theorem law_ok.tw7828925884729182058 : True := trivial
theorem law_ok.tw7836068811791364829 : True := trivial
theorem law_ok.tw786996363795456579 : True := trivial
theorem law_ok.tw7885080146466727186 : True := trivial
theorem law_ok.tw7925154803827948985 : True := trivial
theorem law_ok.tw7940104254659565633 : True := trivial
theorem law_ok.tw7944324216204701055 : True := trivial
theorem law_ok.tw7949205161778269821 : True := trivial
theorem law_ok.tw7954451512071153204 : True := trivial
theorem law_ok.tw7956825588811035645 : True := trivial
theorem law_ok.tw7973411963133785015 : True := trivial
theorem law_ok.tw8028379268315242531 : True := trivial
theorem law_ok.tw8059405673493423855 : True := trivial
theorem law_ok.tw8090660922422928455 : True := trivial
theorem law_ok.tw8099012543233601878 : True := trivial
theorem law_ok.tw8106674363369820319 : True := trivial
theorem law_ok.tw8156464013168892152 : True := trivial
theorem law_ok.tw8162602427667945145 : True := trivial
theorem law_ok.tw8164050534685592468 : True := trivial
theorem law_ok.tw8187682914386162547 : True := trivial
theorem law_ok.tw8226639455339457192 : True := trivial
theorem law_ok.tw8229349288375281981 : True := trivial
theorem law_ok.tw8273330295299669435 : True := trivial
theorem law_ok.tw8275342175473737420 : True := trivial
theorem law_ok.tw8301684986852356881 : True := trivial
theorem law_ok.tw834921858475244473 : True := trivial
theorem law_ok.tw8357174423250147279 : True := trivial
theorem law_ok.tw8389824584795154542 : True := trivial
theorem law_ok.tw8400099235280728698 : True := trivial
theorem law_ok.tw8401854158505552653 : True := trivial
theorem law_ok.tw8426114303878448733 : True := trivial
theorem law_ok.tw8434422832014117021 : True := trivial
theorem law_ok.tw847727941055411450 : True := trivial
theorem law_ok.tw8496532759432169086 : True := trivial
theorem law_ok.tw8508709348116517342 : True := trivial
theorem law_ok.tw8514067729014780500 : True := trivial
theorem law_ok.tw8540753929320731348 : True := trivial
theorem law_ok.tw8551513691888713800 : True := trivial
theorem law_ok.tw8564187558018316785 : True := trivial
theorem law_ok.tw8566103408621919302 : True := trivial
theorem law_ok.tw8568553685741017486 : True := trivial
theorem law_ok.tw8612188032287061992 : True := trivial
theorem law_ok.tw8641355956825103217 : True := trivial
theorem law_ok.tw8642123191243128220 : True := trivial
theorem law_ok.tw8644766479867292139 : True := trivial
theorem law_ok.tw8660877137108561252 : True := trivial
theorem law_ok.tw8667470147243138321 : True := trivial
theorem law_ok.tw871620886872778923 : True := trivial
theorem law_ok.tw8728204864968989200 : True := trivial
theorem law_ok.tw8764791915682733323 : True := trivial
theorem law_ok.tw8775339826668748581 : True := trivial
theorem law_ok.tw8786581348339002896 : True := trivial
theorem law_ok.tw8788467577374347694 : True := trivial
theorem law_ok.tw8805871569248703764 : True := trivial
theorem law_ok.tw8816127002517566422 : True := trivial
theorem law_ok.tw8844683008967792392 : True := trivial
theorem law_ok.tw8874662067609715569 : True := trivial
theorem law_ok.tw8888147876057167559 : True := trivial
theorem law_ok.tw8898347082211584682 : True := trivial
theorem law_ok.tw8909656736036225943 : True := trivial
theorem law_ok.tw890972045891980215 : True := trivial
theorem law_ok.tw8923166694253953231 : True := trivial
theorem law_ok.tw8963689822598334689 : True := trivial
theorem law_ok.tw8964622934037525996 : True := trivial
theorem law_ok.tw8989379596678952438 : True := trivial
theorem law_ok.tw9002194050464787830 : True := trivial
theorem law_ok.tw9038403344132875091 : True := trivial
theorem law_ok.tw9041346366847585609 : True := trivial
theorem law_ok.tw9063304045290268338 : True := trivial
theorem law_ok.tw9066104207282027034 : True := trivial
theorem law_ok.tw9091931450536184433 : True := trivial
theorem law_ok.tw9102003752085191599 : True := trivial
theorem law_ok.tw9126897531890875149 : True := trivial
theorem law_ok.tw9129753471904017975 : True := trivial
theorem law_ok.tw9137729118269060578 : True := trivial
theorem law_ok.tw9147286536214741111 : True := trivial
theorem law_ok.tw9170308833127400326 : True := trivial
theorem law_ok.tw9175137886316165188 : True := trivial
theorem law_ok.tw9175198099196055851 : True := trivial
theorem law_ok.tw9186407476834428805 : True := trivial
theorem law_ok.tw9192165532865250798 : True := trivial
theorem law_ok.tw9209506475045246085 : True := trivial
theorem law_ok.tw9218950413130701818 : True := trivial
theorem law_ok.tw9241447625738064489 : True := trivial
theorem law_ok.tw9268854088076951032 : True := trivial
theorem law_ok.tw9269516411418703488 : True := trivial
theorem law_ok.tw9287620622929026539 : True := trivial
theorem law_ok.tw929010900900277589 : True := trivial
theorem law_ok.tw9314298320268239346 : True := trivial
theorem law_ok.tw932924204213281592 : True := trivial
theorem law_ok.tw9364219374677748901 : True := trivial
theorem law_ok.tw9394616492489889813 : True := trivial
theorem law_ok.tw9455140690623246201 : True := trivial
theorem law_ok.tw9498035272811340100 : True := trivial
theorem law_ok.tw9515119364627169031 : True := trivial
theorem law_ok.tw9535547209482456188 : True := trivial
theorem law_ok.tw9557648855453342930 : True := trivial
theorem law_ok.tw9566712069845860653 : True := trivial
theorem law_ok.tw9579547324876612823 : True := trivial
theorem law_ok.tw9591688883836370594 : True := trivial
theorem law_ok.tw9604418253089763881 : True := trivial
theorem law_ok.tw9635931735073940407 : True := trivial
theorem law_ok.tw9636351077029538694 : True := trivial
theorem law_ok.tw9642713361060168799 : True := trivial
theorem law_ok.tw9675981739246116751 : True := trivial
theorem law_ok.tw9699306531441270430 : True := trivial
theorem law_ok.tw9724848086193736465 : True := trivial
theorem law_ok.tw9751766721021122910 : True := trivial
theorem law_ok.tw9828922866740397909 : True := trivial
theorem law_ok.tw9834653217662899570 : True := trivial
theorem law_ok.tw9854045853285351136 : True := trivial
theorem law_ok.tw9869134373298687432 : True := trivial
theorem law_ok.tw9887049267483205148 : True := trivial
theorem law_ok.tw9888618224128021812 : True := trivial
theorem law_ok.tw9891151408106901127 : True := trivial
theorem law_ok.tw9906654739855289921 : True := trivial
theorem law_ok.tw9910939817407672188 : True := trivial
theorem law_ok.tw9917933552089303921 : True := trivial
theorem law_ok.tw9928756112734708811 : True := trivial
theorem law_ok.tw9936488860474466115 : True := trivial
theorem law_ok.tw9959211713976880404 : True := trivial
theorem law_ok.tw9959466951576743032 : True := trivial
theorem law_ok.tw9963430150835850685 : True := trivial
theorem law_ok.tw9965239266033092146 : True := trivial
theorem law_ok.tw9972039519520966375 : True := trivial
theorem law_ok.tw997308134172144513 : True := trivial
theorem law_ok.tw9979533811563298035 : True := trivial
end
section
example : True := by
  k_with_none
  (k_with "k_ne" => (refine neN ?_; (try dsimp only); first | exact Nat.ne_of_gt (by with_reducible assumption) | exact Nat.ne_of_lt (by with_reducible assumption) | exact Nat.ne_of_gt (And.left (by with_reducible assumption)) | exact Nat.ne_of_lt (And.left (by with_reducible assumption)) | exact Nat.ne_of_gt (And.left (And.right (by with_reducible assumption))) | exact Nat.ne_of_lt (And.left (And.right (by with_reducible assumption))) | exact Nat.ne_of_gt (And.left (And.right (And.right (by with_reducible assumption)))) | exact Nat.ne_of_lt (And.left (And.right (And.right (by with_reducible assumption)))) | exact Nat.ne_of_gt (And.left (And.right (And.right (And.right (by with_reducible assumption))))) | exact Nat.ne_of_lt (And.left (And.right (And.right (And.right (by with_reducible assumption))))) | exact Nat.ne_of_gt (And.left (And.right (And.right (And.right (And.right (by with_reducible assumption)))))) | exact Nat.ne_of_gt (And.left (And.right (And.right (And.right (And.right (And.right (by with_reducible assumption))))))) | exact Nat.ne_of_gt (And.left (And.right (And.right (And.right (And.right (And.right (And.right (by with_reducible assumption)))))))) | exact Nat.ne_of_gt (And.left (And.right (And.right (And.right (And.right (And.right (And.right (And.right (by with_reducible assumption))))))))) | exact Nat.ne_of_gt (And.left (And.right (And.right (And.right (And.right (And.right (And.right (And.right (And.right (by with_reducible assumption)))))))))) | exact Nat.ne_of_gt (And.left (And.right (And.right (And.right (And.right (And.right (And.right (And.right (And.right (And.right (by with_reducible assumption))))))))))) | exact Nat.ne_of_gt (And.left (And.right (And.right (And.right (And.right (And.right (And.right (And.right (And.right (And.right (And.right (by with_reducible assumption)))))))))))) | exact Nat.ne_of_gt (And.left (And.right (And.right (And.right (And.right (And.right (And.right (And.right (And.right (And.right (And.right (And.right (by with_reducible assumption))))))))))))) | exact Nat.ne_of_gt (And.left (And.right (And.right (And.right (And.right (And.right (And.right (And.right (And.right (And.right (And.right (And.right (And.right (by with_reducible assumption))))))))))))))))
  (k_with "k_mem" => assumption)
  (k_with "k_get" => assumption)
  (k_with "eval ListComp" => (k_dflt (refine comp_eval (by k_asm) (by with_unfolding_all rfl) (by decide) (by rfl) (by decide) (by rfl) ?_)))
  (k_with "setItem ref str" => (k_dflt (refine' setItem_upd (by k_asm) (by k_asm) (by k_mem) (by assumption) (strKind_is _ _ _ _) (Nat.le_of_ble_eq_true rfl) rfl ?_); intro _ _ _ _ _))
  (k_with "ktd_rel" => first | exact Evo.refl | assumption | (refine Evo.then ?_; ktd_rel) | (refine Evo.trans ?_ (by assumption); ktd_rel))
  (k_with "exec Assign cons ListComp" => (k_dflt (first
      | (refine comp_assign (by k_asm) (by rfl) (by with_unfolding_all rfl) (by with_unfolding_all rfl) (by decide) (by rfl) (by decide) (by rfl) (by rfl) (by rfl) ?_)
      | (refine comp_assign_cell (by k_asm) (by rfl) (by with_unfolding_all rfl) (by with_unfolding_all rfl) (by decide) (by rfl) (by decide) (by rfl) (by rfl) (by rfl) (by rfl) ?_))))
  (k_with "call ref" => ((with_reducible show wpAny _ _ (call (Value.ref 555) _ _) _ _ _); k_dflt (refine' Does.on (by k_asm) (by k_asm) (by k_asm) (by k_asm) (by k_asm) (next_ok (by first | assumption | exact Feed.cons (by assumption)) (by omega) (by first | decide | omega)) rfl rfl (by (first | (first | exact room1 (by assumption) (by decide) | exact room0 (by assumption) (by decide) | (dsimp only [Around.deeper, Around.under, Around.in1]; omega)) | decide | omega)) (by (first | (first | exact room1 (by assumption) (by decide) | exact room0 (by assumption) (by decide) | (dsimp only [Around.deeper, Around.under, Around.in1]; omega)) | decide | omega)) ?_); rintro _ _ _ _ _ _ ⟨_, _, e9, _, _, _⟩; subst e9))
  (k_with "call ref" => ((with_reducible show wpAny _ _ (call (Value.ref 569) _ _) _ _ _); k_dflt (refine' Does.on (by k_asm) (by k_asm) (by k_asm) (by k_asm) (by k_asm) (shape_ok (by assumption) (by omega)) rfl rfl (by (first | (first | exact room1 (by assumption) (by decide) | exact room0 (by assumption) (by decide) | (dsimp only [Around.deeper, Around.under, Around.in1]; omega)) | decide | omega)) (by (first | (first | exact room1 (by assumption) (by decide) | exact room0 (by assumption) (by decide) | (dsimp only [Around.deeper, Around.under, Around.in1]; omega)) | decide | omega)) ?_); rintro _ _ _ _ _ _ ⟨_, _, _, _, _, _, _⟩))
  (k_with "call type:range" => (k_dflt (refine' range1_rows (by k_asm) (by k_asm) ?_); intro _ _ _ _ _ _ _ _ _))
  (k_with "exec For Name Call cons nil" => (k_dflt (refine for_led (by k_asm) (by rfl) (by rfl) ?_)))
  trivial
theorem feed_start {prog : Program} {w : World} {Y X : Led} {c d D : Addr} {o : Obj} {tk : Tok} {ys : List Value} {n : Nat} (e : Evo [c] Y X) (hd : (d, o) ∈ Y) (n1 : d ≠ c) (ho : o.IsDictOf (strKind prog w) [("cells", .ref D), ("spot", .int 0 tk)]) (hD : (D, lstO ys n) ∈ Y) (n2 : D ≠ c) (hI : ∃ ns, IntsAre ys ns) (hl : ys.length ≤ 100) (n3 : D ≠ d) : Feed prog w X d D 0 :=
  let ⟨ns, hI⟩ := hI; ⟨o, ys, ns, n, tk, e _ hd (fun z => absurd (List.mem_singleton.mp z) n1), ho, e _ hD (fun z => absurd (List.mem_singleton.mp z) n2), hI, hl, n3⟩
def ToldJ (prog : Program) (w : World) (d0 D : Addr) (i : Nat) (ys : List Value) (Y : Led) : Prop := ∃ xs k, ShsIn Y xs ys ∧ Feed prog w Y d0 D k ∧ k ≤ 1 + 10 * i ∧ (∀ x ∈ xs, x.dp ≤ 7) ∧ xs.length = i
theorem ToldJ.holds {prog : Program} {w : World} {d0 D : Addr} {X₀ : Led} {k : Nat} (hF : Feed prog w X₀ d0 D k) : Holds3 X₀ (ToldJ prog w d0 D) := by
  rintro i ys Y Y' S₃ hoff hE ⟨xs, k, h1, h2, h3⟩
  obtain ⟨⟨o1, m1⟩, o2, m2⟩ := hF.has
  exact ⟨xs, k, h1.mono hE, h2.keep hE (hoff _ m1) (hoff _ m2), h3⟩
theorem ToldJ.next {prog : Program} {w : World} {d0 D : Addr} {i k k' : Nat} {xs : List Sh} {x : Sh} {ys : List Value} {v : Value} {Y Y' : Led} (h1 : ShsIn Y xs ys) (h3 : k ≤ 1 + 10 * i) (h4 : ∀ x ∈ xs, x.dp ≤ 7) (h5 : xs.length = i)
    (hs : ShIn Y' v x) (hF : Feed prog w Y' d0 D k') (hd : x.dp ≤ 7) (hk : k' ≤ k + 10) (hE : Evo [d0] Y Y') : ToldJ prog w d0 D (i + 1) (ys ++ [v]) Y' :=
  ⟨xs ++ [x], k', (h1.mono hE).snoc hs, hF, by omega, fun z hz => (List.mem_append.mp hz).elim (h4 z) fun h => List.mem_singleton.mp h ▸ hd, by rw [List.length_append, h5]; rfl⟩
set_option Elab.async true in
theorem law_ok : PySem.Challenge.rw_qz0015_01.Holds := by
  w_on; o_law; k_head; (case hw => w_witness2)
  k_go0
  all_goals try k_fold
  rename_i w s0 s1 mg mb G Y fa o pm doc ho hg KX XM V GL T B TE TW a12 a11 M a10 a9 hcd script hs hlay0 hL1 hr1 hl2 a7 a6 la sv a3 hL ra ww1 r0 hI hr hcond1 hcond K0 hD h1 tk1 F o3 o2 o1 c3 c2 c1 N0 X0
  have KX0 : (hd.heap_1 w.params).In s1.heap := KX
  clear KX
  rename (hd.heap_1 w.params).In s1.heap => KX
  have hend : ∀ h' m tk, Fr s1.heap s1.heap.objs.size h' m → qk (.ret (.bool true)) { heap := h', gens := s1.gens, drawn := s1.drawn, toks := tk, os := s1.os } := by
    intro h' m tk F'
    show GoodW _ _ _ _ _ (Except.ok _) _
    dsimp only
    first | wrow_close | (w_end; wrow_close)
  refine with_own ?hEk fun hEk => ?_
  case hEk => first | exact PySem.PassesOwn.leaving | exact PySem.PassesOwn.looking

  clear_value ek qk
  clear B G Y V GL TE TW M hcd hs hlay0 hL1 hr1 hl2 ra ww1 r0 hr hD XM ho hg
  k_steps
  rename_i d0 hx0 od lo0 hd0 lx0 D0 ws hh0 F1 N1 hI1 hC1 hL1' lx1
  have hwl : ws.length ≤ 60 := by have := ints_len hI1; omega
  refine ⟨_, [], ws.length, fun i v => ws[i]? = some v, fun i ys _ => CellsJ i ys, iters_list rfl N1 (List.Mem.head _) List.not_mem_nil, F1, N1, Nat.le_trans hwl (by decide), (fun _ h => nomatch h), ⟨⟨_, .nil⟩, Nat.le_refl _⟩, (fun _ _ _ _ _ _ _ h => h), ?_, ?_⟩
  · intro g i v ys Y C' oC m₂ h tk E' hi hP hJ hE mC hoC hx F N
    obtain ⟨n, t, rfl⟩ := ints_at hI1 hP
    try k_fold
    k_steps
    · k_asm
    · k_asm
    · exact Evo.refl
    · exact hJ.more
  · intro D h tk ys Y hJ hE N mD F
    have m1 := hE _ (List.Mem.tail _ (List.Mem.head _)) fun z => nomatch z
    try k_fold
    k_steps
    refine kdn_upd F N m1 hd0 rfl (of_decide_eq_true (by first | rfl | kernel_rfl!)) fun h2 o2' F2 N2 hd2 hE2 mF => ?_
    k_steps
    have nF : ∀ {a : Addr}, @LT.lt Nat _ a d0 → a ∉ [d0] := fun h z => Nat.ne_of_lt h (List.mem_singleton.mp z)
    have mcF := hE2 _ (hE _ (List.Mem.tail _ (List.Mem.tail _ (List.Mem.tail _ (List.Mem.tail _ (List.Mem.head _))))) fun z => nomatch z) fun z => (nF (by omega) z).elim
    have mcB := hE2 _ (hE _ (List.Mem.tail _ (List.Mem.tail _ (List.Mem.tail _ (List.Mem.head _)))) fun z => nomatch z) fun z => (nF (by omega) z).elim
    have mcS := hE2 _ (hE _ (List.Mem.tail _ (List.Mem.tail _ (List.Mem.head _))) fun z => nomatch z) fun z => (nF (by omega) z).elim
    have nDd := News.ne N mD m1 (fun e => by have := dict_not_tuple hd0; rw [← e] at hd0; obtain ⟨_, _, hx, _⟩ := hd0; exact absurd hx.1 (by show Value.type "list" ≠ Value.type "dict"; decide))
    have mD2 := hE2 _ mD fun z => (nDd (List.mem_singleton.mp z)).elim
    refine cell_store F2 N2 mcF c1 rfl rfl rfl fun h3 oF F3 N3 hdF hE3 mcF3 => ?_
    have hFd := feed_start (prog := PySem.Challenge.rw_qz0015_01.row.prog) (w := w) hE3 mF (neN (by omega)) hd2 mD2 (News.ne N2 mD2 mcF (fun e => by rw [← e] at c1; cases c1)) hJ.1 (Nat.le_trans hJ.2 (Nat.le_trans hwl (by decide))) nDd
    have nB : s1.heap.objs.size + 1 + 1 ∉ [s1.heap.objs.size + 1] := fun z => absurd (List.mem_singleton.mp z) (neN (by omega))
    have nS : s1.heap.objs.size + 1 + 1 + 1 ∉ [s1.heap.objs.size + 1] := fun z => absurd (List.mem_singleton.mp z) (neN (by omega))
    have mcB3 := hE3 _ mcB fun z => absurd z nB
    have mcS3 := hE3 _ mcS fun z => absurd z nS
    have nd1 : d0 ≠ s1.heap.objs.size + 1 := neN (by omega)
    have nd2 : d0 ≠ s1.heap.objs.size + 1 + 1 := neN (by omega)
    have nd3 : d0 ≠ s1.heap.objs.size + 1 + 1 + 1 := neN (by omega)
    have nl1 : D ≠ s1.heap.objs.size + 1 := News.ne N2 mD2 mcF (fun e => by rw [← e] at c1; cases c1)
    have nl2 : D ≠ s1.heap.objs.size + 1 + 1 := News.ne N2 mD2 mcB (fun e => by rw [← e] at c2; cases c2)
    have nl3 : D ≠ s1.heap.objs.size + 1 + 1 + 1 := News.ne N2 mD2 mcS (fun e => by rw [← e] at c3; cases c3)
    generalize hY1 : upd (upd Y d0 o2') (s1.heap.objs.size + 1) oF = Y1 at *
    clear hY1 N2 hE2 mF mcF mcB mcS mD2 F2 N F hE m1 mD F1 N1
    try k_fold
    dsimp only
    k_steps
    rename_i n9 h9 tk9 F9 N9 v9 t9 h19 hF9 hE9 hR tkR t1 u1 v1 hRg F' N' kp
    have hT0 : ∃ o, (d0, o) ∈ n9 := hF9.has.1
    refine ⟨_, [d0], 1 + v9, _, ToldJ PySem.Challenge.rw_qz0015_01.row.prog w d0 D, iters_upto rfl hRg (by omega) (by omega), F', N', by omega, (fun a ha => List.mem_singleton.mp ha ▸ hT0), ⟨[], 1, .nil, hF9, Nat.le_refl _, (fun _ z => nomatch z), rfl⟩, ToldJ.holds hF9, ?_, ?_⟩
    · intro g i v ys Y C oC m₂ h tk E' hi hP hJ hE mC hoC hx F N
      obtain ⟨tv, rfl⟩ := hP
      obtain ⟨xs, k, q1, q2, q3, q4, q5⟩ := hJ
      have mcf := (hE9.trans hE) _ mcF3 fun z => absurd (List.mem_singleton.mp z).symm nd1
      try k_fold
      k_steps
      · k_asm
      · k_asm
      · assumption
      · exact ToldJ.next q1 q3 q4 q5 (by assumption) (by assumption) (by assumption) (by assumption) (by assumption)
    · intro Dt h tk ys Y hJ hE N mDt F
      obtain ⟨xs, k, q1, q2, q3, q4, q5⟩ := hJ
      have eT := hE9.trans hE
      have mF := eT _ mcF3 fun z => absurd (List.mem_singleton.mp z).symm nd1
      have mB := eT _ mcB3 fun z => absurd (List.mem_singleton.mp z).symm nd2
      have mS := eT _ mcS3 fun z => absurd (List.mem_singleton.mp z).symm nd3
      have c2' : o2.data = Data.cell none := c2
      have c3' : o3.data = Data.cell none := c3
      have nDd : Dt ≠ d0 := by
        obtain ⟨o, _, _, _, _, md', ho, _⟩ := q2
        obtain ⟨_, _, hx, _⟩ := ho
        exact News.ne N mDt md' fun e => by rw [← e] at hx; exact absurd hx.1 (by show Value.type "list" ≠ Value.type "dict"; decide)
      have nDB : Dt ≠ s1.heap.objs.size + 1 + 1 := News.ne N mDt mB fun e => by rw [← e] at c2'; cases c2'
      have nDS : Dt ≠ s1.heap.objs.size + 1 + 1 + 1 := News.ne N mDt mS fun e => by rw [← e] at c3'; cases c3'
      clear hE9 hF9 hE
      try k_fold
      dsimp only
      iterate 7 walk1
      rename_i ln hx l1 hy F5 N5
      obtain ⟨⟨od, md⟩, oD, mD⟩ := id q2.has
      have nX : ∀ {a : Addr} {o : Obj}, (a, o) ∈ Y → a ≠ ln := fun hm => Nat.ne_of_lt (l1 _ hm)
      obtain ⟨b, hb⟩ : ∃ b, b = (lawOf w).1.drop 3 := ⟨_, rfl⟩
      obtain ⟨sc, hsc⟩ : ∃ b, b = (lawOf w).2 := ⟨_, rfl⟩
      have hb' := hb
      have hsc' := hsc
      conv at hb' => rhs; whnf
      conv at hsc' => rhs; whnf
      refine law3on (hb'.symm.trans hb) (hsc'.symm.trans hsc) KX T K0 hEk F5 N5 (k := k) (told := xs) (tv := ys) (lt := Dt) (ln := ln) ((if_neg (by decide)).trans (if_pos rfl)) (if_pos rfl) (.tail _ mF) hdF q2.cons (by omega) (.tail _ mDt) (q1.mono (Evo.cons (S := []))) q4 (by omega) (by omega) (.head _)
        nd1.symm (nX mF) nDd (nX mDt) (nX md).symm (nX mD).symm (.tail _ mB) c2' (.tail _ mS) c3' nd2.symm (nX mB) nd3.symm (nX mS) nDB nDS hend
end
end Mine
theorem PySem.Challenge.cw_qz0015_01_holds : PySem.Challenge.rw_qz0015_01.Holds :=
  Mine.law_ok
