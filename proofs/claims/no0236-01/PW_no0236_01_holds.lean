import PyProof.Rows.All
import Wide.All
import OpenK.AllK
import Wide.FinOn
import PySem.Challenge.RW_no0236_01
open PySem PySem.W PySem.Calls PyProof.Rows PyProof.V PySem.Spec
set_option Elab.async false
set_option maxRecDepth 100000
set_option rowWalk.seconds 0
namespace Mine
abbrev rwp : Program := PySem.Challenge.rw_no0236_01.row.toRowW.prog
def vw : Program := { rwp with main := { rwp.main with body := [1, 2, 4, 5, 6, 7, 8, 9, 10, 11, 12, 13, 15, 16, 17, 18, 19, 20, 21, 22, 23, 24, 25, 26, 27, 28, 30, 32, 34, 35, 36, 37, 38, 39, 40].filterMap fun i => rwp.main.body[i]? } }
section
local macro_rules | `(tactic| o_head $_H:term) => `(tactic| exact False.elim (by assumption))
set_option maxHeartbeats 0 in
theorem hd (h : False) : PySem.Challenge.rw_no0236_01.row.Holds := by k_head
end
abbrev hdas : List Addr := [2, 3, 15, 22, 24, 25, 27, 28, 29, 30, 31, 32, 35, 42, 43, 44, 47, 48, 50, 51, 53, 54, 55, 57, 58, 60, 61, 62, 64, 65, 67, 68, 69, 71, 72, 74, 75, 76, 78, 79, 81, 82, 83, 85, 86, 88, 89, 90, 92, 93, 95, 96, 97, 99, 100, 102, 103, 104, 105, 106, 107, 109, 110, 112, 113, 114, 116, 117, 119, 120, 121, 123, 124, 126, 127, 128, 130, 131, 133, 134, 135, 137, 138, 140, 141, 142, 144, 145, 147, 148, 149, 151, 152, 154, 155, 156, 158, 159, 161, 162, 163, 165, 166, 168, 169, 170, 172, 173, 175, 176, 177, 179, 180, 182, 183, 191, 192, 194, 195, 197, 198, 199, 200, 201, 202, 203, 206, 208, 209, 211, 212, 213, 214, 216, 217, 219, 220, 221, 223, 224, 226, 227, 228, 230, 231, 233, 234, 235, 237, 238, 240, 241, 242, 244, 245, 247, 248, 249, 251, 252, 254, 255, 256, 258, 259, 261, 262, 263, 265, 266, 268, 269]
set_option maxHeartbeats 0 in
theorem hl0 : LeftO rwp vw [PySem.Str.ofString "_law_round"] (fun s => xlAt vw [] s && recOk (RowW.records PySem.Challenge.rw_no0236_01.row.toRowW) s) (Hook.obs (kHook hd.heap_1 hdas (fun _ => by kernel_rfl))) (Hook.val (kHook hd.heap_1 hdas (fun _ => by kernel_rfl))) 3546 := by
  intro w; kernel_rfl
theorem hfill : PySem.Challenge.rw_no0236_01 = PySem.Challenge.rw_no0236_01 ∧ hd.heap_1 = hd.heap_1 := by
  k_fill; exact ⟨rfl, rfl⟩
local macro_rules | `(tactic| walk_at $s:str) => do let t := Lean.Syntax.mkStrLit ("my " ++ Lean.TSyntax.getString s); `(tactic| k_extra $t)
local macro_rules | `(tactic| tm_at $s:str) => do let t := Lean.Syntax.mkStrLit ("tm " ++ Lean.TSyntax.getString s); `(tactic| first | k_extra $t | fail "none")
local macro_rules | `(tactic| k_mem) => `(tactic| (apply up_of; assumption; k_mem))
local macro_rules | `(tactic| ktr_room) => `(tactic| tm_at "room")
local macro_rules | `(tactic| ktr_units) => `(tactic| tm_at "units")
theorem lay_1 : True := by
  k_with_none
  (k_with "tm up" => first | assumption | (refine List.Mem.tail _ ?_; tm_at "up") | (apply up_of; assumption; tm_at "up"))
  (k_with "tm sub" => first | assumption | (intro p' hp'; tm_at "up"))
  (k_with "tm mem" => first | assumption | exact List.Mem.head _ | (refine List.Mem.tail _ ?_; tm_at "mem") | (apply up_of; assumption; tm_at "mem"))
  (k_with "tm br" => first | assumption | exact Br.int _ _ | exact Br.bool _ | exact Br.none | exact Br.str _ _ | exact BrAll.nil | (apply Br.up; assumption; tm_at "sub") | exact br_nought _ _ | exact br_one _ _ | (apply BrAll.cons; tm_at "br"; tm_at "br") | (apply Br.tuple; (apply Or.inl; first | k_mem | tm_at "mem"); tm_at "br") | (apply Br.list; (apply Or.inl; tm_at "mem"); tm_at "br"))
  (k_with "tm pre" => (first | exact True.intro | (dsimp only; done) | skip) <;> ((try dsimp only); first | assumption | (refine And.intro ?_ ?_ <;> tm_at "pre") | tm_at "br" | omega | tm_at "bd" | tm_at "om"))
  (k_with "tm bd" => apply Bd.mono; assumption; first | decide | omega)
  (k_with "tm inv" => (with_reducible rename Br _ _ _ _ => hb'); first | (obtain ⟨t', e'⟩ := Br.int_inv hb'; subst e'; clear hb') | (obtain ⟨a', e', hb''⟩ := Br.tup_inv hb'; subst e'; clear hb') | (obtain ⟨a', e', hb''⟩ := Br.list_inv hb'; subst e'; clear hb') | (have e' := Br.bool_inv hb'; subst e'; clear hb') | (have e' := Br.none_inv hb'; subst e'; clear hb'))
  (k_with "tm got" => intro r' n' h' tk' F' N' hs' hb'; tm_at "inv"; (try k_sweep); (try dsimp only); (try k_fold))
  (k_with "my subscriptTail" => k_here; (with_reducible show wpAny _ _ (subscriptTail _ _ (Value.ref _) (Value.int _ _)) _ _ _); (with_unfolding_all refine br_item (by k_asm) (by k_asm) (by k_asm) (by assumption) (by tm_at "sub") (by decide) (by decide) (by rfl) ?_ (by with_unfolding_all rfl)); intro v' hb'; tm_at "inv"; (try dsimp only))
  (k_with "tm back" => (rename ∀ d', _ → ∀ r news' h' tk', Fr _ _ _ _ → _ => hret'); refine hret' _ rfl _ _ _ _ (by k_asm) (by k_asm) (by tm_at "sub") (Br.cast (by tm_at "br") ?_))
  (k_with "my call builtin:divmod" => k_here; (with_reducible show wpAny _ _ (call (Value.builtin _) [Value.int _ _, Value.int _ _]) _ _ _); k_dflt (refine divmod_B (by assumption) (by assumption) (by assumption) (by assumption) ?_); intro D' tk' h' n' F' N' hs' hb'; (try k_sweep))
  (k_with "my assign Tuple" => k_here; (with_reducible show wpAny _ _ (assign (Expr.Tuple [_, _] _ _) _ (Value.ref _)) _ _ _); k_dflt (refine br_pair (by assumption) (by assumption) (by assumption) (by assumption) (by tm_at "sub") (by exact rfl) (by exact rfl) (by exact rfl) ?_); intro v1 v2 h' F' N' q1 q2; (obtain ⟨t1, e1⟩ := Br.int_inv q1; subst e1; clear q1); (obtain ⟨t2, e2⟩ := Br.int_inv q2; subst e2; clear q2); (try k_sweep))
  (k_with "my binaryOp Pow int int" => k_here; (with_reducible show wpAny _ _ (binaryOp Operator.Pow (Value.int 10 _) _) _ _ _); k_dflt (refine ten_pow (by omega) (by omega) ?_))
  (k_with "my execs nil" => refine wpAny_execs_nil ?_)
  (k_with "my execs cons" => (with_reducible refine wpAny_execs_cons ?_); (try dsimp only))
  (k_with "tm kpT" => first | tm_at "lp" | (refine And.intro ?_ ?_; tm_at "lp"; first | assumption | omega))
  (k_with "tm room" => first | exact rm0 hroom | exact rm hroom rfl)
  (k_with "tm units" => exact um hun rfl)
  (k_with "my ite" => k_closed; k_dflt (first | refine ite_pos (by decide) ?_ | refine ite_neg (by decide) ?_))
  trivial
abbrev prg : Program := PySem.Challenge.rw_no0236_01.row.prog
abbrev Led := List (Addr × Obj)

/-! values that bear data: in the ledger, or in the written part of the top -/
abbrev tupO (vs : List Value) (n : Nat) : Obj := { cls := .type "tuple", data := .seq vs.toArray n }
def HasO (w : World) (news : Led) (a : Addr) (o : Obj) : Prop := (a, o) ∈ news ∨ (hd.heap_1 w.params).lookup a = some o
mutual
inductive Br (w : World) (news : Led) : Value → Dat → Prop
  | none : Br w news Value.none Dat.none
  | bool (b : Bool) : Br w news (Value.bool b) (Dat.bool b)
  | int (i : Int) (t : Tok) : Br w news (Value.int i t) (Dat.int i)
  | str (x : Str) (t : Tok) : Br w news (Value.str x t) (Dat.str x)
  | tuple {a : Addr} {vs : List Value} {n : Nat} {ds : List Dat} : HasO w news a (tupO vs n) → BrAll w news vs ds → Br w news (Value.ref a) (Dat.tuple ds)
  | list {a : Addr} {vs : List Value} {n : Nat} {ds : List Dat} : HasO w news a (W.listOf vs.toArray n) → BrAll w news vs ds → Br w news (Value.ref a) (Dat.list ds)
inductive BrAll (w : World) (news : Led) : List Value → List Dat → Prop
  | nil : BrAll w news [] []
  | cons {v : Value} {vs : List Value} {d : Dat} {ds : List Dat} : Br w news v d → BrAll w news vs ds → BrAll w news (v :: vs) (d :: ds)
end

section
variable {w : World} {news news' : Led} {v : Value} {d : Dat} {vs : List Value} {ds : List Dat} {a : Addr} {o : Obj}
theorem HasO.mono (h : HasO w news a o) (hs : ∀ p ∈ news, p ∈ news') : HasO w news' a o := h.elim (fun h => .inl (hs _ h)) .inr
mutual
theorem Br.mono (hs : ∀ p ∈ news, p ∈ news') : ∀ {v : Value} {d : Dat}, Br w news v d → Br w news' v d
  | _, _, .none => .none
  | _, _, .bool b => .bool b
  | _, _, .int i t => .int i t
  | _, _, .str x t => .str x t
  | _, _, .tuple h r => .tuple (h.mono hs) (BrAll.mono hs r)
  | _, _, .list h r => .list (h.mono hs) (BrAll.mono hs r)
theorem BrAll.mono (hs : ∀ p ∈ news, p ∈ news') : ∀ {vs : List Value} {ds : List Dat}, BrAll w news vs ds → BrAll w news' vs ds
  | _, _, .nil => .nil
  | _, _, .cons h r => .cons (Br.mono hs h) (BrAll.mono hs r)
end
theorem Br.up (h : Br w news v d) (hs : ∀ p ∈ news, p ∈ news') : Br w news' v d := Br.mono hs h

/-- what holds of the entries that bear data carries over -/
theorem HasO.turn (h : HasO w news a o) (hs : (a, o) ∈ news → (a, o) ∈ news') : HasO w news' a o := h.elim (fun h => .inl (hs h)) .inr
mutual
theorem Br.turn (ht : ∀ a vs n, (a, tupO vs n) ∈ news → (a, tupO vs n) ∈ news') (hl : ∀ a vs n, (a, W.listOf (List.toArray vs) n) ∈ news → (a, W.listOf (List.toArray vs) n) ∈ news') : ∀ {v : Value} {d : Dat}, Br w news v d → Br w news' v d
  | _, _, .none => .none
  | _, _, .bool b => .bool b
  | _, _, .int i t => .int i t
  | _, _, .str x t => .str x t
  | _, _, .tuple h r => .tuple (h.turn (ht _ _ _)) (BrAll.turn ht hl r)
  | _, _, .list h r => .list (h.turn (hl _ _ _)) (BrAll.turn ht hl r)
theorem BrAll.turn (ht : ∀ a vs n, (a, tupO vs n) ∈ news → (a, tupO vs n) ∈ news') (hl : ∀ a vs n, (a, W.listOf (List.toArray vs) n) ∈ news → (a, W.listOf (List.toArray vs) n) ∈ news') : ∀ {vs : List Value} {ds : List Dat}, BrAll w news vs ds → BrAll w news' vs ds
  | _, _, .nil => .nil
  | _, _, .cons h r => .cons (Br.turn ht hl h) (BrAll.turn ht hl r)
end

theorem Br.int_inv {i : Int} (h : Br w news v (.int i)) : ∃ t, v = .int i t := by cases h; exact ⟨_, rfl⟩
theorem Br.bool_inv {b : Bool} (h : Br w news v (.bool b)) : v = .bool b := by cases h; rfl
theorem Br.none_inv (h : Br w news v .none) : v = .none := by cases h; rfl
theorem Br.tup_inv (h : Br w news v (.tuple ds)) : ∃ a, v = .ref a ∧ Br w news (.ref a) (.tuple ds) := by cases h with | tuple x y => exact ⟨_, rfl, .tuple x y⟩
theorem Br.list_inv (h : Br w news v (.list ds)) : ∃ a, v = .ref a ∧ Br w news (.ref a) (.list ds) := by cases h with | list x y => exact ⟨_, rfl, .list x y⟩
theorem Br.handed (h : Br w news v d) : handedIn v = true := by cases h <;> rfl
theorem BrAll.length : ∀ {vs : List Value} {ds : List Dat}, BrAll w news vs ds → vs.length = ds.length
  | _, _, .nil => rfl
  | _, _, .cons _ r => by rw [List.length_cons, List.length_cons, BrAll.length r]
theorem BrAll.get : ∀ {vs : List Value} {ds : List Dat} {k : Nat} {d : Dat}, BrAll w news vs ds → ds[k]? = some d → ∃ v, vs[k]? = some v ∧ Br w news v d
  | _, _, k, d, .nil, h => by simp at h
  | _, _, 0, d, .cons h r, e => by simp at e; subst e; exact ⟨_, rfl, h⟩
  | _, _, k + 1, d, .cons h r, e => by
    obtain ⟨v, hv, hb⟩ := BrAll.get (k := k) r (by simpa using e)
    exact ⟨v, by simpa using hv, hb⟩
end

section
variable {w : World} {h₀ h : Heap} {L : Addr} {m : Str → Option Value} {news : Led} {a : Addr} {o : Obj} {v : Value} {d : Dat}
theorem HasO.at (F : Fr h₀ L h m) (X : (hd.heap_1 w.params).In h₀) (N : News h₀ L h news) (x : HasO w news a o) : h.get? a = some o :=
  x.elim (fun x => N.get x) fun x => F.keep _ _ (X _ _ x)
mutual
theorem Br.reads (F : Fr h₀ L h m) (X : (hd.heap_1 w.params).In h₀) (N : News h₀ L h news) : ∀ {v : Value} {d : Dat}, Br w news v d → ∃ as, Reads h v (kqdP d) as
  | _, _, .none => ⟨_, Reads.none⟩
  | _, _, .bool b => ⟨_, Reads.bool b⟩
  | _, _, .int i t => ⟨_, Reads.int i t⟩
  | _, _, .str x t => ⟨_, Reads.str x t⟩
  | _, _, .tuple hm r => by
    obtain ⟨as, q⟩ := BrAll.reads F X N r
    rw [kqdP]
    exact ⟨as, reads_tuple_at (hm.at F X N) rfl rfl (by simpa using q)⟩
  | _, _, .list hm r => by
    obtain ⟨as, q⟩ := BrAll.reads F X N r
    rw [kqdP]
    exact ⟨_, reads_list_at (hm.at F X N) rfl rfl (by simpa [W.listOf] using q)⟩
theorem BrAll.reads (F : Fr h₀ L h m) (X : (hd.heap_1 w.params).In h₀) (N : News h₀ L h news) : ∀ {vs : List Value} {ds : List Dat}, BrAll w news vs ds → ∃ as, ReadsAll h vs (kqdPs ds) as
  | _, _, .nil => ⟨_, ReadsAll.nil⟩
  | _, _, .cons hd r => by
    obtain ⟨as, q⟩ := Br.reads F X N hd
    obtain ⟨bs, p⟩ := BrAll.reads F X N r
    rw [kqdPs]
    exact ⟨_, ReadsAll.cons q p⟩
end
end

section
variable {w : World} {A : Around} {E : Value → Shared → Prop} {s : Shared} {h₀ : Heap} {L a b : Addr} {m : Str → Option Value} {news n₀ n₁ : Led} {d e : Dat} {ds es : List Dat} {Q : Value → Shared → Prop}
theorem br_item {value slice : PySem.Expr} {k : Int} {u : Tok} (F : Fr h₀ L s.heap m) (X : (hd.heap_1 w.params).In h₀) (N : News h₀ L s.heap news) (hb : Br w n₀ (.ref a) (.tuple ds)) (hs : ∀ p ∈ n₀, p ∈ news)
    (h0 : 0 ≤ k) (hhi : k < 2 ^ 63) (hx : ds[k.toNat]? = some d) (h : ∀ v, Br w n₀ v d → Q v s)
    (hq : subscripted slice false (.ref a) (.int k u) = operate [.ref a, .int k u] (getItem (.ref a) (.int k u)) := by with_unfolding_all rfl) :
    wpAny (model prg w) A (subscriptTail value slice (.ref a) (.int k u)) Q E s := by
  cases hb with
  | @tuple a vs n ds hm r =>
    obtain ⟨v, hv, hd⟩ := r.get hx
    have hm' := (hm.mono hs).at F X N
    have hlt : k.toNat < vs.length := by
      rcases Nat.lt_or_ge k.toNat vs.length with q | q
      · exact q
      · rw [List.getElem?_eq_none q] at hv; cases hv
    refine item_tupleT (l := vs) (j := k.toNat) (x := v) ⟨_, hm', rfl, n, rfl⟩ (by omega) hhi ?_ hv (h v hd) hq
    unfold seqIndex?
    simp only []
    split <;> first | omega | (split <;> first | rfl | omega) | skip
    all_goals simp_all
end

/-! contracts -/
def Fn (w : World) (f : Addr) (vs : List Value) (room : Nat) (Pre : Led → Prop) (d : Option Dat) : Prop :=
  ∀ (p : Program) (loose : List Str) (mean : ExcName → Option Value) (mg mb : Str → Option Value)
    (dp un : Nat) (gd : Option (List Code)) (cn : Str) (cs : Scope) (a : Addr) (ccd : Value) (cl : List (Str × Addr)) (outer : List Env) (A₀ : Around) (base h₀ : Heap) (L : Addr) (m : Str → Option Value) (news : Led) (s : Shared)
    (Q E : Value → Shared → Prop),
    Below A₀ base outer h₀ → Fr h₀ L s.heap m → (hd.heap_1 w.params).In h₀ → News h₀ L s.heap news → Top p loose mean mg mb h₀ → cs.kind = .function → Pre news → dp + room < recursionLimit → un + 8 * room < cLine →
    (∀ d', d = some d' → ∀ r news' h' tk', Fr h₀ L h' m → News h₀ L h' news' → (∀ q ∈ news, q ∈ news') → Br w news' r d' → Q r { s with heap := h', toks := tk' }) →
    (d = none → ∀ e t ws G h' tk', Fr h₀ L G m → RaisedS base G (envX cn cs L a ccd cl :: outer) e (.ref 44) t ws news h' → G.UpToSlots h' → E (.ref e) { s with heap := h', toks := tk' }) →
    wpAny (model prg w) (ktrTop dp un gd cn cs L a ccd cl outer) (call (.ref f) vs) Q E s

section
variable {w : World} {f : Addr} {vs : List Value} {room : Nat} {Pre : Led → Prop} {d : Dat} {od : Option Dat} {p : Program} {loose : List Str} {mean : ExcName → Option Value} {mg mb : Str → Option Value}
    {dp un : Nat} {gd : Option (List Code)} {cn : Str} {cs : Scope} {a : Addr} {ccd : Value} {cl : List (Str × Addr)} {outer : List Env} {A₀ : Around} {base h₀ : Heap} {L : Addr} {m : Str → Option Value} {news news' : Led} {s : Shared}
    {Q E : Value → Shared → Prop}
theorem fn_use (C : Fn w f vs room Pre (some d)) (B : Below A₀ base outer h₀) (F : Fr h₀ L s.heap m) (X : (hd.heap_1 w.params).In h₀) (N : News h₀ L s.heap news) (T : Top p loose mean mg mb h₀) (hk : cs.kind = .function)
    (hp : Pre news) (hd : dp + room < recursionLimit) (hu : un + 8 * room < cLine)
    (ret : ∀ r news' h' tk', Fr h₀ L h' m → News h₀ L h' news' → (∀ q ∈ news, q ∈ news') → Br w news' r d → Q r { s with heap := h', toks := tk' }) :
    wpAny (model prg w) (ktrTop dp un gd cn cs L a ccd cl outer) (call (.ref f) vs) Q E s :=
  C _ _ _ _ _ _ _ _ _ _ _ _ _ _ _ _ _ _ _ _ _ _ _ B F X N T hk hp hd hu (fun d' e => by cases e; exact ret) (fun e => nomatch e)
theorem fn_useE (C : Fn w f vs room Pre od) (B : Below A₀ base outer h₀) (F : Fr h₀ L s.heap m) (X : (hd.heap_1 w.params).In h₀) (N : News h₀ L s.heap news) (T : Top p loose mean mg mb h₀) (hk : cs.kind = .function)
    (hp : Pre news) (hd : dp + room < recursionLimit) (hu : un + 8 * room < cLine)
    (ret : ∀ d, od = some d → ∀ r news' h' tk', Fr h₀ L h' m → News h₀ L h' news' → (∀ q ∈ news, q ∈ news') → Br w news' r d → Q r { s with heap := h', toks := tk' })
    (exc : od = none → ∀ e t ws G h' tk', Fr h₀ L G m → RaisedS base G (envX cn cs L a ccd cl :: outer) e (.ref 44) t ws news h' → G.UpToSlots h' → E (.ref e) { s with heap := h', toks := tk' }) :
    wpAny (model prg w) (ktrTop dp un gd cn cs L a ccd cl outer) (call (.ref f) vs) Q E s :=
  C _ _ _ _ _ _ _ _ _ _ _ _ _ _ _ _ _ _ _ _ _ _ _ B F X N T hk hp hd hu ret exc
theorem Br.cast {v : Value} {d d' : Dat} (h : Br w news v d) (e : d = d') : Br w news v d' := e ▸ h
theorem up_of {l l' : Led} {q : Addr × Obj} (h : ∀ q ∈ l, q ∈ l') (hq : q ∈ l) : q ∈ l' := h q hq
end
abbrev pr (m e : Int) : Dat := .tuple [.int m, .int e]
abbrev dP (p : Int × Int) : Dat := pr p.1 p.2
abbrev cx (m0 e0 m1 e1 : Int) : Dat := .tuple [pr m0 e0, pr m1 e1]
theorem br_nought (w : World) (news : Led) : Br w news (.ref 47) (pr 0 0) :=
  .tuple (vs := [.int 0 236, .int 0 237]) (n := 0) (.inr (by rfl)) (.cons (.int _ _) (.cons (.int _ _) .nil))
theorem br_one (w : World) (news : Led) : Br w news (.ref 106) (cx 1 0 0 0) :=
  .tuple (vs := [.ref 104, .ref 105]) (n := 0) (.inr (by rfl))
    (.cons (.tuple (vs := [.int 1 321, .int 0 322]) (n := 0) (.inr (by rfl)) (.cons (.int _ _) (.cons (.int _ _) .nil)))
    (.cons (.tuple (vs := [.int 0 323, .int 0 324]) (n := 0) (.inr (by rfl)) (.cons (.int _ _) (.cons (.int _ _) .nil))) .nil))
/-! sizes: fewer than k decimal digits -/
structure Bd (n : Int) (k : Nat) : Prop where
  lt : n.natAbs < 10 ^ k
theorem Bd.mono {n : Int} {i j : Nat} (h : Bd n i) (hij : i ≤ j) : Bd n j := ⟨Nat.lt_of_lt_of_le h.lt (Nat.pow_le_pow_right (by lia) hij)⟩
theorem Bd.mul {a b : Int} {i j : Nat} (ha : Bd a i) (hb : Bd b j) : Bd (a * b) (i + j) := by
  refine ⟨?_⟩
  rw [Int.natAbs_mul, Nat.pow_add]
  exact Nat.mul_lt_mul'' ha.lt hb.lt
theorem Bd.add {a b : Int} {i j : Nat} (ha : Bd a i) (hb : Bd b j) : Bd (a + b) (max i j + 1) := by
  have ha' := (ha.mono (Nat.le_max_left i j)).lt
  have hb' := (hb.mono (Nat.le_max_right i j)).lt
  refine ⟨?_⟩
  rw [Nat.pow_succ]
  have := Int.natAbs_add_le a b
  lia
theorem Bd.neg {a : Int} {i : Nat} (ha : Bd a i) : Bd (-a) i := ⟨by rw [Int.natAbs_neg]; exact ha.lt⟩
theorem Bd.pow (j : Nat) : Bd (10 ^ j) (j + 1) := by
  refine ⟨?_⟩
  rw [Int.natAbs_pow]
  exact Nat.pow_lt_pow_right (by decide) (Nat.lt_succ_self j)
theorem Bd.bits {a : Int} {i : Nat} (ha : Bd a i) (hi : i ≤ 200000) : Builtin.Int.intBits a ≤ 2 ^ 20 := by
  have h1 : a.natAbs < 2 ^ (4 * i) := Nat.lt_of_lt_of_le ha.lt (by rw [Nat.pow_mul]; exact Nat.pow_le_pow_left (by decide) i)
  exact Nat.le_trans (intBits_le h1) (by lia)
theorem Bd.ok {a b : Int} {i j : Nat} (ha : Bd a i) (hb : Bd b j) (hi : i ≤ 200000) (hj : j ≤ 200000) : IntMulOk a b := IntMulOk.of_bits (ha.bits hi) (hb.bits hj)

@[irreducible] def tenp (n : Int) : Int := 10 ^ n.toNat
theorem tenp_eq (n : Int) : tenp n = 10 ^ n.toNat := by unfold tenp; rfl
theorem tenp_ne (n : Int) : tenp n ≠ 0 := by rw [tenp_eq]; exact Int.pow_ne_zero (by decide)
theorem tenp_log {n : Int} (h : n ≤ 2700) : (tenp n).natAbs.log2 < 9000 := by
  have h1 : (tenp n).natAbs = 10 ^ n.toNat := by rw [tenp_eq, Int.natAbs_pow]; rfl
  rw [h1, Nat.log2_lt (Nat.ne_of_gt (Nat.pow_pos (by decide)))]
  have h2 : (10 : Nat) ^ n.toNat ≤ 10 ^ 2700 := Nat.pow_le_pow_right (by decide) (by lia)
  have h3 : (10 : Nat) ^ 2700 < 2 ^ 9000 := by decide +kernel
  lia
theorem tenp_bd (n : Int) : Bd (tenp n) (n.toNat + 1) := by rw [tenp_eq]; exact Bd.pow _
theorem ten_pow {w : World} {A : Around} {E : Value → Shared → Prop} {s : Shared} {n : Int} {t u : Tok} {Q : Value → Shared → Prop} (hn : 0 ≤ n) (hn2 : n ≤ 1000000)
    (h : Q (.int (tenp n) s.toks) { s with toks := s.toks + 1 }) : wpAny (model prg w) A (binaryOp .Pow (.int 10 t) (.int n u)) Q E s :=
  pow_int_small hn hn2 (by decide) (by rw [← tenp_eq]; exact h)

section
variable {w : World} {A : Around} {E : Value → Shared → Prop} {s : Shared} {h₀ : Heap} {L a : Addr} {m : Str → Option Value} {news n₀ : Led} {d1 d2 : Dat}
theorem br_pair {elts : List PySem.Expr} {k} {pos : Pos} {env : Env} {Q : Unit → Shared → Prop} (F : Fr h₀ L s.heap m) (X : (hd.heap_1 w.params).In h₀) (N : News h₀ L s.heap news) (hb : Br w n₀ (.ref a) (.tuple [d1, d2])) (hs : ∀ p ∈ n₀, p ∈ news)
    (hh : A.handled = none) (hn : (assignEach elts env).length = 2) (hstar : (assignEach elts env).findIdx? (·.1) = none)
    (h : ∀ v1 v2 h', Fr h₀ L h' m → News h₀ L h' news → Br w n₀ v1 d1 → Br w n₀ v2 d2 → wpAny (model prg w) A (assignInOrder ((assignEach elts env).map (·.2)) [v1, v2]) Q E { s with heap := h' }) :
    wpAny (model prg w) A (assign (.Tuple elts k pos) env (.ref a)) Q E s := by
  cases hb with
  | @tuple a vs n ds hm r =>
    cases r with
    | cons q1 r =>
      cases r with
      | cons q2 r =>
        cases r
        exact unpackN_ F N ⟨_, (hm.mono hs).at F X N, rfl, n, rfl⟩ hh hn hstar fun h' F' N' => h _ _ h' F' N' q1 q2
theorem divmod_B {x y : Int} {t u : Tok} {Q : Value → Shared → Prop} (F : Fr h₀ L s.heap m) (N : News h₀ L s.heap news) (hb : y ≠ 0) (hp : Builtin.divisionGoesByPylong x y = false)
    (h : ∀ D tk' h' news', Fr h₀ L h' m → News h₀ L h' news' → (∀ q ∈ news, q ∈ news') → Br w news' (.ref D) (pr (x.fdiv y) (x.fmod y)) → Q (.ref D) { s with heap := h', toks := tk' }) :
    wpAny (model prg w) A (call (.builtin "divmod") [.int x t, .int y u]) Q E s :=
  divmod_N F N hb (fun h' F' N' => h _ _ h' _ F' N' (fun _ hq => .tail _ hq) (.tuple (vs := [.int _ _, .int _ _]) (n := 0) (.inl (.head _)) (.cons (.int _ _) (.cons (.int _ _) .nil)))) (.inl hp)
end
/-! room for frames -/
theorem rm0 {n r : Nat} (h : n + r < recursionLimit) : n < recursionLimit := Nat.lt_of_le_of_lt (Nat.le_add_right _ _) h
theorem rm {n k r : Nat} (h : n + r < recursionLimit) (hk : Nat.ble (1 + k) r = true) : n + 1 + k < recursionLimit := by
  have := Nat.le_of_ble_eq_true hk
  lia
theorem um {n k r : Nat} (h : n + 8 * r < cLine) (hk : Nat.ble (3 + 8 * k) (8 * r) = true) : n + 3 + 8 * k < cLine := by
  have := Nat.le_of_ble_eq_true hk
  lia
def eMul (m1 e1 m2 e2 : Int) : Int × Int := (m1 * m2, e1 + e2)
def eNeg (m1 e1 : Int) : Int × Int := (-m1, e1)
def eLow (e1 e2 : Int) : Int := if e2 < e1 then e2 else e1
def eAdd (m1 e1 m2 e2 : Int) : Int × Int := (m1 * tenp (e1 - eLow e1 e2) + m2 * tenp (e2 - eLow e1 e2), eLow e1 e2)

set_option maxHeartbeats 8000000 in
theorem exact_mul_c (w : World) (a1 a2 : Addr) (m1 e1 m2 e2 : Int) : Fn w 89 [.ref a1, .ref a2] 1 (fun n => (Br w n (.ref a1) (pr m1 e1) ∧ Br w n (.ref a2) (pr m2 e2)) ∧ Bd m1 100000 ∧ Bd m2 100000) (some (dP (eMul m1 e1 m2 e2))) := by
  unfold Fn
  intro p loose mean mg mb dp un gd cn cs a ccd cl outer A₀ base h₀ L m news s Q E B F X N T hk hpre hroom hun hret hexc
  refine wpAny_call ?_
  k_dflt ktr_enter
  (obtain ⟨⟨hb1, hb2⟩, hx1, hx2⟩ := hpre)
  (have hm := Bd.ok hx1 hx2 (by decide) (by decide))
  k_steps
  tm_at "back"
  rfl
set_option maxHeartbeats 8000000 in
theorem real_neg_c (w : World) (a1 : Addr) (m1 e1 : Int) : Fn w 96 [.ref a1] 1 (fun n => Br w n (.ref a1) (pr m1 e1)) (some (dP (eNeg m1 e1))) := by
  unfold Fn
  intro p loose mean mg mb dp un gd cn cs a ccd cl outer A₀ base h₀ L m news s Q E B F X N T hk hb1 hroom hun hret hexc
  refine wpAny_call ?_
  k_dflt ktr_enter
  k_steps
  tm_at "back"
  rfl
set_option maxHeartbeats 8000000 in
theorem exact_add_c (w : World) (a1 a2 : Addr) (m1 e1 m2 e2 : Int) : Fn w 82 [.ref a1, .ref a2] 1 (fun n => (Br w n (.ref a1) (pr m1 e1) ∧ Br w n (.ref a2) (pr m2 e2)) ∧ (Bd m1 100000 ∧ Bd m2 100000) ∧ (-50000 ≤ e1 ∧ e1 ≤ 50000) ∧ (-50000 ≤ e2 ∧ e2 ≤ 50000)) (some (dP (eAdd m1 e1 m2 e2))) := by
  unfold Fn
  intro p loose mean mg mb dp un gd cn cs a ccd cl outer A₀ base h₀ L m news s Q E B F X N T hk hpre hroom hun hret hexc
  refine wpAny_call ?_
  k_dflt ktr_enter
  (obtain ⟨⟨hb1, hb2⟩, ⟨hx1, hx2⟩, ⟨hA, hB⟩, hC, hD⟩ := hpre)
  (have hl : -50000 ≤ eLow e1 e2 ∧ eLow e1 e2 ≤ e1 ∧ eLow e1 e2 ≤ e2 := by unfold eLow; split <;> omega)
  (have hm1 : IntMulOk m1 (tenp (e1 - eLow e1 e2)) := Bd.ok hx1 (tenp_bd _) (by decide) (by omega))
  (have hm2 : IntMulOk m2 (tenp (e2 - eLow e1 e2)) := Bd.ok hx2 (tenp_bd _) (by decide) (by omega))
  unfold eLow at hm1 hm2
  k_steps
  tm_at "back"
  rfl

/-! digits -/
/-- number of decimal digits, 0 for 0 -/
def nd (n : Nat) : Nat := if h : n = 0 then 0 else nd (n / 10) + 1
termination_by n
decreasing_by omega
theorem nd_zero : nd 0 = 0 := by rw [nd]; simp
theorem nd_pos {n : Nat} (h : 0 < n) : nd n = nd (n / 10) + 1 := by
  rw [nd]; simp [Nat.ne_of_gt h]
theorem nd_pow (k : Nat) : ∀ n, 10 ^ k ≤ n → nd n = nd (n / 10 ^ k) + k := by
  induction k with
  | zero => intro n _; simp
  | succ k ih =>
    intro n h
    have h1 : 10 ^ k ≤ n / 10 := by
      rw [Nat.le_div_iff_mul_le (by lia)]; rw [Nat.pow_succ] at h; exact h
    have hp : 0 < 10 ^ k := Nat.pow_pos (by lia)
    have hn : 0 < n := by lia
    rw [nd_pos hn, ih _ h1, Nat.div_div_eq_div_mul, Nat.pow_succ, Nat.mul_comm 10]
    lia
theorem loop1 {n : Int} (h : 1000000000 ≤ n) : (n.fdiv 1000000000).toNat = n.toNat / 10 ^ 9 ∧ 0 ≤ n.fdiv 1000000000 ∧ (n.fdiv 1000000000).toNat < n.toNat := by
  obtain ⟨k, rfl⟩ := Int.eq_ofNat_of_zero_le (by lia : (0:Int) ≤ n)
  have e : ((k : Int).fdiv 1000000000) = ((k / 1000000000 : Nat) : Int) := by
    rw [Int.fdiv_eq_ediv_of_nonneg _ (by lia)]; lia
  rw [e]
  lia
theorem loop2 {n : Int} (h : 0 < n) : (n.fdiv 10).toNat = n.toNat / 10 ∧ 0 ≤ n.fdiv 10 ∧ (n.fdiv 10).toNat < n.toNat := by
  obtain ⟨k, rfl⟩ := Int.eq_ofNat_of_zero_le (by lia : (0:Int) ≤ n)
  have e : ((k : Int).fdiv 10) = ((k / 10 : Nat) : Int) := by
    rw [Int.fdiv_eq_ediv_of_nonneg _ (by lia)]; lia
  rw [e]
  lia
theorem cd_start (n0 : Int) : 0 ≤ (if n0 < 0 then -n0 else n0) ∧ (0 : Int) + (nd (if n0 < 0 then -n0 else n0).toNat : Int) = (nd n0.natAbs : Int) := by
  have e : (if n0 < 0 then -n0 else n0) = (n0.natAbs : Int) := by split <;> lia
  rw [e]; simp
theorem cd_step1 {n c R : Int} (h0 : 0 ≤ n) (h : c + (nd n.toNat : Int) = R) (hn : 1000000000 ≤ n) : 0 ≤ n.fdiv 1000000000 ∧ c + 9 + (nd (n.fdiv 1000000000).toNat : Int) = R := by
  obtain ⟨e, h0, _⟩ := loop1 hn
  refine ⟨h0, ?_⟩
  rw [e]
  have := nd_pow 9 n.toNat (by lia)
  lia
theorem cd_step2 {n c R : Int} (h0 : 0 ≤ n) (h : c + (nd n.toNat : Int) = R) (hn : 0 < n) : 0 ≤ n.fdiv 10 ∧ c + 1 + (nd (n.fdiv 10).toNat : Int) = R := by
  obtain ⟨e, h0, _⟩ := loop2 hn
  refine ⟨h0, ?_⟩
  rw [e]
  have := nd_pos (n := n.toNat) (by lia)
  lia
theorem cd_end {n c R : Int} (h0 : 0 ≤ n) (h : c + (nd n.toNat : Int) = R) (hn : ¬ 0 < n) : Dat.int c = Dat.int R := by
  have : n = 0 := by lia
  subst this
  have := nd_zero
  simp only [Int.toNat_zero] at h
  congr 1
  lia
set_option maxHeartbeats 8000000 in
theorem count_digits_c (w : World) (n0 : Int) (t0 : Tok) : Fn w 54 [.int n0 t0] 1 (fun _ => True) (some (.int (nd n0.natAbs))) := by
  unfold Fn
  intro p loose mean mg mb dp un gd cn cs a ccd cl outer A₀ base h₀ L m news s Q E B F X N T hk hpre hroom hun hret hexc
  refine wpAny_call ?_
  k_dflt ktr_enter
  (k_with "exec While Compare cons nil" => k_while (fun _ n c => 0 ≤ n ∧ c + (nd n.toNat : Int) = (nd n0.natAbs : Int)) (fun _ n _ => n.toNat) "n" "count")
  (k_with "state" => first | exact cd_start _ | exact cd_step1 (by assumption) (by assumption) (by omega) | exact cd_step2 (by assumption) (by assumption) (by omega) | (refine And.intro ?_ ?_ <;> assumption))
  (k_with "measure" => first | exact (loop1 (by omega)).2.2 | exact (loop2 (by omega)).2.2)
  k_steps
  tm_at "back"
  exact cd_end (by assumption) (by assumption) (by omega)

theorem lay_2 : True := by
  k_with_none
  (k_with "tm up" => first | assumption | (refine List.Mem.tail _ ?_; tm_at "up") | (apply up_of; assumption; tm_at "up"))
  (k_with "tm sub" => first | assumption | (intro p' hp'; tm_at "up"))
  (k_with "tm mem" => first | assumption | exact List.Mem.head _ | (refine List.Mem.tail _ ?_; tm_at "mem") | (apply up_of; assumption; tm_at "mem"))
  (k_with "tm br" => first | assumption | exact Br.int _ _ | exact Br.bool _ | exact Br.none | exact Br.str _ _ | exact BrAll.nil | (apply Br.up; assumption; tm_at "sub") | exact br_nought _ _ | exact br_one _ _ | (apply BrAll.cons; tm_at "br"; tm_at "br") | (apply Br.tuple; (apply Or.inl; first | k_mem | tm_at "mem"); tm_at "br") | (apply Br.list; (apply Or.inl; tm_at "mem"); tm_at "br"))
  (k_with "tm pre" => (first | exact True.intro | (dsimp only; done) | skip) <;> ((try dsimp only); first | assumption | (refine And.intro ?_ ?_ <;> tm_at "pre") | tm_at "br" | omega | tm_at "bd" | tm_at "om"))
  (k_with "tm bd" => apply Bd.mono; assumption; first | decide | omega)
  (k_with "tm inv" => (with_reducible rename Br _ _ _ _ => hb'); first | (obtain ⟨t', e'⟩ := Br.int_inv hb'; subst e'; clear hb') | (obtain ⟨a', e', hb''⟩ := Br.tup_inv hb'; subst e'; clear hb') | (obtain ⟨a', e', hb''⟩ := Br.list_inv hb'; subst e'; clear hb') | (have e' := Br.bool_inv hb'; subst e'; clear hb') | (have e' := Br.none_inv hb'; subst e'; clear hb'))
  (k_with "tm got" => intro r' n' h' tk' F' N' hs' hb'; tm_at "inv"; (try k_sweep); (try dsimp only); (try k_fold))
  (k_with "my subscriptTail" => k_here; (with_reducible show wpAny _ _ (subscriptTail _ _ (Value.ref _) (Value.int _ _)) _ _ _); (with_unfolding_all refine br_item (by k_asm) (by k_asm) (by k_asm) (by assumption) (by tm_at "sub") (by decide) (by decide) (by rfl) ?_ (by with_unfolding_all rfl)); intro v' hb'; tm_at "inv"; (try dsimp only))
  (k_with "tm back" => (rename ∀ d', _ → ∀ r news' h' tk', Fr _ _ _ _ → _ => hret'); refine hret' _ rfl _ _ _ _ (by k_asm) (by k_asm) (by tm_at "sub") (Br.cast (by tm_at "br") ?_))
  (k_with "my call builtin:divmod" => k_here; (with_reducible show wpAny _ _ (call (Value.builtin _) [Value.int _ _, Value.int _ _]) _ _ _); k_dflt (refine divmod_B (by assumption) (by assumption) (by assumption) (by assumption) ?_); intro D' tk' h' n' F' N' hs' hb'; (try k_sweep))
  (k_with "my assign Tuple" => k_here; (with_reducible show wpAny _ _ (assign (Expr.Tuple [_, _] _ _) _ (Value.ref _)) _ _ _); k_dflt (refine br_pair (by assumption) (by assumption) (by assumption) (by assumption) (by tm_at "sub") (by exact rfl) (by exact rfl) (by exact rfl) ?_); intro v1 v2 h' F' N' q1 q2; (obtain ⟨t1, e1⟩ := Br.int_inv q1; subst e1; clear q1); (obtain ⟨t2, e2⟩ := Br.int_inv q2; subst e2; clear q2); (try k_sweep))
  (k_with "my binaryOp Pow int int" => k_here; (with_reducible show wpAny _ _ (binaryOp Operator.Pow (Value.int 10 _) _) _ _ _); k_dflt (refine ten_pow (by omega) (by omega) ?_))
  (k_with "my execs nil" => refine wpAny_execs_nil ?_)
  (k_with "my execs cons" => (with_reducible refine wpAny_execs_cons ?_); (try dsimp only))
  (k_with "tm kpT" => first | tm_at "lp" | (refine And.intro ?_ ?_; tm_at "lp"; first | assumption | omega))
  (k_with "tm room" => first | exact rm0 hroom | exact rm hroom rfl)
  (k_with "tm units" => exact um hun rfl)
  (k_with "my ite" => k_closed; k_dflt (first | refine ite_pos (by decide) ?_ | refine ite_neg (by decide) ?_))
  trivial

def strip (m e : Int) : Int × Int := if h : m = 0 then (0, 0) else if m % 10 = 0 then strip (m / 10) (e + 1) else (m, e)
termination_by m.natAbs
decreasing_by omega
theorem strip_zero (e : Int) : strip 0 e = (0, 0) := by rw [strip]; simp
theorem strip_step {m e : Int} (h : m ≠ 0) (h10 : m % 10 = 0) : strip m e = strip (m / 10) (e + 1) := by rw [strip]; simp [h, h10]
theorem strip_done {m e : Int} (h : m ≠ 0) (h10 : m % 10 ≠ 0) : strip m e = (m, e) := by rw [strip]; simp [h, h10]
theorem sz_step {m e : Int} {r : Int × Int} (h : m ≠ 0) (hs : strip m e = r) (h10 : m.fmod 10 = 0) : m.fdiv 10 ≠ 0 ∧ strip (m.fdiv 10) (e + 1) = r := by
  rw [Int.fmod_eq_emod_of_nonneg _ (by lia)] at h10
  rw [Int.fdiv_eq_ediv_of_nonneg _ (by lia)]
  refine ⟨by lia, ?_⟩
  rw [← strip_step h h10]; exact hs
theorem sz_less {m : Int} (h : m ≠ 0) (h10 : m.fmod 10 = 0) : (m.fdiv 10).natAbs < m.natAbs := by
  rw [Int.fmod_eq_emod_of_nonneg _ (by lia)] at h10
  rw [Int.fdiv_eq_ediv_of_nonneg _ (by lia)]
  lia
theorem sz_end {m e : Int} {r : Int × Int} (h : m ≠ 0) (hs : strip m e = r) (h10 : m.fmod 10 ≠ 0) : pr m e = dP r := by
  rw [Int.fmod_eq_emod_of_nonneg _ (by lia)] at h10
  rw [← hs, strip_done h h10]
set_option maxHeartbeats 8000000 in
theorem strip_zeros_c (w : World) (m0 e0 : Int) (t0 t1 : Tok) : Fn w 61 [.int m0 t0, .int e0 t1] 1 (fun _ => True) (some (dP (strip m0 e0))) := by
  unfold Fn
  intro p loose mean mg mb dp un gd cn cs a ccd cl outer A₀ base h₀ L m news s Q E B F X N T hk hpre hroom hun hret hexc
  refine wpAny_call ?_
  k_dflt ktr_enter
  (k_with "exec While Compare cons nil" => k_while (fun _ m e => m ≠ 0 ∧ strip m e = strip m0 e0) (fun _ m _ => m.natAbs) "m" "e")
  (k_with "state" => first | exact sz_step (by assumption) (by assumption) (by assumption) | (refine And.intro ?_ ?_ <;> first | assumption | rfl))
  (k_with "measure" => exact sz_less (by assumption) (by assumption))
  k_steps
  all_goals (tm_at "back"; first | exact sz_end (by assumption) (by assumption) (by assumption) | (subst_vars; rw [strip_zero]))
theorem lay_3 : True := by
  k_with_none
  (k_with "tm up" => first | assumption | (refine List.Mem.tail _ ?_; tm_at "up") | (apply up_of; assumption; tm_at "up"))
  (k_with "tm sub" => first | assumption | (intro p' hp'; tm_at "up"))
  (k_with "tm mem" => first | assumption | exact List.Mem.head _ | (refine List.Mem.tail _ ?_; tm_at "mem") | (apply up_of; assumption; tm_at "mem"))
  (k_with "tm br" => first | assumption | exact Br.int _ _ | exact Br.bool _ | exact Br.none | exact Br.str _ _ | exact BrAll.nil | (apply Br.up; assumption; tm_at "sub") | exact br_nought _ _ | exact br_one _ _ | (apply BrAll.cons; tm_at "br"; tm_at "br") | (apply Br.tuple; (apply Or.inl; first | k_mem | tm_at "mem"); tm_at "br") | (apply Br.list; (apply Or.inl; tm_at "mem"); tm_at "br"))
  (k_with "tm pre" => (first | exact True.intro | (dsimp only; done) | skip) <;> ((try dsimp only); first | assumption | (refine And.intro ?_ ?_ <;> tm_at "pre") | tm_at "br" | omega | tm_at "bd" | tm_at "om"))
  (k_with "tm bd" => apply Bd.mono; assumption; first | decide | omega)
  (k_with "tm inv" => (with_reducible rename Br _ _ _ _ => hb'); first | (obtain ⟨t', e'⟩ := Br.int_inv hb'; subst e'; clear hb') | (obtain ⟨a', e', hb''⟩ := Br.tup_inv hb'; subst e'; clear hb') | (obtain ⟨a', e', hb''⟩ := Br.list_inv hb'; subst e'; clear hb') | (have e' := Br.bool_inv hb'; subst e'; clear hb') | (have e' := Br.none_inv hb'; subst e'; clear hb'))
  (k_with "tm got" => intro r' n' h' tk' F' N' hs' hb'; tm_at "inv"; (try k_sweep); (try dsimp only); (try k_fold))
  (k_with "my subscriptTail" => k_here; (with_reducible show wpAny _ _ (subscriptTail _ _ (Value.ref _) (Value.int _ _)) _ _ _); (with_unfolding_all refine br_item (by k_asm) (by k_asm) (by k_asm) (by assumption) (by tm_at "sub") (by decide) (by decide) (by rfl) ?_ (by with_unfolding_all rfl)); intro v' hb'; tm_at "inv"; (try dsimp only))
  (k_with "tm back" => (rename ∀ d', _ → ∀ r news' h' tk', Fr _ _ _ _ → _ => hret'); refine hret' _ rfl _ _ _ _ (by k_asm) (by k_asm) (by tm_at "sub") (Br.cast (by tm_at "br") ?_))
  (k_with "my call builtin:divmod" => k_here; (with_reducible show wpAny _ _ (call (Value.builtin _) [Value.int _ _, Value.int _ _]) _ _ _); k_dflt (refine divmod_B (by assumption) (by assumption) (by assumption) (by assumption) ?_); intro D' tk' h' n' F' N' hs' hb'; (try k_sweep))
  (k_with "my assign Tuple" => k_here; (with_reducible show wpAny _ _ (assign (Expr.Tuple [_, _] _ _) _ (Value.ref _)) _ _ _); k_dflt (refine br_pair (by assumption) (by assumption) (by assumption) (by assumption) (by tm_at "sub") (by exact rfl) (by exact rfl) (by exact rfl) ?_); intro v1 v2 h' F' N' q1 q2; (obtain ⟨t1, e1⟩ := Br.int_inv q1; subst e1; clear q1); (obtain ⟨t2, e2⟩ := Br.int_inv q2; subst e2; clear q2); (try k_sweep))
  (k_with "my binaryOp Pow int int" => k_here; (with_reducible show wpAny _ _ (binaryOp Operator.Pow (Value.int 10 _) _) _ _ _); k_dflt (refine ten_pow (by omega) (by omega) ?_))
  (k_with "my execs nil" => refine wpAny_execs_nil ?_)
  (k_with "my execs cons" => (with_reducible refine wpAny_execs_cons ?_); (try dsimp only))
  (k_with "tm kpT" => first | tm_at "lp" | (refine And.intro ?_ ?_; tm_at "lp"; first | assumption | omega))
  (k_with "tm room" => first | exact rm0 hroom | exact rm hroom rfl)
  (k_with "tm units" => exact um hun rfl)
  (k_with "my ite" => k_closed; k_dflt (first | refine ite_pos (by decide) ?_ | refine ite_neg (by decide) ?_))
  trivial
theorem lay_4 : True := by
  (k_with "my call ref" => k_here; (with_reducible show wpAny _ _ (call (Value.ref 89) _) _ _ _); k_dflt (refine fn_use (exact_mul_c _ _ _ _ _ _ _) (by k_asm) (by k_asm) (by k_asm) (by k_asm) (by k_asm) (by first | exact rfl | assumption) (by tm_at "pre") (by ktr_room) (by ktr_units) ?_; tm_at "got"))
  (k_with "my call ref" => k_here; (with_reducible show wpAny _ _ (call (Value.ref 96) _) _ _ _); k_dflt (refine fn_use (real_neg_c _ _ _ _) (by k_asm) (by k_asm) (by k_asm) (by k_asm) (by k_asm) (by first | exact rfl | assumption) (by tm_at "pre") (by ktr_room) (by ktr_units) ?_; tm_at "got"))
  (k_with "my call ref" => k_here; (with_reducible show wpAny _ _ (call (Value.ref 82) _) _ _ _); k_dflt (refine fn_use (exact_add_c _ _ _ _ _ _ _) (by k_asm) (by k_asm) (by k_asm) (by k_asm) (by k_asm) (by first | exact rfl | assumption) (by tm_at "pre") (by ktr_room) (by ktr_units) ?_; tm_at "got"))
  (k_with "my call ref" => k_here; (with_reducible show wpAny _ _ (call (Value.ref 54) _) _ _ _); k_dflt (refine fn_use (count_digits_c _ _ _) (by k_asm) (by k_asm) (by k_asm) (by k_asm) (by k_asm) (by first | exact rfl | assumption) (by tm_at "pre") (by ktr_room) (by ktr_units) ?_; tm_at "got"))
  (k_with "my call ref" => k_here; (with_reducible show wpAny _ _ (call (Value.ref 61) _) _ _ _); k_dflt (refine fn_use (strip_zeros_c _ _ _ _ _) (by k_asm) (by k_asm) (by k_asm) (by k_asm) (by k_asm) (by first | exact rfl | assumption) (by tm_at "pre") (by ktr_room) (by ktr_units) ?_; tm_at "got"))
  (k_with "tm om" => simp only [eMul, eNeg] <;> omega)
  trivial
def eP0 (a e b f c g d h : Int) : Int × Int := eAdd (eMul a e c g).1 (eMul a e c g).2 (eNeg (eMul b f d h).1 (eMul b f d h).2).1 (eNeg (eMul b f d h).1 (eMul b f d h).2).2
def eP1 (a e b f c g d h : Int) : Int × Int := eAdd (eMul a e d h).1 (eMul a e d h).2 (eMul b f c g).1 (eMul b f c g).2
set_option maxHeartbeats 8000000 in
theorem exact_product_c (w : World) (a1 a2 : Addr) (a e b f c g d h : Int) : Fn w 141 [.ref a1, .ref a2] 2 (fun n => (Br w n (.ref a1) (cx a e b f) ∧ Br w n (.ref a2) (cx c g d h)) ∧ (Bd a 10000 ∧ Bd b 10000 ∧ Bd c 10000 ∧ Bd d 10000) ∧ (-10000 ≤ e ∧ e ≤ 10000) ∧ (-10000 ≤ f ∧ f ≤ 10000) ∧ (-10000 ≤ g ∧ g ≤ 10000) ∧ (-10000 ≤ h ∧ h ≤ 10000))
    (some (.tuple [dP (eP0 a e b f c g d h), dP (eP1 a e b f c g d h)])) := by
  unfold Fn
  intro p loose mean mg mb dp un gd cn cs a' ccd cl outer A₀ base h₀ L m news s Q E B F X N T hk hpre hroom hun hret hexc
  refine wpAny_call ?_
  k_dflt ktr_enter
  (obtain ⟨⟨hb1, hb2⟩, ⟨hx1, hx2, hx3, hx4⟩, ⟨he1, he2⟩, ⟨hf1, hf2⟩, ⟨hg1, hg2⟩, hh1, hh2⟩ := hpre)
  (have q1 := hx1.mul hx3; have q2 := (hx2.mul hx4).neg; have q3 := hx1.mul hx4; have q4 := hx2.mul hx3; have q5 := hx2.mul hx4)
  k_steps
  tm_at "back"
  rfl

/-- round half to even: k and r are quotient and rest by P -/
def upP (k r P : Int) : Int := if P < 2 * r then k + 1 else if 2 * r = P then (if k.fmod 2 = 1 then k + 1 else k) else k
def absI (m : Int) : Int := if m < 0 then -m else m
def sgnI (m k : Int) : Int := if 0 < m then k else -k
def rdg (m e d : Int) : Int × Int :=
  if 0 < (nd m.natAbs : Int) - d then
    strip (sgnI m (upP ((absI m).fdiv (tenp ((nd m.natAbs : Int) - d))) ((absI m).fmod (tenp ((nd m.natAbs : Int) - d))) (tenp ((nd m.natAbs : Int) - d)))) (e + ((nd m.natAbs : Int) - d))
  else strip m e
theorem up1 {k r P : Int} (h : P < 2 * r) : upP k r P = k + 1 := by unfold upP; rw [if_pos h]
theorem up2 {k r P : Int} (h : ¬ P < 2 * r) (h2 : 2 * r = P) (h3 : k.fmod 2 = 1) : upP k r P = k + 1 := by unfold upP; rw [if_neg h, if_pos h2, if_pos h3]
theorem up3 {k r P : Int} (h : ¬ P < 2 * r) (h2 : 2 * r = P) (h3 : k.fmod 2 ≠ 1) : upP k r P = k := by unfold upP; rw [if_neg h, if_pos h2, if_neg h3]
theorem up4 {k r P : Int} (h : ¬ P < 2 * r) (h2 : 2 * r ≠ P) : upP k r P = k := by unfold upP; rw [if_neg h, if_neg h2]
theorem rd_pos {m e d u : Int} (h : 0 < (nd m.natAbs : Int) - d) (hm : 0 < m) (hu : upP ((absI m).fdiv (tenp ((nd m.natAbs : Int) - d))) ((absI m).fmod (tenp ((nd m.natAbs : Int) - d))) (tenp ((nd m.natAbs : Int) - d)) = u) :
    dP (strip u (e + ((nd m.natAbs : Int) - d))) = dP (rdg m e d) := by unfold rdg sgnI; rw [if_pos h, if_pos hm, hu]
theorem rd_neg {m e d u : Int} (h : 0 < (nd m.natAbs : Int) - d) (hm : ¬ 0 < m) (hu : upP ((absI m).fdiv (tenp ((nd m.natAbs : Int) - d))) ((absI m).fmod (tenp ((nd m.natAbs : Int) - d))) (tenp ((nd m.natAbs : Int) - d)) = u) :
    dP (strip (-u) (e + ((nd m.natAbs : Int) - d))) = dP (rdg m e d) := by unfold rdg sgnI; rw [if_pos h, if_neg hm, hu]
theorem rd_no {m e d : Int} (h : ¬ 0 < (nd m.natAbs : Int) - d) : dP (strip m e) = dP (rdg m e d) := by unfold rdg; rw [if_neg h]
set_option maxHeartbeats 8000000 in
theorem round_digits_c (w : World) (m0 e0 d0 : Int) (t0 t1 t2 : Tok) : Fn w 68 [.int m0 t0, .int e0 t1, .int d0 t2] 2 (fun _ => nd m0.natAbs ≤ 2700 ∧ 0 ≤ d0) (some (dP (rdg m0 e0 d0))) := by
  unfold Fn
  intro p loose mean mg mb dp un gd cn cs a' ccd cl outer A₀ base h₀ L m news s Q E B F X N T hk hpre hroom hun hret hexc
  refine wpAny_call ?_
  k_dflt ktr_enter
  (obtain ⟨hx1, hx2⟩ := hpre)
  (have hne := tenp_ne ((nd m0.natAbs : Int) - d0))
  (have hlog := tenp_log (n := ((nd m0.natAbs : Int) - d0)) (by omega))
  (have hpl := PyProof.noPylong_of_log2 (x := (if m0 < 0 then -m0 else m0)) hlog)
  clear hlog
  k_steps
  all_goals (tm_at "back"; first
    | exact rd_no (by assumption)
    | exact rd_pos (by assumption) (by assumption) (up1 (by assumption))
    | exact rd_neg (by assumption) (by assumption) (up1 (by assumption))
    | exact rd_pos (by assumption) (by assumption) (up2 (by assumption) (by assumption) (by assumption))
    | exact rd_neg (by assumption) (by assumption) (up2 (by assumption) (by assumption) (by assumption))
    | exact rd_pos (by assumption) (by assumption) (up3 (by assumption) (by assumption) (by assumption))
    | exact rd_neg (by assumption) (by assumption) (up3 (by assumption) (by assumption) (by assumption))
    | exact rd_pos (by assumption) (by assumption) (up4 (by assumption) (by assumption))
    | exact rd_neg (by assumption) (by assumption) (up4 (by assumption) (by assumption)))
theorem lay_5 : True := by
  (k_with "my call ref" => k_here; (with_reducible show wpAny _ _ (call (Value.ref 141) _) _ _ _); k_dflt (refine fn_use (exact_product_c _ _ _ _ _ _ _ _ _ _ _) (by k_asm) (by k_asm) (by k_asm) (by k_asm) (by k_asm) (by first | exact rfl | assumption) (by tm_at "pre") (by ktr_room) (by ktr_units) ?_; tm_at "got"))
  (k_with "my call ref" => k_here; (with_reducible show wpAny _ _ (call (Value.ref 68) _) _ _ _); k_dflt (refine fn_use (round_digits_c _ _ _ _ _ _ _) (by k_asm) (by k_asm) (by k_asm) (by k_asm) (by k_asm) (by first | exact rfl | assumption) (by tm_at "pre") (by ktr_room) (by ktr_units) ?_; tm_at "got"))
  trivial
/-! an exception of a class of the text's own whose __init__ is the text's own (it stands in a base of the text's own) -/
section
variable {M : Model} {A : Around} {E : Value → Shared → Prop} {h : Heap} {g : Array GenState} {d : Drawn} {t : Nat} {os : OsState}
variable {nm q : Str} {C N : Addr} {bs bm bmB : List Value} {hdct : Bool} {sn : List Str} {sub : List Value} {ab : Bool} {col : Option Bool} {dd : Option Addr} {k0 k1 k2 k3 k5 : Option Value} {B newId initId : String}
theorem x_check_new (F : ExcBaseFacts B newId initId bmB) (hB : bm.contains (.type B) = true) {rest : List Value} {Q : Unit → Shared → Prop} (hC : h.get? C = some (excClassObj nm q C N bs bm hdct sn sub ab col dd k0 k1 k2 k3 k5 newId))
    (hq : Q () ⟨h, g, d, t, os⟩) : wpAny M A (checkBuiltinCall newId ⟨.ref C :: rest, []⟩) Q E ⟨h, g, d, t, os⟩ := by
  have hcont : (Value.ref C :: bm).contains (.type B) = true := by rw [List.contains_cons, hB, Bool.or_true]
  have hstar := F.noStar
  simp only [checkBuiltinCall, F.newKind, F.newSplit, F.newRow]
  repeat (first | refine wpAny_loadPart_at hC ?_ | (refine wpAny_isSubtype_exc hC ?_; rw [hcont]) | refine wpAny_staticBase_exc hC ?_ | refine wpAny_madeBy_exc hC ?_ | simp only [bne_self_eq_false, Bool.false_eq_true, if_false] | wp_step)
  exact hq
end
section
variable {prog : Program} {w : World} {A : Around} {R : Result → Shared → Prop} {E : Value → Shared → Prop} {h : Heap} {g : Array GenState} {d : Drawn} {t : Nat} {os : OsState}
variable {nm q : Str} {C N : Addr} {bs bm bmB : List Value} {hdct : Bool} {sn : List Str} {sub : List Value} {ab : Bool} {col : Option Bool} {dd : Option Addr} {k0 k1 k2 k3 k5 : Option Value} {B newId initId : String}
theorem x_new (F : ExcBaseFacts B newId initId bmB) (hB : bm.contains (.type B) = true) (hA : bm.contains (.type "AttributeError") = false) (hN : bm.contains (.type "NameError") = false) {rest : List Value} (hC : h.get? C = some (excClassObj nm q C N bs bm hdct sn sub ab col dd k0 k1 k2 k3 k5 newId))
    (hq : R (.ok (.ret (.ref (h.objs.size + 1)))) ⟨(h.push { cls := .type "tuple", data := .seq rest.toArray }).push
      { cls := .ref C, data := .fields #[.ref h.objs.size, .none, .none, .none, .bool false, .none] }, g, d, t, os⟩) (hrest : rest.length ≤ sizeLine) :
    codeAny (model prog w) A (.builtin newId ⟨.ref C :: rest, []⟩) R ⟨h, g, d, t, os⟩ := by
  have hends := F.ends
  have hcB : (Value.ref C :: bm).contains (.type B) = true := by rw [List.contains_cons, hB, Bool.or_true]
  have hcA : (Value.ref C :: bm).contains (.type "AttributeError") = false := by rw [List.contains_cons, hA]; rfl
  have hcN : (Value.ref C :: bm).contains (.type "NameError") = false := by rw [List.contains_cons, hN]; rfl
  refine codeAny_builtinAt F.entry ?_
  unfold Builtin.«BaseException.__new__»
  refine PySem.wpAt_bind ?_
  show PySem.wpAt _ _ _ (stack >>= _) _ _ _
  refine PySem.wpAt_bind (PySem.wpAt_stack fun p below => PySem.wpAt_of_wpAny ?_)
  wp_walk
  refine PySem.wpAt_of_wpAny ?_
  rw [F.owner]
  repeat (first | with_reducible refine wpAny_madeHere_exc F.canon hC ?_ | with_reducible refine wpAny_loadPart_at hC ?_ | (with_reducible refine wpAny_isSubtype_exc hC ?_; first | rw [hcB] | rw [hcA] | rw [hcN]) | wp_step)
  show R _ _
  rw [Heap.size_push]
  exact hq

theorem x_type_call (F : ExcBaseFacts B newId initId bmB) (hB : bm.contains (.type B) = true) (hA : bm.contains (.type "AttributeError") = false) (hN : bm.contains (.type "NameError") = false) {rest : List Value} {fI : Addr} {oI : Obj} {Q : Fin → Shared → Prop}
    (hC : h.get? C = some (excClassObj nm q C N bs bm hdct sn sub ab col dd k0 k1 k2 k3 k5 newId)) (hi : Looks (model prog w) h (typeLookup (.ref C) "__init__") (some (.ref fI)))
    (hfI : h.get? fI = some oI) (hfc : oI.cls = .type "function")
    (hq : ∀ h' e, Heap.MadeExcOf h h' e (.ref C) rest →
      wpAny (model prog w) A (call (.ref fI) (.ref e :: rest)) (fun r s' => r = .none ∧ Q (.done (.ret (.ref e))) s') E ⟨h', g, d, t, os⟩) (hrest : rest.length ≤ sizeLine) :
    wpAny (model prog w) A (Builtin.«type.__call__» ⟨.ref C :: rest, []⟩) Q E ⟨h, g, d, t, os⟩ := by
  repeat (first | with_reducible refine wpAny_loadPart_at hC ?_ | with_reducible refine wpAny_madeBy_exc hC ?_ | wp_step)
  refine codeAny_call_builtin_code (Code.quiet_builtin _ F.quiet) (x_check_new F hB hC ?_)
  refine x_new F hB hA hN hC ?_ hrest
  show wpAny _ _ _ _ _ _
  have up : ∀ b o, h.get? b = some o → ((h.push { cls := .type "tuple", data := .seq rest.toArray }).push { cls := .ref C, data := .fields #[.ref h.objs.size, .none, .none, .none, .bool false, .none] }).get? b = some o := fun b o e => Heap.get?_push_of_some _ (Heap.get?_push_of_some _ e)
  have hC₁ := up _ _ hC
  have hfI₁ := up _ _ hfI
  have hget : ((h.push { cls := .type "tuple", data := .seq rest.toArray }).push
      { cls := .ref C, data := .fields #[.ref h.objs.size, .none, .none, .none, .bool false, .none] }).get? (h.objs.size + 1) = some
      { cls := .ref C, data := .fields #[.ref h.objs.size, .none, .none, .none, .bool false, .none] } := by heap_get
  have hcC : (Value.ref C :: bm).contains (.ref C) = true := by simp
  unfold isInstance
  repeat (first | with_reducible refine wpAny_loadPart_at hget ?_ | (with_reducible refine wpAny_isSubtype_exc hC₁ ?_; rw [hcC]) | wp_step)
  show wpAny _ _ (typeLookup (.ref C) _) _ _ _
  refine (hi.keeps up).here ?_
  refine wpAny_holding (wpAny_bind ?_)
  unfold bindSpecial
  refine wpAny_bind (wpAny_typeOf (T := "function") ⟨_, hfI₁, hfc⟩ ?_)
  rw [if_pos (by decide)]
  refine wpAny_pure (wpAny_bind (wpAny_mono (hq _ (h.objs.size + 1) ⟨fun b o hb => up b o hb, Heap.get?_none_of_le (Nat.le_succ _), h.objs.size, hget, Heap.get?_none_of_le (Nat.le_refl _), ?_⟩) (fun r s' hr => ?_) fun _ _ x => x))
  · exact Heap.get?_push_of_some _ (Heap.get?_push_at rfl rfl)
  · obtain ⟨rfl, hQ⟩ := hr
    wp_walk
    exact hQ

theorem x_call (F : ExcBaseFacts B newId initId bmB) (hB : bm.contains (.type B) = true) (hA : bm.contains (.type "AttributeError") = false) (hN : bm.contains (.type "NameError") = false) {rest : List Value} {fI : Addr} {oI : Obj} {Q : Value → Shared → Prop}
    (hC : h.get? C = some (excClassObj nm q C N bs bm hdct sn sub ab col dd k0 k1 k2 k3 k5 newId)) (hi : Looks (model prog w) h (typeLookup (.ref C) "__init__") (some (.ref fI)))
    (hfI : h.get? fI = some oI) (hfc : oI.cls = .type "function")
    (hq : ∀ h' e, Heap.MadeExcOf h h' e (.ref C) rest →
      wpAny (model prog w) (A.under (.builtin "type.__call__" ⟨.ref C :: rest, []⟩)) (call (.ref fI) (.ref e :: rest)) (fun r s' => r = .none ∧ Q (.ref e) s') E ⟨h', g, d, t, os⟩) (hrest : rest.length ≤ sizeLine) :
    wpAny (model prog w) A (call (.ref C) rest) Q E ⟨h, g, d, t, os⟩ := by
  have f1 := tc_lookup
  have f2 := tc_bind (.ref C)
  have hT : (⟨h, g, d, t, os⟩ : Shared).TypeIs (.ref C) "type" := ⟨_, hC, rfl⟩
  refine wpAny_call (codeAny_of_tree ?_)
  show wpAny _ _ (callAny (.ref C) _) _ _ _
  repeat (any_goals (first | assumption | with_reducible refine wpAny_loadPart_at hC ?_ | wp_step))
  refine ⟨rfl, ?_⟩
  refine codeAny_call_builtin_at (Code.quiet_builtin _ (by decide +kernel)) entry_typeCall (wpAny_check_type_call_sub hC (x_type_call F hB hA hN hC hi hfI hfc (fun h' e hm => ?_) hrest))
  exact hq h' e hm
end

section
variable {prog : Program} {w : World} {A : Around} {E : Value → Shared → Prop} {h : Heap} {g : Array GenState} {d : Drawn} {t : Nat} {os : OsState}
variable {nm q : Str} {C C2 N x : Addr} {bs bm bmB : List Value} {sn : List Str} {sub : List Value} {ab : Bool} {col : Option Bool} {dd : Option Addr} {k0 k1 k2 k3 k5 : Option Value} {B newId sa owner : String} {name : Str} {v : Value} {o : Obj}
theorem x_check_sa {M : Model} {nameV : Value} {Q : Unit → Shared → Prop} (SF : StoreFacts B bmB sa owner) (hbm : bm = .ref C2 :: bmB)
    (hC : h.get? C = some (excClassObj nm q C N bs bm true sn sub ab col dd k0 k1 k2 k3 k5 newId)) (hx : h.get? x = some o) (hc : o.cls = .ref C) (hq : Q () ⟨h, g, d, t, os⟩) :
    wpAny M A (checkBuiltinCall sa ⟨[.ref x, nameV, v], []⟩) Q E ⟨h, g, d, t, os⟩ := by
  have hcB : (Value.ref C :: bm).contains (.type owner) = true := by rw [hbm, List.contains_cons, List.contains_cons, SF.hasOwner, Bool.or_true, Bool.or_true]
  have ha := SF.args (.ref x) nameV v
  simp only [checkBuiltinCall, SF.kind, SF.split]
  refine wpAny_bind ?_
  · unfold isInstance
    repeat (first | (with_reducible refine wpAny_loadPart_at hx ?_; rw [hc]) | (with_reducible refine wpAny_isSubtype_exc hC ?_; rw [hcB]) | wp_step)
    cases hsig : Manifest.signature? sa with
    | none => exact wpAny_pure hq
    | some sig =>
      simp only [argsOk, hsig] at ha
      have h2 : Bind.checkArgs sa sig ⟨[.ref x, nameV, v], []⟩ = pure () := ha
      show wpAny M A (Bind.checkArgs sa sig ⟨[.ref x, nameV, v], []⟩) Q E _
      rw [h2]; exact wpAny_pure hq
theorem x_store_entry {tk : Tok} {Q : Fin → Shared → Prop} (SF : StoreFacts B bmB sa owner) (hbm : bm = .ref C2 :: bmB)
    (hC : h.get? C = some (excClassObj nm q C N bs bm true sn sub ab col dd k0 k1 k2 k3 k5 newId)) (hl : Looks (model prog w) h (typeLookup (.ref C) name) none)
    (hx : h.get? x = some o) (hc : o.cls = .ref C) (hnc : ∀ c, o.data ≠ .cls c) (hdn : o.dict = none)
    (hq : ∀ h' tk', (∀ b ob, b ≠ x → h.get? b = some ob → h'.get? b = some ob) → h'.get? x = some { o with dict := some h.objs.size } → Q (.done (.ret .none)) ⟨h', g, d, tk', os⟩) :
    wpAny (model prog w) A (Builtin.«object.__setattr__» ⟨[.ref x, .str name tk, v], []⟩) Q E ⟨h, g, d, t, os⟩ := by
  have hpass : refuseLoop (.ref x) "__setattr__" bm = pure () := by rw [hbm, refuseLoop_ref]; exact SF.passes (.ref x)
  unfold Builtin.«object.__setattr__»
  repeat (first | rw [refuse_eq] | (rw [refuseLoop_ref, hpass]) | (with_reducible refine wpAny_loadPart_at hx ?_; rw [hc]) | with_reducible refine wpAny_mroOf_exc hC ?_ | with_reducible refine hl.here ?_ | wp_step)
  rw [hdn, if_neg (by simp [typeHasDict])]
  split
  · rename_i hcd
    cases hcd
  split
  · rename_i c hcd
    exact absurd hcd (hnc c)
  · have hx₁ : (h.push { cls := .type "dict", data := .dict #[] }).get? x = some o := Heap.get?_push_of_some _ hx
    have hxs : x ≠ h.objs.size := Nat.ne_of_lt (Heap.lt_size hx)
    refine wpAny_bind (wpAny_alloc' ?_)
    refine wpAny_bind (wpAny_update' hx₁ ?_)
    refine wpAny_pure ?_
    have hgd : ((h.push { cls := .type "dict", data := .dict #[] }).update x fun o => { cls := o.cls, dict := some h.objs.size, data := o.data, slots := o.slots }).get? h.objs.size
        = some { cls := .type "dict", data := .dict #[] } :=
      (Heap.get?_update_ne _ _ _ _ hxs.symm).trans (Heap.get?_push_at rfl rfl)
    have hnd : ((h.push { cls := .type "dict", data := .dict #[] }).update x fun o => { cls := o.cls, dict := some h.objs.size, data := o.data, slots := o.slots }).Ns h.objs.size (fun _ => none) :=
      ⟨_, #[], _, hgd, rfl, fun e he => absurd he (by simp), fun _ => rfl⟩
    show wpAny _ _ (Builtin.ObjectAttr.storeInDict h.objs.size (.str name tk) name v) _ _ _
    unfold Builtin.ObjectAttr.storeInDict Builtin.ObjectAttr.newKeyGuard
    refine wpAny_bind (wpAny_pure (wpAny_bind (wpAny_nsSet1 (Heap.Ns1.of_empty hnd) fun h' hn' hs => ?_)))
    obtain ⟨oD, esD, epD, hoD, hdD, hcD⟩ := hn'.count (Within.cons name v Within.nil)
    refine wpAny_bind (wpAny_lookBehind hoD (by rw [hdD]; exact pastItsLine_dict (Nat.le_trans hcD (by rw [List.length_cons, List.length_nil, sizeLine_eq]; omega))) ?_)
    wp_walk
    refine hq h' _ (fun b ob hbx hb => ?_) ?_
    · exact (hs.2 b (Nat.ne_of_lt (Heap.lt_size hb))).trans ((Heap.get?_update_ne _ _ _ _ hbx).trans (Heap.get?_push_of_some _ hb))
    · refine (hs.2 x hxs).trans (Heap.get?_update_self _ hx₁ ?_)
      have hfr := (Heap.get?_some_iff.mp hx).2
      obtain ⟨oc, od, odt, osl⟩ := o
      cases odt <;> first | rfl | exact hfr
set_option maxHeartbeats 4000000 in
theorem x_store {Q : Unit → Shared → Prop} (SF : StoreFacts B bmB "object.__setattr__" owner) (hbm : bm = .ref C2 :: bmB)
    (hC : h.get? C = some (excClassObj nm q C N bs bm true sn sub ab col dd k0 k1 k2 k3 k5 newId)) (hl : Looks (model prog w) h (typeLookup (.ref C) name) none) (hs : Looks (model prog w) h (typeLookup (.ref C) "__setattr__") (some (.builtin "object.__setattr__")))
    (hx : h.get? x = some o) (hc : o.cls = .ref C) (hnc : ∀ c, o.data ≠ .cls c) (hdn : o.dict = none)
    (hq : ∀ h' tk', (∀ b ob, b ≠ x → h.get? b = some ob → h'.get? b = some ob) → h'.get? x = some { o with dict := some h.objs.size } → Q () ⟨h', g, d, tk', os⟩) :
    wpAny (model prog w) A (setAttr (.ref x) name v) Q E ⟨h, g, d, t, os⟩ := by
  have f3 := PySem.F.store_object.slot.bind (.ref x)
  unfold setAttr callSpecial? specialOf
  repeat (any_goals (first | assumption | (with_reducible refine wpAny_loadPart_at hx ?_; rw [hc]) | with_reducible refine hs.here ?_ | wp_step))
  refine codeAny_call_builtin SF.slot.plain SF.entry ?_
  simp only [List.cons_append, List.nil_append]
  with_reducible refine x_check_sa SF hbm hC hx hc ?_
  refine x_store_entry SF hbm hC hl hx hc hnc hdn ?_
  intro h' tk' k1 k2
  show wpAny (model prog w) A (pure (some Value.none)) _ _ _
  refine wpAny_pure ?_
  show wpAny (model prog w) A (pure PUnit.unit) _ _ _
  refine wpAny_pure ?_
  exact hq h' tk' k1 k2

/-- the base's own __init__ on such an exception -/
theorem x_init {initId : String} {rest : List Value} {Q : Value → Shared → Prop} {hdct : Bool} (F : ExcBaseFacts B newId initId bmB) (hB : bm.contains (.type B) = true)
    (hC : h.get? C = some (excClassObj nm q C N bs bm hdct sn sub ab col dd k0 k1 k2 k3 k5 newId)) {t0 : Addr}
    (hx : h.get? x = some { cls := .ref C, data := .fields #[.ref t0, .none, .none, .none, .bool false, .none] }) (hz : rest.length ≤ sizeLine)
    (hq : ∀ h', (∀ b ob, b ≠ x → h.get? b = some ob → h'.get? b = some ob) → h'.get? x = some { cls := .ref C, data := .fields #[.ref h.objs.size, .none, .none, .none, .bool false, .none] } →
      h'.get? h.objs.size = some { cls := .type "tuple", data := .seq rest.toArray } → Q .none ⟨h', g, d, t, os⟩) :
    wpAny (model prog w) A (call (.builtin initId) (.ref x :: rest)) Q E ⟨h, g, d, t, os⟩ := by
  have hcB : (Value.ref C :: bm).contains (.type B) = true := by rw [List.contains_cons, hB, Bool.or_true]
  have hshort := F.noStar
  refine wpAny_call (codeAny_call_builtin F.init.plain F.initEntry ?_)
  simp only [checkBuiltinCall, F.initKind, F.initSplit, F.initRow]
  repeat (first | (with_reducible refine wpAny_loadPart_at hx ?_) | with_reducible refine wpAny_loadPart_at hC ?_ | (with_reducible refine wpAny_isSubtype_exc hC ?_; rw [hcB]) | wp_step)
  refine wpAny_onRaise ?_
  rw [show ∀ (a b : String) (n : Nat), Bind.check ⟨.positional, "*", B, .self, [⟨"args", .varPos, false⟩]⟩ a b n (List.map (fun x => x.fst) ({ pos := Value.ref x :: rest } : Args).kw) = pure () from
    fun a b n => check_star_args _ _ _ _ _ _]
  refine wpAny_pure ?_
  wp_walk
  refine hq _ (fun b ob hbx hb => ?_) ?_ ?_
  · rw [Heap.get?_update_other _ _ (Ne.symm hbx)]
    exact Heap.get?_push_of_some _ hb
  · rw [Heap.get?_update_self _ (Heap.get?_push_of_some _ hx) rfl]
    rfl
  · rw [Heap.get?_update_other _ _ (Nat.ne_of_lt (Heap.lt_size hx))]
    exact Heap.get?_push_at rfl rfl
end
/-! RunFault(text): made, its own __init__ run, raised -/
abbrev bmX : List Value := [.ref 31, .type "Exception", .type "BaseException", .type "object"]
theorem rf_cls (w : World) : ∃ nm q N bs sn sub ab col dd k0 k1 k2 k3 k5, (hd.heap_1 w.params).lookup 44 = some (excClassObj nm q 44 N bs bmX true sn sub ab col dd k0 k1 k2 k3 k5 "Exception.__new__") := ⟨_, _, _, _, _, _, _, _, _, _, _, _, _, _, rfl⟩
abbrev exo (t : Addr) (dct : Option Addr) : Obj := { cls := .ref 44, dict := dct, data := .fields #[.ref t, .none, .none, .none, .bool false, .none] }
theorem bmX_exc : bmX.contains (.type "Exception") = true := by decide +kernel
theorem bmX_base : bmX.contains (.type "BaseException") = true := by decide +kernel
theorem bmX_attr : bmX.contains (.type "AttributeError") = false := by decide +kernel
theorem bmX_name : bmX.contains (.type "NameError") = false := by decide +kernel
theorem rf_init (w : World) : findIn (hd.heap_1 w.params) (.ref 44) "__init__" = some (some (.ref 28)) := by k_is
theorem rf_text (w : World) : findIn (hd.heap_1 w.params) (.ref 44) "text" = some none := by k_is
theorem rf_sa (w : World) : findIn (hd.heap_1 w.params) (.ref 44) "__setattr__" = some (some (.builtin "object.__setattr__")) := by k_is

section
variable {w : World} {A : Around} {E : Value → Shared → Prop} {s : Shared} {g : Heap} {L e t : Addr} {m : Str → Option Value} {news : Led} {o1 : Obj} {v : Value}
theorem fr_but {h h' : Heap} {n0 : Led} {o : Obj} (F : Fr g L h m) (N : News g L h n0) (hm : (e, o) ∈ n0) (hk : ∀ b ob, b ≠ e → h.get? b = some ob → h'.get? b = some ob) : Fr g L h' m := by
  obtain ⟨oL, a1, a2, hoL, a3⟩ := F.ns
  refine ⟨⟨oL, a1, a2, hk L oL (fun q => (N _ hm).2.1 q.symm) hoL, a3⟩, fun b x q => hk b x ?_ (F.keep b x q), F.above⟩
  rintro rfl
  rw [N.fresh hm] at q
  cases q
theorem news_but {h h' : Heap} {n0 : Led} (N : News g L h n0) (ne : ∀ q ∈ n0, q.1 ≠ e) (hk : ∀ b ob, b ≠ e → h.get? b = some ob → h'.get? b = some ob) : News g L h' n0 :=
  fun q hq => ⟨hk _ _ (ne q hq) (N q hq).1, (N q hq).2⟩
theorem init_led {Q : Value → Shared → Prop} (F : Fr g L s.heap m) (X : (hd.heap_1 w.params).In g) (N : News g L s.heap ((e, exo t none) :: (t, o1) :: news)) (ne : ∀ q ∈ news, q.1 ≠ e)
    (k : ∀ t2 h', Fr g L h' m → News g L h' ((e, exo t2 none) :: (t2, tupO [v] 0) :: news) → (∀ q ∈ (t2, tupO [v] 0) :: news, q.1 ≠ e) → (∀ q ∈ news, q.1 ≠ e ∧ q.1 ≠ t2) → Q .none { s with heap := h' }) :
    wpAny (model prg w) A (call (.builtin "Exception.__init__") [.ref e, v]) Q E s := by
  obtain ⟨nm, q, Nn, bs, sn, sub, ab, col, dd, k0, k1, k2, k3, k5, hC⟩ := rf_cls w
  have hC' := F.keep _ _ (X _ _ hC)
  have hx := N.get (.head _)
  obtain ⟨hp, gs, d, tk, os⟩ := s
  refine x_init PySem.F.excBase_Exception bmX_exc hC' hx (by rw [sizeLine_eq, List.length_singleton]; decide) fun h' hk he ht => ?_
  refine k hp.objs.size h' (fr_but F N (.head _) hk) ?_ (fun q hq => (List.mem_cons.mp hq).elim (fun z => z ▸ Nat.ne_of_gt (Heap.lt_size hx)) (ne q)) (fun q hq => ⟨ne q hq, Nat.ne_of_lt (Heap.lt_size (N q (.tail _ (.tail _ hq))).1)⟩)
  intro p hp'
  rcases List.mem_cons.mp hp' with rfl | hp'
  · exact ⟨he, (N _ (.head _)).2⟩
  · rcases List.mem_cons.mp hp' with rfl | hp'
    · refine ⟨ht, Nat.ne_of_gt F.ns.lt, ?_⟩
      exact none_at_size (s := ⟨hp, gs, d, tk, os⟩) F
    · exact ⟨hk _ _ (ne _ hp') (N _ (.tail _ (.tail _ hp'))).1, (N _ (.tail _ (.tail _ hp'))).2⟩
theorem store_led {Q : Unit → Shared → Prop} (F : Fr g L s.heap m) (X : (hd.heap_1 w.params).In g) (N : News g L s.heap ((e, exo t none) :: news)) (ne : ∀ q ∈ news, q.1 ≠ e)
    (k : ∀ D h' tk', Fr g L h' m → News g L h' ((e, exo t (some D)) :: news) → Q () { s with heap := h', toks := tk' }) :
    wpAny (model prg w) A (setAttr (.ref e) "text" v) Q E s := by
  obtain ⟨nm, q, Nn, bs, sn, sub, ab, col, dd, k0, k1, k2, k3, k5, hC⟩ := rf_cls w
  have hC' := F.keep _ _ (X _ _ hC)
  have hx := N.get (.head _)
  have X' := X.keeps F.keep
  obtain ⟨hp, gs, d, tk, os⟩ := s
  refine x_store PySem.F.store_Exception rfl hC' (looks_findIn X' (rf_text w)) (looks_findIn X' (rf_sa w)) hx rfl (fun c q => by cases q) rfl fun h' tk' hk he => ?_
  refine k hp.objs.size h' tk' (fr_but F N (.head _) hk) ?_
  intro p hp'
  rcases List.mem_cons.mp hp' with rfl | hp'
  · exact ⟨he, (N _ (.head _)).2⟩
  · exact ⟨hk _ _ (ne _ hp') (N _ (.tail _ hp')).1, (N _ (.tail _ hp')).2⟩
end

theorem meta_exc : typeOf (.type "Exception") = pure (.type "type") := by kernel_rfl
theorem lay_6 : True := by
  (k_with "my getMethod type:Exception" => k_here; refine method_type (by k_asm) (by k_asm) meta_exc (by decide +kernel) (by k_dflt k_is) (by k_handed) ?_)
  (k_with "my call builtin:Exception.__init__" => k_here; refine init_led (by k_asm) (by k_asm) (by k_asm) (by assumption) ?_; intro t2' h' F' N' ne' ne2'; (try k_sweep))
  (k_with "my setAttr ref" => k_here; refine store_led (by k_asm) (by k_asm) (by k_asm) (by assumption) ?_; intro D' h' tk' F' N'; (try k_sweep))
  trivial

set_option maxHeartbeats 8000000 in
theorem init_c (w : World) (p : Program) (loose : List Str) (mean : ExcName → Option Value) (mg mb : Str → Option Value)
    (dp un : Nat) (gd : Option (List Code)) (cn : Str) (cs : Scope) (a : Addr) (ccd : Value) (cl : List (Str × Addr)) (outer : List Env) (A₀ : Around) (base h₀ : Heap) (L : Addr) (m : Str → Option Value) (news : Led) (s : Shared)
    (Q E : Value → Shared → Prop) (x : Str) (tk : Tok) (e t : Addr) (B : Below A₀ base outer h₀) (F : Fr h₀ L s.heap m) (X : (hd.heap_1 w.params).In h₀)
    (N : News h₀ L s.heap ((e, exo t none) :: (t, tupO [.str x tk] 0) :: news)) (ne : ∀ q ∈ news, q.1 ≠ e) (T : Top p loose mean mg mb h₀) (hk : cs.kind = .function) (hroom : dp + 1 < recursionLimit) (hun : un + 8 < cLine)
    (hret : ∀ t2 D h' tk', Fr h₀ L h' m → News h₀ L h' ((e, exo t2 (some D)) :: (t2, tupO [.str x tk] 0) :: news) → (∀ q ∈ news, q.1 ≠ e ∧ q.1 ≠ t2) → Q .none { s with heap := h', toks := tk' }) :
    wpAny (model prg w) (ktrTop dp un gd cn cs L a ccd cl outer) (call (.ref 28) [.ref e, .str x tk]) Q E s := by
  refine wpAny_call ?_
  k_dflt ktr_enter
  k_steps
  exact hret _ _ _ _ (by k_asm) (by k_asm) (by assumption)

section
variable {M : Model} {A : Around} {E : Value → Shared → Prop} {env : Env}
variable {nm q : Str} {C N : Addr} {bs bm : List Value} {hdct : Bool} {sn : List Str} {sub : List Value} {ab : Bool} {col : Option Bool} {dd : Option Addr} {k0 k1 k2 k3 k5 : Option Value} {newId : String}
theorem x_raiseStmt {s : Shared} {x : Sem Value} {Q : Flow → Shared → Prop} (hbase : bm.contains (.type "BaseException") = true) (hh : A.handled = none)
    (h : wpAny M A x (fun v s₁ => ∃ e t dct, v = .ref e ∧ s₁.heap.get? C = some (excClassObj nm q C N bs bm hdct sn sub ab col dd k0 k1 k2 k3 k5 newId) ∧
      s₁.heap.get? e = some { cls := .ref C, dict := dct, data := .fields #[.ref t, .none, .none, .none, .bool false, .none] } ∧ E (.ref e) s₁) E s) :
    wpAny M A (raiseStmt env (some x) none) Q E s := by
  have hcB : (Value.ref C :: bm).contains (.type "BaseException") = true := by rw [List.contains_cons, hbase, Bool.or_true]
  unfold raiseStmt
  refine wpAny_bind (wpAny_mono h (fun v s₁ h₁ => ?_) fun _ _ x => x)
  obtain ⟨e, t, dct, rfl, hC, he, hE⟩ := h₁
  obtain ⟨hp, g, d, tk, os⟩ := s₁
  repeat (first | with_reducible refine wpAny_loadPart_at he ?_ | with_reducible refine wpAny_loadPart_at hC ?_ | (with_reducible refine wpAny_isSubtype_exc hC ?_; rw [hcB]) | wp_step)
  exact wpAny_raiseNew_none hh hE
end
theorem fr_name (w : World) : nsIn (hd.heap_1 w.params) mainGlobals "RunFault" = some (some (.ref 44)) := by k_is
set_option maxHeartbeats 8000000 in
theorem raise_RF {w : World} {p : Program} {loose : List Str} {mean : ExcName → Option Value} {mg mb : Str → Option Value}
    {dp un : Nat} {gd : Option (List Code)} {cn : Str} {cs : Scope} {a : Addr} {ccd : Value} {outer : List Env} {A₀ : Around} {base h₀ : Heap} {L : Addr} {m : Str → Option Value} {news : Led} {s : Shared}
    {Q : Flow → Shared → Prop} {E : Value → Shared → Prop} {x : Str} {np p1 cpos pos : Pos} {n : Nat} (B : Below A₀ base outer h₀) (F : Fr h₀ L s.heap m) (X : (hd.heap_1 w.params).In h₀)
    (N : News h₀ L s.heap news) (T : Top p loose mean mg mb h₀) (hk : cs.kind = .function) (hkx : (envOf cn cs L a ccd).kindOf "RunFault" = some .globalImplicit) (hroom : dp + 3 < recursionLimit) (hun : un + 24 < cLine)
    (hret : ∀ e t2 D tkx h' tk', Fr h₀ L h' m → News h₀ L h' ((e, exo t2 (some D)) :: (t2, tupO [.str x tkx] 0) :: news) → (∀ q ∈ news, q.1 ≠ e ∧ q.1 ≠ t2) → E (.ref e) { s with heap := h', toks := tk' }) :
    wpAny (model prg w) (ktrTop dp un gd cn cs L a ccd [] outer) (exec (.Raise (some (.Call (.Name "RunFault" np) [.Constant (.str x) n p1] [] cpos)) none pos) (envOf cn cs L a ccd)) Q E s := by
  obtain ⟨nm, q, Nn, bs, sn, sub, ab, col, dd, k0, k1, k2, k3, k5, hC⟩ := rf_cls w
  rw [arm_exec_Raise]
  refine wpAny_bind (wpAny_standAt (x_raiseStmt (C := 44) (nm := nm) (q := q) (N := Nn) (bs := bs) (bm := bmX) (hdct := true) (sn := sn) (sub := sub) (ab := ab) (col := col) (dd := dd) (k0 := k0) (k1 := k1) (k2 := k2) (k3 := k3) (k5 := k5) (newId := "Exception.__new__") bmX_base rfl ?_))
  refine wpAny_bind (wpAny_mono (Q := fun v s₁ => ∃ e t dct, v = .ref e ∧ s₁.heap.get? 44 = some (excClassObj nm q 44 Nn bs bmX true sn sub ab col dd k0 k1 k2 k3 k5 "Exception.__new__") ∧
      s₁.heap.get? e = some { cls := .ref 44, dict := dct, data := .fields #[.ref t, .none, .none, .none, .bool false, .none] } ∧ E (.ref e) s₁) (wpAny_Call_ofName (wpAny_mono (name_K F X (topRead_of T) (fr_name w) (Q := fun v s₁ => v = .ref 44 ∧ s₁ = s) ⟨rfl, rfl⟩ hk hkx (by decide)) (fun f s₁ h₁ => ?_) fun _ _ x => x)) (fun v s₃ h₃ => wpAny_bind (wpAny_standAt (wpAny_pure h₃))) fun _ _ x => x)
  obtain ⟨rfl, rfl⟩ := h₁
  unfold callWith
  refine wpAny_bind (wpAny_holding ?_)
  refine Calls.evalArgs_plain ?_
  refine spliced_more (wpAny_Constant_str (spliced_none ?_))
  refine wpAny_bind (wpAny_standAt ?_)
  have hC' := F.keep _ _ (X _ _ hC)
  have X' := X.keeps F.keep
  obtain ⟨hp, gs, d, tk, os⟩ := s₁
  have hplain : (backTo cpos (starEach [Expr.Constant (Const.str x) n p1] (envOf cn cs L a ccd))).any (fun x => x.fst) = false := rfl
  simp only [hplain]
  refine wpAny_bind (wpAny_keeperOf_exc hC' ?_)
  refine wpAny_bind (x_call PySem.F.excBase_Exception bmX_exc bmX_attr bmX_name hC' (looks_findIn X' (rf_init w)) (F.keep _ _ (X 28 _ rfl)) rfl ?_ (by rw [sizeLine_eq]; exact (by decide : (1 : Nat) ≤ 16777216)))
  intro h' e hm
  have hm' := hm
  obtain ⟨hk1, hnew, t, he, htn, ht⟩ := hm'
  have F' : Fr h₀ L h' m := F.keeps hk1
  have hL : hp.get? L ≠ none := fun q => by
    obtain ⟨oL, _, _, hoL, _⟩ := F.ns
    rw [hoL] at q
    cases q
  have N' : News h₀ L h' ((e, exo t none) :: (t, tupO [.str x tk] 0) :: news) := fun q hq => by
    rcases List.mem_cons.mp hq with rfl | hq
    · exact ⟨he, fun z => hL (z ▸ hnew), kts_none F.keep hnew⟩
    · rcases List.mem_cons.mp hq with rfl | hq
      · exact ⟨ht, fun z => hL (z ▸ htn), kts_none F.keep htn⟩
      · exact ⟨hk1 _ _ (N q hq).1, (N q hq).2⟩
  have ne : ∀ q ∈ news, q.1 ≠ e := fun q hq z => by
    have := (N q hq).1
    rw [z] at this
    rw [hnew] at this
    cases this
  refine init_c w p loose mean mg mb (dp + 1) _ _ cn cs a ccd [] outer A₀ base h₀ L m news ⟨h', gs, d, tk + 1, os⟩ _ _ x tk e t B F' X N' ne T hk (by omega) ?_ ?_
  · have hcL9 := cLine_is
    show un + 1 + 8 < cLine
    omega
  · intro t2 D h2 tk2 F2 N2 ne2
    refine ⟨rfl, ?_⟩
    refine wpAny_bind (wpAny_holding (wpAny_point (wpAny_pure ?_)))
    exact ⟨e, t2, some D, rfl, F2.keep _ _ (X _ _ hC), N2.get (.head _), hret e t2 D tk h2 tk2 F2 N2 ne2⟩

section
variable {M : Model} {A : Around} {E : Value → Shared → Prop} {s' : Shared} {base g g₂ : Heap} {outer : List Env} {L a e t D : Addr} {m : Str → Option Value} {name : Str} {scope : Scope} {cd : Value} {Q : Unit → Shared → Prop} {news news' : Led} {vs : List Value} {l : List Env} {h : Heap}
theorem raised_sub (R : RaisedS base g l e (.ref 44) t vs news h) (hs : ∀ q ∈ news', q ∈ news) : RaisedS base g l e (.ref 44) t vs news' h := by
  obtain ⟨⟨B, x1, x2, x3, x4, x5⟩, x6⟩ := R
  exact ⟨⟨B, x1, x2, fun q hq => x3 q (hs q hq), x4, x5⟩, x6⟩
theorem leave_rf (K : Below A base outer g) (F : Fr g L s'.heap m) (N : News g L s'.heap ((e, exo t (some D)) :: (t, tupO vs 0) :: news)) (ne : ∀ q ∈ news, q.1 ≠ e ∧ q.1 ≠ t)
    (hQ : ∀ h', RaisedS base g outer e (.ref 44) t vs news h' → g.UpToSlots h' → Q () { s' with heap := h' }) (hk : scope.kind = .function := by rfl) :
    wpAny M (A.deeper (envOf name scope L a cd)) (leaving (envOf name scope L a cd) (.ref e)) Q E s' := by
  have K' := K.push (name := name) (a := a) (cd := cd) F hk
  let fs := (envOf name scope L a cd :: outer).filterMap (·.frame)
  let as := e :: t :: fs
  have hin : ∀ env ∈ (envOf name scope L a cd :: outer), ∀ b, env.frame = some b → b ∈ as := fun env he b hb => .tail _ (.tail _ (List.mem_filterMap.mpr ⟨env, he, hb⟩))
  have ge : g.get? e = none := N.fresh (.head _)
  have gt : g.get? t = none := N.fresh (.tail _ (.head _))
  have be : base.get? e = none := fresh_of_stays K.stays ge
  have bt : base.get? t = none := fresh_of_stays K.stays gt
  have st : base.StaysIn (hideAll s'.heap as) := fun b o q => hideAll_get _ (K'.stays b o q) fun hm => by
    rcases List.mem_cons.mp hm with z | hm
    · rw [z, be] at q; cases q
    · rcases List.mem_cons.mp hm with z | hm
      · rw [z, bt] at q; cases q
      · rw [(K'.frames.mem hm).1] at q; cases q
  have sg : ∀ b o, g.get? b = some o → b ∉ outer.filterMap (·.frame) → (hideAll s'.heap as).get? b = some o := fun b o q nm => hideAll_get _ (F.keep b o q) fun hm => by
    rcases List.mem_cons.mp hm with z | hm
    · rw [z, ge] at q; cases q
    · rcases List.mem_cons.mp hm with z | hm
      · rw [z, gt] at q; cases q
      · rcases kts_mem hm with z | z
        · rw [z, kts_self F] at q
          cases q
        · exact nm z
  have hl : ∀ q ∈ news, (hideAll s'.heap as).get? q.1 = some q.2 ∧ g.get? q.1 = none ∧ base.get? q.1 = none := fun q hq => by
    have hN := N q (.tail _ (.tail _ hq))
    refine ⟨hideAll_get _ hN.1 fun hm => ?_, hN.2.2, fresh_of_stays K.stays hN.2.2⟩
    rcases List.mem_cons.mp hm with z | hm
    · exact (ne q hq).1 z
    · rcases List.mem_cons.mp hm with z | hm
      · exact (ne q hq).2 z
      · obtain ⟨env, he, hf⟩ := List.mem_filterMap.mp hm
        rcases List.mem_cons.mp he with rfl | he
        · exact hN.2.1 (Option.some.inj hf).symm
        · obtain ⟨o, ho, _⟩ := (K.frames.mem (List.mem_filterMap.mpr ⟨env, he, hf⟩)).2
          rw [hN.2.2] at ho; cases ho
  have he := N.get (.head _)
  have ht := N.get (.tail _ (.head _))
  refine wpAny_leaving_firstW (base := hideAll s'.heap as) (a0 := .ref t) K'.stack (funFrames_hide K'.frames hin) rfl he (fun b o q => of_hideAll _ q) (hideAll_none _ (.head _)) rfl rfl rfl fun h' hL => ?_
  obtain ⟨k1, ⟨_, _, k2⟩, k3, k4⟩ := hL
  exact hQ h' ⟨⟨_, st, sg, hl, ⟨k1, hideAll_none _ (.head _), k2, k3⟩, hideAll_none _ (.tail _ (.head _))⟩, Heap.TupAt.of_slots ⟨_, _, ht, rfl, rfl⟩ k4⟩ ((Heap.UpToSlots.of_keeps F.keep).trans k4)
end
theorem lay_7 : True := by
  (k_with "my exec Raise some none" => k_here; k_dflt (refine raise_RF (by k_asm) (by k_asm) (by k_asm) (by k_asm) (by k_asm) (by exact rfl) (by exact rfl) (by ktr_room) (by ktr_units) ?_); intro e' t2' D' tkx' h' tk' F' N' ne'; (try k_sweep))
  (k_with "my leaving ref" => k_here; first | (refine leave_rf (by assumption) (by assumption) (by assumption) (by assumption) ?_ (by exact rfl); intro h' R' U') | (refine leave_onS (by assumption) (by assumption) (by assumption) (by assumption) ?_; k_whole; intro h' R' RK' U'; clear RK'; (try dsimp only at R' U' ⊢)))
  (k_with "tm backO" => (rename ∀ d', _ = _ → ∀ r news' h' tk', Fr _ _ _ _ → _ => hret'); refine hret' _ ?_ _ _ _ _ (by k_asm) (by k_asm) (by tm_at "sub") (by tm_at "br"))
  (k_with "tm backE" => (rename _ = none → ∀ e t ws G h' tk', Fr _ _ _ _ → _ => hexc'); refine hexc' ?_ _ _ _ _ _ _ (by assumption) (raised_sub (by assumption) (by tm_at "sub")) (by assumption))
  (k_with "tm gotE" => all_goals (first | (intro d' e' r' n' h' tk' F' N' hs' hb'; (rw [Option.map_eq_some_iff] at e'); (obtain ⟨p', hp', e''⟩ := e'); subst e''; tm_at "inv"; (try k_sweep); (try dsimp only); (try k_fold)) | (intro e' x' t' ws' G' h' tk' F' R' U'; (rw [Option.map_eq_none_iff] at e'); (try dsimp only at U' R' ⊢))))
  trivial
theorem bd_nd {n : Int} : Bd n (nd n.natAbs) := by
  refine ⟨?_⟩
  have key : ∀ k : Nat, k < 10 ^ nd k := by
    intro k
    induction k using Nat.strongRecOn with
    | ind k ih =>
      rcases Nat.eq_zero_or_pos k with h | h
      · subst h; exact Nat.pow_pos (by decide)
      · rw [nd_pos h, Nat.pow_succ]
        have := ih (k / 10) (by lia)
        lia
  exact key _
theorem log_of_bd {n : Int} {k : Nat} (h : Bd n k) (hk : k ≤ 2700) : n.natAbs.log2 < 9000 := by
  rcases Nat.eq_zero_or_pos n.natAbs with h0 | h0
  · rw [h0]; decide
  · rw [Nat.log2_lt (by lia)]
    have h1 := (h.mono hk).lt
    have h3 : (10 : Nat) ^ 2700 < 2 ^ 9000 := by decide +kernel
    lia
def qShift (o u d : Int) : Int := if 0 > d + 2 + (nd u.natAbs : Int) - (nd o.natAbs : Int) then 0 else d + 2 + (nd u.natAbs : Int) - (nd o.natAbs : Int)
def qK (o u d : Int) : Int := (absI o * tenp (qShift o u d)).fdiv (absI u)
def qR (o u d : Int) : Int := (absI o * tenp (qShift o u d)).fmod (absI u)
def quo (o u e d : Int) : Int × Int :=
  (if (decide (o < 0) != decide (u < 0)) = true then -(10 * qK o u d + (if qR o u d = 0 then 0 else 1)) else 10 * qK o u d + (if qR o u d = 0 then 0 else 1), e - qShift o u d - 1)
theorem quo1 {o u e d : Int} (h : qR o u d ≠ 0) (hs : (decide (o < 0) != decide (u < 0)) = true) : pr (-(10 * qK o u d + 1)) (e - qShift o u d - 1) = dP (quo o u e d) := by
  unfold quo; rw [if_pos hs, if_neg h]
theorem quo2 {o u e d : Int} (h : qR o u d ≠ 0) (hs : (decide (o < 0) != decide (u < 0)) = false) : pr (10 * qK o u d + 1) (e - qShift o u d - 1) = dP (quo o u e d) := by
  unfold quo; rw [hs, if_neg Bool.false_ne_true, if_neg h]
theorem quo3 {o u e d : Int} (h : qR o u d = 0) (hs : (decide (o < 0) != decide (u < 0)) = true) : pr (-(10 * qK o u d + 0)) (e - qShift o u d - 1) = dP (quo o u e d) := by
  unfold quo; rw [if_pos hs, if_pos h]
theorem quo4 {o u e d : Int} (h : qR o u d = 0) (hs : (decide (o < 0) != decide (u < 0)) = false) : pr (10 * qK o u d + 0) (e - qShift o u d - 1) = dP (quo o u e d) := by
  unfold quo; rw [hs, if_neg Bool.false_ne_true, if_pos h]
set_option maxHeartbeats 8000000 in
theorem quotient_c (w : World) (o u e0 d0 : Int) (t0 t1 t2 t3 : Tok) : Fn w 103 [.int o t0, .int u t1, .int e0 t2, .int d0 t3] 2 (fun _ => (0 < u ∧ nd u.natAbs ≤ 2700) ∧ nd o.natAbs ≤ 50000 ∧ 0 ≤ d0 ∧ d0 ≤ 100) (some (dP (quo o u e0 d0))) := by
  unfold Fn
  intro p loose mean mg mb dp un gd cn cs a' ccd cl outer A₀ base h₀ L m news s Q E B F X N T hk hpre hroom hun hret hexc
  refine wpAny_call ?_
  k_dflt ktr_enter
  (obtain ⟨⟨hx1, hx2⟩, hx3, hx4, hx5⟩ := hpre)
  (have hne : (if u < 0 then -u else u) ≠ 0 := by split <;> omega)
  (have hpl := PyProof.noPylong_of_log2 (x := (if o < 0 then -o else o) * tenp (qShift o u d0)) (y := if u < 0 then -u else u) (by rw [if_neg (by omega)]; exact log_of_bd bd_nd hx2))
  (have hsh : qShift o u d0 ≤ 2802 := by unfold qShift; split <;> omega)
  (have hmm : IntMulOk (if o < 0 then -o else o) (tenp (qShift o u d0)) := by
    refine Bd.ok (i := 50000) (j := 2803) ?_ ((tenp_bd _).mono (by omega)) (by decide) (by decide)
    split
    · exact (bd_nd (n := o)).neg.mono hx3
    · exact (bd_nd (n := o)).mono hx3)
  clear hsh
  unfold qShift at hpl hmm
  k_steps
  all_goals (tm_at "back"; first
    | exact quo1 (by assumption) (by assumption)
    | exact quo2 (by assumption) (by assumption)
    | exact quo3 (by assumption) (by assumption)
    | exact quo4 (by assumption) (by assumption))
theorem lay_8 : True := by
  (k_with "my call ref" => k_here; (with_reducible show wpAny _ _ (call (Value.ref 103) _) _ _ _); k_dflt (refine fn_use (quotient_c _ _ _ _ _ _ _ _ _) (by k_asm) (by k_asm) (by k_asm) (by k_asm) (by k_asm) (by first | exact rfl | assumption) (by tm_at "pre") (by ktr_room) (by ktr_units) ?_; tm_at "got"))
  trivial
/-! digits -/
theorem nd_lt (k : Nat) : k < 10 ^ nd k := by
  have := (bd_nd (n := (k : Int))).lt
  simpa using this
theorem nd_le_self {k : Nat} (h : 0 < k) : 0 < nd k ∧ 10 ^ (nd k - 1) ≤ k := by
  induction k using Nat.strongRecOn with
  | ind k ih =>
    rw [nd_pos h]
    refine ⟨by lia, ?_⟩
    rw [Nat.add_sub_cancel]
    rcases Nat.eq_zero_or_pos (k / 10) with h0 | h0
    · rw [h0, nd_zero]; exact h
    · have hlt : k / 10 < k := by lia
      obtain ⟨h1, h2⟩ := ih _ hlt h0
      have e : nd (k / 10) = (nd (k / 10) - 1) + 1 := by lia
      rw [e, Nat.pow_succ]
      lia
theorem nd_le {k j : Nat} (h : k < 10 ^ j) : nd k ≤ j := by
  rcases Nat.eq_zero_or_pos k with h0 | h0
  · rw [h0, nd_zero]; lia
  · obtain ⟨h1, h2⟩ := nd_le_self h0
    rcases Nat.lt_or_ge j (nd k) with q | q
    · have : 10 ^ j ≤ 10 ^ (nd k - 1) := Nat.pow_le_pow_right (by lia) (by lia)
      lia
    · exact q
theorem nd_eq {k j : Nat} (h1 : 10 ^ j ≤ k) (h2 : k < 10 ^ (j + 1)) : nd k = j + 1 := by
  have := nd_le h2
  rcases Nat.lt_or_ge (nd k) (j + 1) with q | q
  · have h3 := nd_lt k
    have : 10 ^ nd k ≤ 10 ^ j := Nat.pow_le_pow_right (by lia) (by lia)
    lia
  · lia
theorem nd_bd {n : Int} {k : Nat} (h : Bd n k) : nd n.natAbs ≤ k := nd_le h.lt
theorem nd_mono {a b : Nat} (h : a ≤ b) : nd a ≤ nd b := nd_le (Nat.lt_of_le_of_lt h (nd_lt b))

/-! scaled values -/
theorem tenp_add {a b : Int} (ha : 0 ≤ a) (hb : 0 ≤ b) : tenp (a + b) = tenp a * tenp b := by
  rw [tenp_eq, tenp_eq, tenp_eq, ← Int.pow_add]
  congr 1
  lia
theorem tenp_pos (a : Int) : 0 < tenp a := by rw [tenp_eq]; exact Int.pow_pos (by decide)
theorem tenp_zero : tenp 0 = 1 := by rw [tenp_eq]; rfl
theorem tenp_nat (k : Nat) : tenp (k : Int) = 10 ^ k := by rw [tenp_eq]; rfl
structure SB (m e c : Int) (N : Nat) : Prop where
  lo : 0 ≤ e + c
  bd : (m * tenp (e + c)).natAbs ≤ N
theorem SB.neg {m e c : Int} {N : Nat} (h : SB m e c N) : SB (-m) e c N := ⟨h.lo, by rw [Int.neg_mul, Int.natAbs_neg]; exact h.bd⟩
theorem SB.mono {m e c : Int} {N N' : Nat} (h : SB m e c N) (hn : N ≤ N') : SB m e c N' := ⟨h.lo, Nat.le_trans h.bd hn⟩
theorem SB.mul {m e c m' e' c' : Int} {N N' : Nat} (h : SB m e c N) (h' : SB m' e' c' N') : SB (m * m') (e + e') (c + c') (N * N') := by
  have h1 := h.lo; have h2 := h'.lo
  refine ⟨by lia, ?_⟩
  have e1 : e + e' + (c + c') = (e + c) + (e' + c') := by lia
  rw [e1, tenp_add h.lo h'.lo]
  have e2 : m * m' * (tenp (e + c) * tenp (e' + c')) = (m * tenp (e + c)) * (m' * tenp (e' + c')) := by
    rw [Int.mul_assoc, Int.mul_assoc]
    congr 1
    rw [← Int.mul_assoc, Int.mul_comm m' (tenp (e + c)), Int.mul_assoc]
  rw [e2, Int.natAbs_mul]
  exact Nat.mul_le_mul h.bd h'.bd
theorem eAdd_sc {m1 e1 m2 e2 c : Int} (h1 : 0 ≤ e1 + c) (h2 : 0 ≤ e2 + c) :
    0 ≤ (eAdd m1 e1 m2 e2).2 + c ∧ (eAdd m1 e1 m2 e2).1 * tenp ((eAdd m1 e1 m2 e2).2 + c) = m1 * tenp (e1 + c) + m2 * tenp (e2 + c) := by
  unfold eAdd
  dsimp only
  have hl : eLow e1 e2 ≤ e1 ∧ eLow e1 e2 ≤ e2 ∧ 0 ≤ eLow e1 e2 + c := by unfold eLow; split <;> lia
  obtain ⟨l1, l2, l3⟩ := hl
  refine ⟨l3, ?_⟩
  have a1 : e1 + c = (e1 - eLow e1 e2) + (eLow e1 e2 + c) := by lia
  have a2 : e2 + c = (e2 - eLow e1 e2) + (eLow e1 e2 + c) := by lia
  rw [Int.add_mul, Int.mul_assoc, Int.mul_assoc, ← tenp_add (by lia) l3, ← tenp_add (by lia) l3, ← a1, ← a2]
theorem SB.add {m e c m' e' : Int} {N N' : Nat} (h : SB m e c N) (h' : SB m' e' c N') : SB (eAdd m e m' e').1 (eAdd m e m' e').2 c (N + N') := by
  obtain ⟨q1, q2⟩ := eAdd_sc (m1 := m) (m2 := m') h.lo h'.lo
  refine ⟨q1, ?_⟩
  rw [q2]
  have := Int.natAbs_add_le (m * tenp (e + c)) (m' * tenp (e' + c))
  have := h.bd
  have := h'.bd
  lia
theorem SB.le {m e c : Int} {N : Nat} (h : SB m e c N) : m.natAbs ≤ N := by
  have h1 := h.bd
  rw [Int.natAbs_mul] at h1
  have h2 : 0 < (tenp (e + c)).natAbs := by have := tenp_pos (e + c); lia
  exact Nat.le_trans (Nat.le_mul_of_pos_right _ h2) h1
theorem SB.bdd {m e c : Int} {N k : Nat} (h : SB m e c N) (hk : N < 10 ^ k) : Bd m k := ⟨Nat.lt_of_le_of_lt h.le hk⟩
theorem SB.of {m e : Int} {i : Nat} (h : Bd m i) (c : Int) (hl : 0 ≤ e + c) : SB m e c (10 ^ (i + (e + c).toNat)) := by
  refine ⟨hl, ?_⟩
  rw [Int.natAbs_mul, Nat.pow_add]
  refine Nat.mul_le_mul (Nat.le_of_lt h.lt) ?_
  rw [tenp_eq, Int.natAbs_pow]
  exact Nat.le_refl _
theorem nd_quo {o u e d : Int} (hu : 0 < u) (hd : 0 ≤ d) {k : Nat} (ho : nd o.natAbs + 1 ≤ k) (hk : d + 4 ≤ k) : nd (quo o u e d).1.natAbs ≤ k := by
  have hK : ∃ K : Nat, qK o u d = (K : Int) ∧ K < 10 ^ (k - 1) := by
    have hA : absI o = (o.natAbs : Int) := by unfold absI; split <;> lia
    have hU : absI u = (u.natAbs : Int) := by unfold absI; split <;> lia
    have hT : tenp (qShift o u d) = ((10 ^ (qShift o u d).toNat : Nat) : Int) := by rw [tenp_eq]; simp
    have hu' : 0 < u.natAbs := by lia
    refine ⟨o.natAbs * 10 ^ (qShift o u d).toNat / u.natAbs, ?_, ?_⟩
    · unfold qK
      rw [hA, hU, hT, Int.fdiv_eq_ediv_of_nonneg _ (by lia)]
      simp
    · have hl := nd_lt o.natAbs
      by_cases hs : 0 > d + 2 + (nd u.natAbs : Int) - (nd o.natAbs : Int)
      · have : qShift o u d = 0 := by unfold qShift; rw [if_pos hs]
        rw [this]
        have h1 : o.natAbs * 10 ^ (0 : Int).toNat / u.natAbs ≤ o.natAbs := by
          simp only [Int.toNat_zero, Nat.pow_zero, Nat.mul_one]
          exact Nat.div_le_self _ _
        have h2 : 10 ^ nd o.natAbs ≤ 10 ^ (k - 1) := Nat.pow_le_pow_right (by lia) (by lia)
        lia
      · have hq : qShift o u d = d + 2 + (nd u.natAbs : Int) - (nd o.natAbs : Int) := by unfold qShift; rw [if_neg hs]
        obtain ⟨n1, n2⟩ := nd_le_self hu'
        rw [Nat.div_lt_iff_lt_mul hu']
        have h3 : o.natAbs * 10 ^ (qShift o u d).toNat < 10 ^ nd o.natAbs * 10 ^ (qShift o u d).toNat := Nat.mul_lt_mul_of_pos_right hl (Nat.pow_pos (by lia))
        have h4 : 10 ^ nd o.natAbs * 10 ^ (qShift o u d).toNat = 10 ^ (d.toNat + 3) * 10 ^ (nd u.natAbs - 1) := by
          rw [← Nat.pow_add, ← Nat.pow_add]
          congr 1
          lia
        have h5 : 10 ^ (d.toNat + 3) * 10 ^ (nd u.natAbs - 1) ≤ 10 ^ (k - 1) * u.natAbs := Nat.mul_le_mul (Nat.pow_le_pow_right (by lia) (by lia)) n2
        lia
  obtain ⟨K, e1, h1⟩ := hK
  have hk1 : k = (k - 1) + 1 := by lia
  apply nd_le
  rw [hk1, Nat.pow_succ]
  have : (quo o u e d).1.natAbs ≤ 10 * K + 1 := by
    unfold quo
    rw [e1]
    dsimp only
    split <;> split <;> lia
  lia
open PySem.W.KIN PySem.NumText
/-! the decimal text of a number -/
def txt (a : Int) : Str := Str.ofString (toString a)
def cut (x : Str) : Str := Txt.rstripChars x "0"
def dg (n : Nat) : List Nat := (Nat.toDigits 10 n).map Char.toNat
theorem txt_dg (n : Nat) : (txt (n : Int)).cps.toList = dg n := signs_num n
theorem str_ext {x y : Str} (h : x.cps.toList = y.cps.toList) : x = y := by
  obtain ⟨⟨a⟩⟩ := x
  obtain ⟨⟨b⟩⟩ := y
  simp only at h
  subst h
  rfl
theorem char_dg : ∀ d : Nat, d < 10 → (Nat.digitChar d).toNat = 48 + d := by decide
theorem dg_small {n : Nat} (h : n < 10) : dg n = [48 + n] := by
  unfold dg
  rw [Nat.toDigits_of_lt_base h, List.map_cons, List.map_nil, char_dg n h]
theorem dg_big {n : Nat} (h : 10 ≤ n) : dg n = dg (n / 10) ++ [48 + n % 10] := by
  have hm : n % 10 < 10 := Nat.mod_lt n (by decide)
  have t : Nat.toDigits 10 (n / 10) ++ Nat.toDigits 10 (n % 10) = Nat.toDigits 10 (10 * (n / 10) + n % 10) := Nat.toDigits_append_toDigits (by decide) (by lia) hm
  rw [Nat.div_add_mod] at t
  have e := dg_small hm
  unfold dg at e ⊢
  rw [← t, List.map_append, e]
theorem dg_len {n : Nat} (h : 0 < n) : (dg n).length = nd n := by
  induction n using Nat.strongRecOn with
  | ind n ih =>
    rw [nd_pos h]
    rcases Nat.lt_or_ge n 10 with q | q
    · rw [dg_small q, Nat.div_eq_of_lt q, nd_zero]; rfl
    · rw [dg_big q, List.length_append, ih (n / 10) (by lia) (by lia)]; rfl
theorem str_len (x : Str) : x.length = x.cps.toList.length := by
  show x.cps.size = _
  rw [Array.length_toList]
theorem txt_len {a : Int} (h : 0 < a) : (txt a).length = nd a.natAbs := by
  obtain ⟨n, rfl⟩ := Int.eq_ofNat_of_zero_le (Int.le_of_lt h)
  rw [str_len, txt_dg, dg_len (by lia)]
  rfl
theorem takeWhile_dropWhile_len (p : Nat → Bool) : ∀ l : List Nat, (l.takeWhile p).length + (l.dropWhile p).length = l.length
  | [] => rfl
  | a :: l => by
    by_cases h : p a = true
    · simp only [List.takeWhile_cons, List.dropWhile_cons, h, if_true, List.length_cons]
      have := takeWhile_dropWhile_len p l
      lia
    · simp only [List.takeWhile_cons, List.dropWhile_cons, h, Bool.false_eq_true, if_false, List.length_cons, List.length_nil]
      lia
theorem dropWhile_is (p : Nat → Bool) : ∀ l : List Nat, l.dropWhile p = l.drop (l.takeWhile p).length
  | [] => rfl
  | a :: l => by
    by_cases h : p a = true
    · simp only [List.takeWhile_cons, List.dropWhile_cons, h, if_true, List.length_cons, List.drop_succ_cons]
      exact dropWhile_is p l
    · simp [h]
theorem rev_dropWhile (p : Nat → Bool) (l : List Nat) : (l.reverse.dropWhile p).reverse = l.take (l.length - (l.reverse.takeWhile p).length) := by
  rw [dropWhile_is, List.drop_reverse, List.reverse_reverse]
theorem cut_list (x : Str) : (cut x).cps.toList = (x.cps.toList.reverse.dropWhile (· == 48)).reverse := by
  have hg : ∀ c : Nat, (Str.ofString "0").cps.contains c = (c == 48) := by
    intro c
    have : (Str.ofString "0").cps = #[48] := by decide +kernel
    rw [this]
    simp [Array.contains_eq_mem]
    rw [Bool.eq_iff_iff]
    simp
  rw [rev_dropWhile]
  unfold cut Txt.rstripChars Txt.stripBy
  have hp : (Str.ofString "0").cps.contains = fun c => c == 48 := funext hg
  rw [hp]
  have hlen := str_len x
  have hs : (Builtin.Str.strSub x 0 (x.length - (x.cps.toList.reverse.takeWhile fun c => c == 48).length)).cps.toList = x.cps.toList.take (x.cps.toList.length - (x.cps.toList.reverse.takeWhile fun c => c == 48).length) := by
    rw [hlen]
    show (x.cps.extract 0 _).toList = _
    rw [Array.toList_extract]
    simp [List.extract]
  split
  · rename_i hc
    simp only [stripSame, stripLo, stripHi, Bool.false_eq_true, if_false, if_true, List.drop_zero, beq_self_eq_true, Bool.true_and, beq_iff_eq] at hc
    rw [← hlen, hc, hlen, List.take_length]
  · simp only [PySem.stripped, stripLo, stripHi, Bool.false_eq_true, if_false, if_true, List.drop_zero]
    exact hs
theorem strip_nat {n : Nat} (h : 0 < n) (e : Int) : ∃ k : Nat, 0 < k ∧ k ≤ n ∧ (strip (n : Int) e).1 = (k : Int) := by
  induction n using Nat.strongRecOn generalizing e with
  | ind n ih =>
    by_cases h10 : (n : Int) % 10 = 0
    · rw [strip_step (by lia) h10]
      have : (n : Int) / 10 = ((n / 10 : Nat) : Int) := by lia
      rw [this]
      obtain ⟨k, h1, h2, h3⟩ := ih (n / 10) (by lia) (by lia) (e + 1)
      exact ⟨k, h1, by lia, h3⟩
    · rw [strip_done (by lia) h10]
      exact ⟨n, h, Nat.le_refl _, rfl⟩
theorem dg_strip {n : Nat} (h : 0 < n) (e : Int) : ((dg n).reverse.dropWhile (· == 48)).reverse = dg (strip (n : Int) e).1.toNat := by
  induction n using Nat.strongRecOn generalizing e with
  | ind n ih =>
    by_cases h10 : (n : Int) % 10 = 0
    · have hn : 10 ≤ n := by lia
      rw [strip_step (by lia) h10, dg_big hn]
      have e1 : n % 10 = 0 := by lia
      have : (n : Int) / 10 = ((n / 10 : Nat) : Int) := by lia
      rw [this, ← ih (n / 10) (by lia) (by lia) (e + 1), e1]
      simp
    · rw [strip_done (by lia) h10]
      rcases Nat.lt_or_ge n 10 with q | q
      · rw [dg_small q]
        have e0 : (48 + n == 48) = false := by rw [beq_eq_false_iff_ne]; lia
        rw [Int.toNat_natCast, dg_small q, List.reverse_singleton, List.dropWhile_cons, e0]
        rfl
      · rw [Int.toNat_natCast, dg_big q]
        have e0 : (48 + n % 10 == 48) = false := by rw [beq_eq_false_iff_ne]; lia
        rw [List.reverse_append, List.reverse_singleton, List.singleton_append, List.dropWhile_cons, e0]
        simp
theorem cut_txt {a : Int} (h : 0 < a) (e : Int) : cut (txt a) = txt (strip a e).1 := by
  obtain ⟨n, rfl⟩ := Int.eq_ofNat_of_zero_le (Int.le_of_lt h)
  apply str_ext
  obtain ⟨k, h1, h2, h3⟩ := strip_nat (n := n) (by lia) e
  rw [cut_list, txt_dg, dg_strip (by lia) e, h3, txt_dg]
  rfl
theorem cut_zero : cut (txt 0) = Str.ofString "" := by
  apply str_ext
  rw [cut_list, show (0 : Int) = ((0 : Nat) : Int) from rfl, txt_dg, dg_small (by lia)]
  decide +kernel
theorem txt_ne {a : Int} (h : 0 < a) : (txt a == Str.ofString "") = false := by
  rw [beq_eq_false_iff_ne]
  intro e
  have h1 := txt_len h
  rw [e] at h1
  have h2 : (Str.ofString "").length = 0 := by decide +kernel
  have h3 := (nd_le_self (k := a.natAbs) (by lia)).1
  lia
/-! round half to even of P / Q -/
def rhe (P Q : Int) : Int := upP (P.fdiv Q) (P.fmod Q) Q
theorem rhe_pos {P Q : Int} (hQ : 0 < Q) : rhe P Q = upP (P / Q) (P % Q) Q := by
  unfold rhe
  rw [Int.fdiv_eq_ediv_of_nonneg _ (Int.le_of_lt hQ), Int.fmod_eq_emod_of_nonneg _ (Int.le_of_lt hQ)]
theorem upP_scale {k r Q c : Int} (hc : 0 < c) : upP k (r * c) (Q * c) = upP k r Q := by
  have h1 : Q * c < 2 * (r * c) ↔ Q < 2 * r := by
    rw [← Int.mul_assoc]
    exact ⟨fun h => Int.lt_of_mul_lt_mul_right h (Int.le_of_lt hc), fun h => Int.mul_lt_mul_of_pos_right h hc⟩
  have h2 : 2 * (r * c) = Q * c ↔ 2 * r = Q := by
    rw [← Int.mul_assoc]
    exact ⟨fun h => Int.eq_of_mul_eq_mul_right (Int.ne_of_gt hc) h, fun h => by rw [h]⟩
  unfold upP
  simp only [h1, h2]
theorem rhe_scale {P Q c : Int} (hQ : 0 < Q) (hc : 0 < c) : rhe (P * c) (Q * c) = rhe P Q := by
  rw [rhe_pos (Int.mul_pos hQ hc), rhe_pos hQ, Int.mul_ediv_mul_of_pos_left _ _ hc, Int.mul_comm P c, Int.mul_comm Q c, Int.mul_emod_mul_of_pos _ _ hc, Int.mul_comm c (P % Q), Int.mul_comm c Q, upP_scale hc]
theorem rhe_congr {P Q P' Q' : Int} (hQ : 0 < Q) (hQ' : 0 < Q') (h : P * Q' = P' * Q) : rhe P Q = rhe P' Q' := by
  rw [← rhe_scale (P := P) hQ hQ', ← rhe_scale (P := P') hQ' hQ, h, Int.mul_comm Q Q']
theorem upP_in (k r Q : Int) : k ≤ upP k r Q ∧ upP k r Q ≤ k + 1 := by unfold upP; (repeat' split) <;> lia
theorem rhe_in {P Q X Y : Int} (hQ : 0 < Q) (h1 : X * Q ≤ P) (h2 : P < Y * Q) : X ≤ rhe P Q ∧ rhe P Q ≤ Y := by
  rw [rhe_pos hQ]
  have a1 : X ≤ P / Q := (Int.le_ediv_iff_mul_le hQ).mpr h1
  have a2 : P / Q < Y := (Int.ediv_lt_iff_lt_mul hQ).mpr h2
  have := upP_in (P / Q) (P % Q) Q
  lia
theorem rhe_one {P Q : Int} (hQ : 0 < Q) (X : Int) (h : P = X * Q) : rhe P Q = X := by
  subst h
  rw [rhe_pos hQ, Int.mul_ediv_cancel _ (Int.ne_of_gt hQ), Int.mul_emod_left]
  unfold upP
  rw [if_neg (by lia), if_neg (by lia)]

/-! the place of the first digit of A / b -/
structure IsLead (A b L : Int) : Prop where
  lo : ∀ c, 0 ≤ c → 0 ≤ L + c → b * tenp (L + c) ≤ A * tenp c
  hi : ∀ c, 0 ≤ c → 0 ≤ L + 1 + c → A * tenp c < b * tenp (L + 1 + c)
theorem ten_cancel_le {X Y : Int} (c : Int) (h : X * tenp c ≤ Y * tenp c) : X ≤ Y := Int.le_of_mul_le_mul_right h (tenp_pos c)
theorem ten_cancel_lt {X Y : Int} (c : Int) (h : X * tenp c < Y * tenp c) : X < Y := Int.lt_of_mul_lt_mul_right h (Int.le_of_lt (tenp_pos c))
theorem ten_cancel {X Y : Int} (c : Int) (h : X * tenp c = Y * tenp c) : X = Y := Int.eq_of_mul_eq_mul_right (Int.ne_of_gt (tenp_pos c)) h
theorem ten_lt {p q : Int} (h0 : 0 ≤ p) (h : p < q) : tenp p * 10 ≤ tenp q := by
  have : q = (q - 1) + 1 := by lia
  rw [this, tenp_add (by lia) (by lia)]
  have e1 : tenp 1 = 10 := by rw [tenp_eq]; rfl
  rw [e1]
  have : q - 1 = p + (q - 1 - p) := by lia
  rw [this, tenp_add h0 (by lia)]
  have := tenp_pos (q - 1 - p)
  have h2 : tenp p * 1 ≤ tenp p * tenp (q - 1 - p) := Int.mul_le_mul_of_nonneg_left (by lia) (Int.le_of_lt (tenp_pos p))
  lia
theorem ten_mono {p q : Int} (h0 : 0 ≤ p) (h : p ≤ q) : tenp p ≤ tenp q := by
  rcases Int.lt_or_eq_of_le h with q' | rfl
  · have := ten_lt h0 q'
    have := tenp_pos p
    lia
  · exact Int.le_refl _
/-- one c is enough -/
theorem IsLead.of {A b L c1 c2 : Int} (h1 : 0 ≤ c1) (h2 : 0 ≤ L + c1) (lo : b * tenp (L + c1) ≤ A * tenp c1) (h3 : 0 ≤ c2) (h4 : 0 ≤ L + 1 + c2) (hi : A * tenp c2 < b * tenp (L + 1 + c2)) : IsLead A b L := by
  refine ⟨fun c k1 k2 => ?_, fun c k1 k2 => ?_⟩
  · have e : b * tenp (L + c) * tenp c1 ≤ A * tenp c * tenp c1 := by
      have := Int.mul_le_mul_of_nonneg_right lo (Int.le_of_lt (tenp_pos c))
      rw [Int.mul_assoc, Int.mul_assoc, ← tenp_add h2 k1, ← tenp_add h1 k1] at this
      rw [Int.mul_assoc, Int.mul_assoc, ← tenp_add k2 h1, ← tenp_add k1 h1]
      have x1 : L + c + c1 = L + c1 + c := by lia
      have x2 : c + c1 = c1 + c := by lia
      rw [x1, x2]
      exact this
    exact ten_cancel_le _ e
  · have e : A * tenp c * tenp c2 < b * tenp (L + 1 + c) * tenp c2 := by
      have := Int.mul_lt_mul_of_pos_right hi (tenp_pos c)
      rw [Int.mul_assoc, Int.mul_assoc, ← tenp_add h4 k1, ← tenp_add h3 k1] at this
      rw [Int.mul_assoc, Int.mul_assoc, ← tenp_add k2 h3, ← tenp_add k1 h3]
      have x1 : L + 1 + c + c2 = L + 1 + c2 + c := by lia
      have x2 : c + c2 = c2 + c := by lia
      rw [x1, x2]
      exact this
    exact ten_cancel_lt _ e
theorem IsLead.uniq {A b L L' : Int} (hb : 0 < b) (x : IsLead A b L) (y : IsLead A b L') : L = L' := by
  have key : ∀ {L L' : Int}, IsLead A b L → IsLead A b L' → ¬ L < L' := by
    intro L L' x y h
    have c0 : 0 ≤ (L.natAbs + L'.natAbs + 1 : Int) := by lia
    have h1 := x.hi (L.natAbs + L'.natAbs + 1) c0 (by lia)
    have h2 := y.lo (L.natAbs + L'.natAbs + 1) c0 (by lia)
    have h3 : tenp (L + 1 + (L.natAbs + L'.natAbs + 1)) ≤ tenp (L' + (L.natAbs + L'.natAbs + 1)) := ten_mono (by lia) (by lia)
    have h4 := Int.mul_le_mul_of_nonneg_left h3 (Int.le_of_lt hb)
    lia
  have := key x y
  have := key y x
  lia
theorem IsLead.congr {A b A' b' L : Int} (hb : 0 < b) (h : A * b' = A' * b) (x : IsLead A b L) (hb' : 0 < b') : IsLead A' b' L := by
  refine ⟨fun c k1 k2 => ?_, fun c k1 k2 => ?_⟩
  · refine Int.le_of_mul_le_mul_right (a := b) ?_ hb
    have := Int.mul_le_mul_of_nonneg_right (x.lo c k1 k2) (Int.le_of_lt hb')
    have e1 : b' * tenp (L + c) * b = b * tenp (L + c) * b' := by rw [Int.mul_comm b' _, Int.mul_assoc, Int.mul_comm b' b, ← Int.mul_assoc, Int.mul_comm _ b]
    have e2 : A' * tenp c * b = A * tenp c * b' := by
      rw [Int.mul_assoc, Int.mul_comm (tenp c) b, ← Int.mul_assoc, ← h, Int.mul_assoc, Int.mul_comm b' _, ← Int.mul_assoc]
    rw [e1, e2]
    exact this
  · refine Int.lt_of_mul_lt_mul_right (a := b) ?_ (Int.le_of_lt hb)
    have := Int.mul_lt_mul_of_pos_right (x.hi c k1 k2) hb'
    have e1 : b' * tenp (L + 1 + c) * b = b * tenp (L + 1 + c) * b' := by rw [Int.mul_comm b' _, Int.mul_assoc, Int.mul_comm b' b, ← Int.mul_assoc, Int.mul_comm _ b]
    have e2 : A' * tenp c * b = A * tenp c * b' := by
      rw [Int.mul_assoc, Int.mul_comm (tenp c) b, ← Int.mul_assoc, ← h, Int.mul_assoc, Int.mul_comm b' _, ← Int.mul_assoc]
    rw [e1, e2]
    exact this

/-! the law's own rounding -/
def mx (x : Int) : Int := if x > 0 then x else 0
theorem mx_in (x : Int) : 0 ≤ mx x ∧ x ≤ mx x ∧ mx x - mx (-x) = x := by unfold mx; split <;> split <;> lia
def ld0 (a b : Int) : Int := (nd a.natAbs : Int) - (nd b.natAbs : Int)
def ld (a b : Int) : Int := if absI a * tenp (mx (-ld0 a b)) < b * tenp (mx (ld0 a b)) then ld0 a b - 1 else ld0 a b
theorem absI_pos {a : Int} (h : a ≠ 0) : 0 < absI a ∧ absI a = (a.natAbs : Int) := by unfold absI; split <;> lia
theorem nd_ten {A : Int} (h : 0 < A) : tenp ((nd A.natAbs : Int) - 1) ≤ A ∧ A < tenp (nd A.natAbs : Int) ∧ 0 < nd A.natAbs := by
  obtain ⟨h1, h2⟩ := nd_le_self (k := A.natAbs) (by lia)
  have h3 := nd_lt A.natAbs
  have e : ((nd A.natAbs : Int) - 1).toNat = nd A.natAbs - 1 := by lia
  rw [tenp_nat, tenp_eq, e]
  refine ⟨?_, ?_, h1⟩
  · have : ((10 ^ (nd A.natAbs - 1) : Nat) : Int) ≤ (A.natAbs : Int) := by exact_mod_cast h2
    simp at this
    lia
  · have : ((A.natAbs : Nat) : Int) < ((10 ^ nd A.natAbs : Nat) : Int) := by exact_mod_cast h3
    simp at this
    lia
theorem ld_lead {a b : Int} (ha : a ≠ 0) (hb : 0 < b) : IsLead (absI a) b (ld a b) := by
  obtain ⟨hA, eA⟩ := absI_pos ha
  have nA := nd_ten hA
  have nB := nd_ten hb
  have eN : (absI a).natAbs = a.natAbs := by lia
  rw [eN] at nA
  unfold ld
  generalize absI a = A at *
  obtain ⟨a1, a2, a3⟩ := nA
  obtain ⟨b1, b2, b3⟩ := nB
  obtain ⟨m1, m2, m3⟩ := mx_in (ld0 a b)
  obtain ⟨m4, m5, _⟩ := mx_in (-ld0 a b)
  split
  · rename_i hlt
    have e3 : ld0 a b - 1 + 1 + mx (-ld0 a b) = mx (ld0 a b) := by lia
    refine IsLead.of (c1 := mx (-ld0 a b) + 1) (c2 := mx (-ld0 a b)) (by lia) (by lia) ?_ m4 (by lia) (by rw [e3]; exact hlt)
    have e4 : ld0 a b - 1 + (mx (-ld0 a b) + 1) = mx (ld0 a b) := by lia
    rw [e4]
    -- b 10^(mx l) < 10^(nb + mx l) = 10^(na - 1 + mx(-l) + 1) ≤ A 10^(mx (-l) + 1)
    have s1 : b * tenp (mx (ld0 a b)) ≤ tenp (nd b.natAbs : Int) * tenp (mx (ld0 a b)) := Int.mul_le_mul_of_nonneg_right (Int.le_of_lt b2) (Int.le_of_lt (tenp_pos _))
    have s2 : tenp ((nd a.natAbs : Int) - 1) * tenp (mx (-ld0 a b) + 1) ≤ A * tenp (mx (-ld0 a b) + 1) := Int.mul_le_mul_of_nonneg_right a1 (Int.le_of_lt (tenp_pos _))
    rw [← tenp_add (by lia) m1] at s1
    rw [← tenp_add (by lia) (by lia)] at s2
    have e5 : (nd a.natAbs : Int) - 1 + (mx (-ld0 a b) + 1) = (nd b.natAbs : Int) + mx (ld0 a b) := by unfold ld0 at *; lia
    rw [e5] at s2
    lia
  · rename_i hge
    have e3 : ld0 a b + mx (-ld0 a b) = mx (ld0 a b) := by lia
    refine IsLead.of (c1 := mx (-ld0 a b)) (c2 := mx (-ld0 a b)) m4 (by lia) (by rw [e3]; lia) m4 (by lia) ?_
    have e4 : ld0 a b + 1 + mx (-ld0 a b) = mx (ld0 a b) + 1 := by lia
    rw [e4]
    have s1 : A * tenp (mx (-ld0 a b)) < tenp (nd a.natAbs : Int) * tenp (mx (-ld0 a b)) := Int.mul_lt_mul_of_pos_right a2 (tenp_pos _)
    have s2 : tenp ((nd b.natAbs : Int) - 1) * tenp (mx (ld0 a b) + 1) ≤ b * tenp (mx (ld0 a b) + 1) := Int.mul_le_mul_of_nonneg_right b1 (Int.le_of_lt (tenp_pos _))
    rw [← tenp_add (by lia) m4] at s1
    rw [← tenp_add (by lia) (by lia)] at s2
    have e5 : (nd b.natAbs : Int) - 1 + (mx (ld0 a b) + 1) = (nd a.natAbs : Int) + mx (-ld0 a b) := by unfold ld0 at *; lia
    rw [e5] at s2
    lia
def lA (a b d : Int) : Int := absI a * tenp (mx (d - 1 - ld a b))
def lB (a b d : Int) : Int := b * tenp (mx (-(d - 1 - ld a b)))
def lK (a b d : Int) : Int := rhe (lA a b d) (lB a b d)
theorem lB_pos {a b d : Int} (hb : 0 < b) : 0 < lB a b d := Int.mul_pos hb (tenp_pos _)
theorem lK_in {a b d : Int} (ha : a ≠ 0) (hb : 0 < b) (hd : 1 ≤ d) : tenp (d - 1) ≤ lK a b d ∧ lK a b d ≤ tenp d ∧ tenp (d - 1) ≤ (lA a b d).fdiv (lB a b d) ∧ (lA a b d).fdiv (lB a b d) < tenp d := by
  have hl := ld_lead ha hb
  obtain ⟨m1, m2, m3⟩ := mx_in (d - 1 - ld a b)
  obtain ⟨m4, m5, _⟩ := mx_in (-(d - 1 - ld a b))
  have h1 : tenp (d - 1) * lB a b d ≤ lA a b d := by
    have := hl.lo (mx (d - 1 - ld a b)) m1 (by lia)
    unfold lA lB
    have e : ld a b + mx (d - 1 - ld a b) = (d - 1) + mx (-(d - 1 - ld a b)) := by lia
    rw [e, tenp_add (by lia) m4, ← Int.mul_assoc, Int.mul_comm b, Int.mul_assoc] at this
    exact this
  have h2 : lA a b d < tenp d * lB a b d := by
    have := hl.hi (mx (d - 1 - ld a b)) m1 (by lia)
    unfold lA lB
    have e : ld a b + 1 + mx (d - 1 - ld a b) = d + mx (-(d - 1 - ld a b)) := by lia
    rw [e, tenp_add (by lia) m4, ← Int.mul_assoc, Int.mul_comm b, Int.mul_assoc] at this
    exact this
  have hB : 0 < lB a b d := lB_pos hb
  have := rhe_in hB h1 h2
  rw [Int.fdiv_eq_ediv_of_nonneg _ (Int.le_of_lt hB)]
  exact ⟨this.1, this.2, (Int.le_ediv_iff_mul_le hB).mpr h1, (Int.ediv_lt_iff_lt_mul hB).mpr h2⟩
def ld2 (a b d : Int) : Int := ld a b + ((nd (lK a b d).natAbs : Int) - d + 0)
def lround (a b d top : Int) : Option (Int × Int) :=
  if a = 0 then some (0, 0) else if top < ld2 a b d then none else if ld2 a b d < -top then some (0, 0)
  else some ((if 0 < a then 1 else -1) * (strip (lK a b d) 0).1, ld2 a b d - (nd (strip (lK a b d) 0).1.natAbs : Int) + 1)
theorem nd_lB {a b d : Int} {k : Nat} (ha : a ≠ 0) (hb : 0 < b) (hd : 1 ≤ d) (h1 : nd a.natAbs ≤ k) (h2 : nd b.natAbs ≤ k) : Bd (lB a b d) k := by
  have nB := nd_ten hb
  obtain ⟨b1, b2, b3⟩ := nB
  have hle : ld a b ≤ ld0 a b := by unfold ld; split <;> lia
  have hk : (nd b.natAbs : Int) + mx (-(d - 1 - ld a b)) ≤ (k : Int) := by
    unfold mx
    unfold ld0 at hle
    split <;> lia
  obtain ⟨m4, m5, _⟩ := mx_in (-(d - 1 - ld a b))
  refine ⟨?_⟩
  have h3 : lB a b d < tenp (nd b.natAbs : Int) * tenp (mx (-(d - 1 - ld a b))) := Int.mul_lt_mul_of_pos_right b2 (tenp_pos _)
  rw [← tenp_add (by lia) m4] at h3
  have h4 := ten_mono (p := (nd b.natAbs : Int) + mx (-(d - 1 - ld a b))) (q := (k : Int)) (by lia) hk
  have h5 := lB_pos (a := a) (d := d) hb
  have h6 : lB a b d < tenp (k : Int) := by lia
  rw [tenp_nat] at h6
  have h7 : ((lB a b d).natAbs : Int) < ((10 ^ k : Nat) : Int) := by
    simp
    lia
  exact_mod_cast h7
def rreal (m e d top : Int) : Option (Int × Int) :=
  if (rdg m e d).1 = 0 ∨ (rdg m e d).2 + (nd (rdg m e d).1.natAbs : Int) - 1 < -top then some (0, 0)
  else if top < (rdg m e d).2 + (nd (rdg m e d).1.natAbs : Int) - 1 then none else some (rdg m e d)
theorem rr0 {m e d top : Int} (h : (rdg m e d).1 = 0) : (rreal m e d top).map dP = some (pr 0 0) := by unfold rreal; rw [if_pos (.inl h)]; rfl
theorem rr1 {m e d top : Int} (h : (rdg m e d).2 + (nd (rdg m e d).1.natAbs : Int) - 1 < -top) : (rreal m e d top).map dP = some (pr 0 0) := by unfold rreal; rw [if_pos (.inr h)]; rfl
theorem rr2 {m e d top : Int} (h0 : (rdg m e d).1 ≠ 0) (h : ¬ (rdg m e d).2 + (nd (rdg m e d).1.natAbs : Int) - 1 < -top) (h1 : top < (rdg m e d).2 + (nd (rdg m e d).1.natAbs : Int) - 1) : (rreal m e d top).map dP = none := by
  unfold rreal; rw [if_neg (by intro q; rcases q with q | q <;> contradiction), if_pos h1]; rfl
theorem rr3 {m e d top : Int} (h0 : (rdg m e d).1 ≠ 0) (h : ¬ (rdg m e d).2 + (nd (rdg m e d).1.natAbs : Int) - 1 < -top) (h1 : ¬ top < (rdg m e d).2 + (nd (rdg m e d).1.natAbs : Int) - 1) : (rreal m e d top).map dP = some (pr (rdg m e d).1 (rdg m e d).2) := by
  unfold rreal; rw [if_neg (by intro q; rcases q with q | q <;> contradiction), if_neg h1]; rfl
set_option maxHeartbeats 8000000 in
theorem round_real_c (w : World) (m0 e0 d0 top : Int) (t0 t1 t2 t3 : Tok) : Fn w 75 [.int m0 t0, .int e0 t1, .int d0 t2, .int top t3] 5 (fun _ => nd m0.natAbs ≤ 2700 ∧ 0 ≤ d0) ((rreal m0 e0 d0 top).map dP) := by
  unfold Fn
  intro p loose mean mg mb dp un gd cn cs a' ccd cl outer A₀ base h₀ L m news s Q E B F X N T hk hpre hroom hun hret hexc
  refine wpAny_call ?_
  k_dflt ktr_enter
  (obtain ⟨hx1, hx2⟩ := hpre)
  k_steps
  all_goals (first
    | (tm_at "backE"; exact rr2 (by assumption) (by assumption) (by assumption))
    | (tm_at "backO"; first | exact rr0 (by assumption) | exact rr1 (by assumption) | exact rr3 (by assumption) (by assumption) (by assumption)))
theorem lay_9 : True := by
  (k_with "my call ref" => k_here; (with_reducible show wpAny _ _ (call (Value.ref 75) _) _ _ _); k_dflt (refine fn_useE (round_real_c _ _ _ _ _ _ _ _ _) (by k_asm) (by k_asm) (by k_asm) (by k_asm) (by k_asm) (by first | exact rfl | assumption) (by tm_at "pre") (by ktr_room) (by ktr_units) ?_ ?_; tm_at "gotE"))
  trivial
/-! strip, its values -/
theorem strip_neg (m e : Int) : strip (-m) e = (-(strip m e).1, (strip m e).2) := by
  suffices h : ∀ (n : Nat) (m e : Int), m.natAbs = n → strip (-m) e = (-(strip m e).1, (strip m e).2) from h _ m e rfl
  intro n
  induction n using Nat.strongRecOn with
  | ind n ih =>
    intro m e hn
    by_cases h0 : m = 0
    · subst h0
      rw [Int.neg_zero, strip_zero]; rfl
    · by_cases h10 : m % 10 = 0
      · rw [strip_step h0 h10, strip_step (by lia) (by lia)]
        have e1 : -m / 10 = -(m / 10) := by lia
        rw [e1]
        exact ih (m / 10).natAbs (by lia) _ _ rfl
      · rw [strip_done h0 h10, strip_done (by lia) (by lia)]
theorem strip_vals (m e : Int) (h : m ≠ 0) : (strip m e).1 ≠ 0 ∧ (strip m e).1 = (strip m 0).1 ∧ (strip m e).2 + (nd (strip m e).1.natAbs : Int) = e + (nd m.natAbs : Int) := by
  suffices hh : ∀ (n : Nat) (m e f : Int), m.natAbs = n → m ≠ 0 → (strip m e).1 ≠ 0 ∧ (strip m e).1 = (strip m f).1 ∧ (strip m e).2 + (nd (strip m e).1.natAbs : Int) = e + (nd m.natAbs : Int) from hh _ m e 0 rfl h
  intro n
  induction n using Nat.strongRecOn with
  | ind n ih =>
    intro m e f hn h0
    by_cases h10 : m % 10 = 0
    · rw [strip_step (e := e) h0 h10, strip_step (e := f) h0 h10]
      obtain ⟨h1, h2, h3⟩ := ih (m / 10).natAbs (by lia) (m / 10) (e + 1) (f + 1) rfl (by lia)
      refine ⟨h1, h2, ?_⟩
      rw [h3, nd_pos (n := m.natAbs) (by lia)]
      have : (m / 10).natAbs = m.natAbs / 10 := by lia
      rw [this]
      lia
    · rw [strip_done h0 h10, strip_done h0 h10]
      exact ⟨h0, rfl, rfl⟩
theorem strip_ten (m : Int) (h : m ≠ 0) (j : Nat) : ∀ e : Int, strip (m * 10 ^ j) e = strip m (e + j) := by
  induction j with
  | zero => intro e; simp
  | succ j ih =>
    intro e
    have e1 : m * 10 ^ (j + 1) = m * 10 ^ j * 10 := by rw [Int.pow_succ, Int.mul_assoc]
    have h1 : m * 10 ^ j ≠ 0 := Int.mul_ne_zero h (Int.pow_ne_zero (by decide))
    rw [e1, strip_step (by lia) (by lia)]
    have e2 : m * 10 ^ j * 10 / 10 = m * 10 ^ j := by omega
    rw [e2, ih]
    congr 1
    lia
theorem strip_tenp {m j e : Int} (h : m ≠ 0) (hj : 0 ≤ j) : strip (m * tenp j) e = strip m (e + j) := by
  rw [tenp_eq, strip_ten m h]
  congr 1
  lia
theorem sgnI_pos {m k : Int} (h : 0 < m) : sgnI m k = k := by unfold sgnI; rw [if_pos h]
theorem sgnI_neg {m k : Int} (h : ¬ 0 < m) : sgnI m k = -k := by unfold sgnI; rw [if_neg h]
theorem sgnI_abs {m : Int} (h : m ≠ 0) : sgnI m (absI m) = m := by unfold sgnI absI; (repeat' split) <;> lia
theorem sgnI_mul (m k j : Int) : sgnI m (k * j) = sgnI m k * j := by unfold sgnI; split <;> grind

/-- both roundings, from what they share -/
theorem rr_lr {m e A B d top n : Int} (hm : m ≠ 0) (hA : A ≠ 0) (hs : 0 < m ↔ 0 < A) (ht : 0 ≤ top) (hn : (nd m.natAbs : Int) = n) (hl : ld A B = e + n - 1)
    (h1 : d < n → rhe (absI m) (tenp (n - d)) = lK A B d) (h2 : n ≤ d → lK A B d = absI m * tenp (d - n)) (hK : 0 < lK A B d) : rreal m e d top = lround A B d top := by
  have key : rdg m e d = strip (sgnI m (lK A B d)) (e + (n - d)) := by
    unfold rdg
    rw [hn]
    by_cases hd : d < n
    · rw [if_pos (by lia), ← h1 hd]; rfl
    · rw [if_neg (by lia), h2 (by lia), sgnI_mul, sgnI_abs hm, strip_tenp hm (by lia)]
      congr 1
      lia
  have hld : ld2 A B d = e + n - 1 + ((nd (lK A B d).natAbs : Int) - d + 0) := by unfold ld2; rw [hl]
  unfold lround
  rw [if_neg hA, hld]
  generalize lK A B d = K at *
  have v1 : (rdg m e d).1 = (if 0 < A then 1 else -1) * (strip K 0).1 ∧ (rdg m e d).1 ≠ 0 ∧ (rdg m e d).2 + (nd (rdg m e d).1.natAbs : Int) = e + (n - d) + (nd K.natAbs : Int) ∧ (rdg m e d).1.natAbs = (strip K 0).1.natAbs := by
    obtain ⟨w1, w2, w3⟩ := strip_vals K (e + (n - d)) (by lia)
    rw [key]
    by_cases hp : 0 < m
    · rw [sgnI_pos hp, if_pos (hs.mp hp)]
      refine ⟨by rw [w2]; lia, w1, w3, by rw [w2]⟩
    · rw [sgnI_neg hp, if_neg (fun q => hp (hs.mpr q)), strip_neg]
      dsimp only
      rw [Int.natAbs_neg]
      refine ⟨by rw [w2]; lia, by lia, w3, by rw [w2]⟩
  obtain ⟨v1, v2, v3, v4⟩ := v1
  unfold rreal
  have hlead : (rdg m e d).2 + (nd (rdg m e d).1.natAbs : Int) - 1 = e + n - 1 + ((nd K.natAbs : Int) - d + 0) := by lia
  rw [hlead]
  generalize e + n - 1 + ((nd K.natAbs : Int) - d + 0) = T at *
  by_cases c1 : T < -top
  · rw [if_pos (.inr c1), if_neg (by lia), if_pos c1]
  · rw [if_neg (by lia), if_neg c1]
    by_cases c2 : top < T
    · rw [if_pos c2, if_pos c2]
    · rw [if_neg c2, if_neg c2, ← v1, ← v4]
      congr 1
      refine Prod.ext rfl ?_
      dsimp only
      lia

/-! m 10^e is A / B -/
structure Rep (m e A B c : Int) : Prop where
  c0 : 0 ≤ c
  ec : 0 ≤ e + c
  B0 : 0 < B
  eq : m * tenp (e + c) * B = A * tenp c
theorem sign_eq {X Y p q : Int} (hp : 0 < p) (hq : 0 < q) (h : X * p = Y * q) : (0 < X ↔ 0 < Y) ∧ (X = 0 ↔ Y = 0) ∧ absI X * p = absI Y * q := by
  rcases Int.lt_trichotomy X 0 with x | x | x
  · have h1 : X * p < 0 := Int.mul_neg_of_neg_of_pos x hp
    have hY : Y < 0 := by
      rcases (by lia : Y < 0 ∨ 0 ≤ Y) with y | y
      · exact y
      · have := Int.mul_nonneg y (Int.le_of_lt hq); lia
    refine ⟨by lia, by lia, ?_⟩
    unfold absI
    rw [if_pos x, if_pos hY, Int.neg_mul, Int.neg_mul, h]
  · subst x
    rw [Int.zero_mul] at h
    have hY : Y = 0 := by
      rcases Int.mul_eq_zero.mp h.symm with y | y
      · exact y
      · lia
    subst hY
    refine ⟨by lia, by lia, ?_⟩
    have a0 : absI 0 = 0 := rfl
    rw [a0, Int.zero_mul, Int.zero_mul]
  · have h1 : 0 < X * p := Int.mul_pos x hp
    have hY : 0 < Y := by
      rcases (by lia : 0 < Y ∨ Y ≤ 0) with y | y
      · exact y
      · have := Int.mul_nonpos_of_nonpos_of_nonneg y (Int.le_of_lt hq); lia
    refine ⟨by lia, by lia, ?_⟩
    unfold absI
    rw [if_neg (by lia), if_neg (by lia), h]
theorem lround_zero {A B d top : Int} (h : A = 0) : lround A B d top = some (0, 0) := by unfold lround; rw [if_pos h]
theorem rreal_zero {m e d top : Int} (h : m = 0) : rreal m e d top = some (0, 0) := by
  subst h
  have : (rdg 0 e d).1 = 0 := by
    unfold rdg
    have h0 : (Int.natAbs 0) = 0 := rfl
    have n0 : (nd (Int.natAbs 0) : Int) = 0 := by rw [h0, nd_zero]; rfl
    rw [n0]
    split
    · have a0 : absI 0 = 0 := rfl
      rename_i hd
      have t := tenp_pos (0 - d)
      have u0 : upP (Int.fdiv (absI 0) (tenp (0 - d))) (Int.fmod (absI 0) (tenp (0 - d))) (tenp (0 - d)) = 0 := by
        rw [a0, Int.zero_fdiv, Int.zero_fmod]
        unfold upP
        rw [if_neg (by lia), if_neg (by lia)]
      rw [u0]
      have s0 : sgnI 0 0 = 0 := rfl
      rw [s0, strip_zero]
    · rw [strip_zero]
  unfold rreal
  rw [if_pos (.inl this)]
theorem Rep.round {m e A B c d top : Int} (h : Rep m e A B c) (hd : 1 ≤ d) (ht : 0 ≤ top) : rreal m e d top = lround A B d top := by
  obtain ⟨c0, ec, B0, eq⟩ := h
  have tc := tenp_pos c
  have te := tenp_pos (e + c)
  obtain ⟨s1, s2, s3⟩ := sign_eq (X := m) (Y := A) (p := tenp (e + c) * B) (q := tenp c) (Int.mul_pos te B0) tc (by rw [← Int.mul_assoc]; exact eq)
  by_cases hm : m = 0
  · rw [rreal_zero hm, lround_zero (s2.mp hm)]
  · have hA : A ≠ 0 := fun q => hm (s2.mpr q)
    obtain ⟨pX, eX⟩ := absI_pos hm
    obtain ⟨n, hn⟩ : ∃ n : Int, n = (nd m.natAbs : Int) := ⟨_, rfl⟩
    have nX := nd_ten pX
    have eN : (absI m).natAbs = m.natAbs := by lia
    rw [eN, ← hn] at nX
    obtain ⟨n1, n2, n3⟩ := nX
    have n4 : 1 ≤ n := by lia
    have hl : ld A B = e + n - 1 := by
      refine IsLead.uniq B0 (ld_lead hA B0) (IsLead.of (c1 := c) (c2 := c) c0 (by lia) ?_ c0 (by lia) ?_)
      · rw [← s3]
        have e1 : e + n - 1 + c = (n - 1) + (e + c) := by lia
        rw [e1, tenp_add (by lia) ec]
        have := Int.mul_le_mul_of_nonneg_right n1 (Int.le_of_lt (Int.mul_pos te B0))
        grind
      · rw [← s3]
        have e1 : e + n - 1 + 1 + c = n + (e + c) := by lia
        rw [e1, tenp_add (by lia) ec]
        have := Int.mul_lt_mul_of_pos_right n2 (Int.mul_pos te B0)
        grind
    have hK := (lK_in (d := d) hA B0 hd).1
    have hK0 := tenp_pos (d - 1)
    obtain ⟨m1, m2, m3⟩ := mx_in (d - 1 - ld A B)
    obtain ⟨m4, m5, _⟩ := mx_in (-(d - 1 - ld A B))
    refine rr_lr hm hA s1 ht hn.symm hl (fun hlt => ?_) (fun hle => ?_) (by lia)
    · refine rhe_congr (tenp_pos _) (lB_pos B0) ?_
      unfold lA lB
      apply ten_cancel (e + c)
      have q1 : tenp c * tenp (mx (-(d - 1 - ld A B))) = tenp (mx (d - 1 - ld A B)) * tenp (n - d) * tenp (e + c) := by
        rw [← tenp_add c0 m4, ← tenp_add m1 (by lia), ← tenp_add (by lia) ec]
        congr 1
        lia
      grind
    · refine rhe_one (lB_pos B0) _ ?_
      unfold lA lB
      apply ten_cancel c
      have q1 : tenp (e + c) * tenp (mx (d - 1 - ld A B)) = tenp (d - n) * tenp (mx (-(d - 1 - ld A B))) * tenp c := by
        rw [← tenp_add ec m1, ← tenp_add (by lia) m4, ← tenp_add (by lia) c0]
        congr 1
        lia
      grind

/-! a quotient with its sticky digit -/
theorem sticky {K T u R s h P : Int} (hu : 0 < u) (hT : T = K * u + R) (r0 : 0 ≤ R) (r1 : R < u) (hs : s = if R = 0 then 0 else 1) (hh : 0 < h) (hP : P = 20 * h) :
    rhe (10 * K + s) P = rhe (10 * T) (u * P) := by
  have hPp : 0 < P := by lia
  have hQ : 0 < u * P := Int.mul_pos hu hPp
  rw [rhe_pos hPp, rhe_pos hQ]
  have s01 : 0 ≤ s ∧ s ≤ 1 ∧ (s = 0 ↔ R = 0) := by rw [hs]; split <;> lia
  obtain ⟨s0, s1, s2⟩ := s01
  obtain ⟨q, hq⟩ : ∃ q, q = K / (2 * h) := ⟨_, rfl⟩
  obtain ⟨g, hg⟩ : ∃ g, g = K % (2 * h) := ⟨_, rfl⟩
  have k0 : K = 2 * h * q + g := by rw [hq, hg]; exact (Int.mul_ediv_add_emod K (2 * h)).symm
  have g0 : 0 ≤ g := by rw [hg]; exact Int.emod_nonneg _ (by lia)
  have g1 : g < 2 * h := by rw [hg]; exact Int.emod_lt_of_pos _ (by lia)
  have d1 : (10 * K + s) / P = q ∧ (10 * K + s) % P = 10 * g + s := by
    have e : 10 * K + s = (10 * g + s) + P * q := by rw [k0, hP]; grind
    rw [e, Int.add_mul_ediv_left _ _ (Int.ne_of_gt hPp), Int.add_mul_emod_self_left, Int.ediv_eq_zero_of_lt (by lia) (by lia), Int.emod_eq_of_lt (by lia) (by lia)]
    lia
  have b0 : 0 ≤ g * u := Int.mul_nonneg g0 (Int.le_of_lt hu)
  have b1 : g * u ≤ (2 * h - 1) * u := Int.mul_le_mul_of_nonneg_right (by lia) (Int.le_of_lt hu)
  have b2 : u * P = 20 * (h * u) := by rw [hP]; grind
  have b3 : (2 * h - 1) * u = 2 * (h * u) - u := by grind
  have d2 : 10 * T / (u * P) = q ∧ 10 * T % (u * P) = 10 * (g * u) + 10 * R := by
    have e : 10 * T = (10 * (g * u) + 10 * R) + u * P * q := by rw [hT, k0, hP]; grind
    rw [e, Int.add_mul_ediv_left _ _ (Int.ne_of_gt hQ), Int.add_mul_emod_self_left, Int.ediv_eq_zero_of_lt (by lia) (by lia), Int.emod_eq_of_lt (by lia) (by lia)]
    lia
  rw [d1.1, d1.2, d2.1, d2.2, b2, hP]
  unfold upP
  rcases Int.lt_trichotomy g h with c | c | c
  · have : g * u ≤ (h - 1) * u := Int.mul_le_mul_of_nonneg_right (by lia) (Int.le_of_lt hu)
    have b4 : (h - 1) * u = h * u - u := by grind
    rw [if_neg (by lia), if_neg (by lia), if_neg (by lia), if_neg (by lia)]
  · subst c
    by_cases hR : R = 0
    · have := s2.mpr hR
      have c1 : ¬ 20 * g < 2 * (10 * g + s) := by lia
      have c2 : 2 * (10 * g + s) = 20 * g := by lia
      have c3 : ¬ 20 * (g * u) < 2 * (10 * (g * u) + 10 * R) := by lia
      have c4 : 2 * (10 * (g * u) + 10 * R) = 20 * (g * u) := by lia
      rw [if_neg c1, if_pos c2, if_neg c3, if_pos c4]
    · have : s ≠ 0 := fun z => hR (s2.mp z)
      rw [if_pos (by lia), if_pos (by lia)]
  · have : (h + 1) * u ≤ g * u := Int.mul_le_mul_of_nonneg_right (by lia) (Int.le_of_lt hu)
    have b4 : (h + 1) * u = h * u + u := by grind
    rw [if_pos (by lia), if_pos (by lia)]
structure QRep (o u e A B c : Int) : Prop where
  c0 : 0 ≤ c
  ec : 0 ≤ e + c
  B0 : 0 < B
  u0 : 0 < u
  eq : o * tenp (e + c) * B = A * tenp c * u
theorem QRep.round {o u e A B c d top : Int} (h : QRep o u e A B c) (hd : 1 ≤ d) (ht : 0 ≤ top) : rreal (quo o u e d).1 (quo o u e d).2 d top = lround A B d top := by
  obtain ⟨c0, ec, B0, u0, eq⟩ := h
  have tc := tenp_pos c
  have te := tenp_pos (e + c)
  obtain ⟨s1, s2, s3⟩ := sign_eq (X := o) (Y := A) (p := tenp (e + c) * B) (q := tenp c * u) (Int.mul_pos te B0) (Int.mul_pos tc u0) (by rw [← Int.mul_assoc, ← Int.mul_assoc]; exact eq)
  have hU : absI u = u := by unfold absI; rw [if_neg (by lia)]
  obtain ⟨S, hS⟩ : ∃ S, S = qShift o u d := ⟨_, rfl⟩
  have S0 : 0 ≤ S := by rw [hS]; unfold qShift; split <;> lia
  have S1 : d + 2 + (nd u.natAbs : Int) - (nd o.natAbs : Int) ≤ S := by rw [hS]; unfold qShift; split <;> lia
  have eK : qK o u d = (absI o * tenp S) / u := by unfold qK; rw [← hS, hU, Int.fdiv_eq_ediv_of_nonneg _ (Int.le_of_lt u0)]
  have eR : qR o u d = (absI o * tenp S) % u := by unfold qR; rw [← hS, hU, Int.fmod_eq_emod_of_nonneg _ (Int.le_of_lt u0)]
  obtain ⟨T, hT⟩ : ∃ T, T = absI o * tenp S := ⟨_, rfl⟩
  rw [← hT] at eK eR
  obtain ⟨s, hs⟩ : ∃ s : Int, s = if T % u = 0 then 0 else 1 := ⟨_, rfl⟩
  have hq : quo o u e d = (sgnI (if o < 0 then -1 else 1) (10 * (T / u) + s), e - S - 1) := by
    unfold quo
    rw [← hS, eK, eR, ← hs]
    have hu' : decide (u < 0) = false := decide_eq_false (by lia)
    rw [hu']
    by_cases ho : o < 0
    · have : decide (o < 0) = true := decide_eq_true ho
      rw [this, if_pos (by decide), if_pos ho]; rfl
    · have : decide (o < 0) = false := decide_eq_false ho
      rw [this, if_neg (by decide), if_neg ho]; rfl
  rw [hq]
  dsimp only
  by_cases ho : o = 0
  · have hT0 : T = 0 := by rw [hT, ho]; show (0 : Int) * _ = 0; rw [Int.zero_mul]
    have hs0 : s = 0 := by rw [hs, hT0, Int.zero_emod, if_pos rfl]
    rw [lround_zero (s2.mp ho)]
    apply rreal_zero
    rw [hT0, hs0, Int.zero_ediv, ho]
    rfl
  · have hA : A ≠ 0 := fun q => ho (s2.mpr q)
    obtain ⟨pX, eX⟩ := absI_pos ho
    have nX := nd_ten pX
    have eN : (absI o).natAbs = o.natAbs := by lia
    rw [eN] at nX
    obtain ⟨x1, x2, x3⟩ := nX
    obtain ⟨y1, y2, y3⟩ := nd_ten u0
    have r0 : 0 ≤ T % u := Int.emod_nonneg _ (Int.ne_of_gt u0)
    have r1 : T % u < u := Int.emod_lt_of_pos _ u0
    have rT : T = (T / u) * u + T % u := by rw [Int.mul_comm]; exact (Int.mul_ediv_add_emod T u).symm
    have s01 : 0 ≤ s ∧ s ≤ 1 := by rw [hs]; split <;> lia
    obtain ⟨s4, s5⟩ := s01
    -- the quotient is large
    have kbig : tenp (d + 1) ≤ T / u := by
      rw [Int.le_ediv_iff_mul_le u0]
      have z1 : tenp (d + 1) * u ≤ tenp (d + 1) * tenp (nd u.natAbs : Int) := Int.mul_le_mul_of_nonneg_left (Int.le_of_lt y2) (Int.le_of_lt (tenp_pos _))
      have z2 : tenp ((nd o.natAbs : Int) - 1) * tenp S ≤ absI o * tenp S := Int.mul_le_mul_of_nonneg_right x1 (Int.le_of_lt (tenp_pos _))
      rw [← tenp_add (by lia) (by lia)] at z1
      rw [← tenp_add (by lia) S0] at z2
      have z3 := ten_mono (p := d + 1 + (nd u.natAbs : Int)) (q := (nd o.natAbs : Int) - 1 + S) (by lia) (by lia)
      lia
    have kpos := tenp_pos (d + 1)
    have eM := rT
    obtain ⟨K, hK⟩ : ∃ K, K = T / u := ⟨_, rfl⟩
    obtain ⟨R, hR⟩ : ∃ R, R = T % u := ⟨_, rfl⟩
    rw [← hR] at hs r0 r1 rT
    rw [← hK] at kbig rT ⊢
    have Kp : 0 < K := by lia
    have m0 : sgnI (if o < 0 then -1 else 1) (10 * K + s) ≠ 0 := by unfold sgnI; split <;> lia
    have mN : (sgnI (if o < 0 then -1 else 1) (10 * K + s)).natAbs = (10 * K + s).natAbs := by unfold sgnI; split <;> lia
    have mA : absI (sgnI (if o < 0 then -1 else 1) (10 * K + s)) = 10 * K + s := by unfold absI sgnI; (repeat' split) <;> lia
    have mS : 0 < sgnI (if o < 0 then -1 else 1) (10 * K + s) ↔ 0 < A := by
      rw [← s1]
      unfold sgnI
      by_cases c : o < 0
      · rw [if_pos c, if_neg (by decide)]; lia
      · rw [if_neg c, if_pos (by decide)]; lia
    have ndM : nd (10 * K + s).natAbs = nd K.natAbs + 1 := by
      rw [nd_pos (n := (10 * K + s).natAbs) (by lia)]
      congr 2
      lia
    obtain ⟨k1, k2, k3⟩ := nd_ten Kp
    obtain ⟨n, hn⟩ : ∃ n : Int, n = (nd K.natAbs : Int) := ⟨_, rfl⟩
    rw [← hn] at k1 k2
    have n1 : 1 ≤ n := by lia
    have nbig : d + 2 ≤ n := by
      rcases (by lia : n < d + 2 ∨ d + 2 ≤ n) with q | q
      · have := ten_mono (p := n) (q := d + 1) (by lia) (by lia)
        lia
      · exact q
    have t1 : tenp 1 = 10 := by rw [tenp_eq]; rfl
    have hl : ld A B = (e - S - 1) + (n + 1) - 1 := by
      refine IsLead.uniq B0 (ld_lead hA B0) (IsLead.of (c1 := c + S + 1) (c2 := c + S + 1) (by lia) (by lia) ?_ (by lia) (by lia) ?_)
      · have e1 : e - S - 1 + (n + 1) - 1 + (c + S + 1) = ((n - 1) + 1) + (e + c) := by lia
        have e2 : c + S + 1 = (c + S) + 1 := by lia
        rw [e1, e2, tenp_add (a := n - 1 + 1) (by lia) ec, tenp_add (a := n - 1) (b := 1) (by lia) (by decide), tenp_add (a := c + S) (b := 1) (by lia) (by decide), tenp_add c0 S0, t1]
        refine Int.le_of_mul_le_mul_right (a := u) ?_ u0
        have z1 : tenp (n - 1) * u ≤ T := by
          have := Int.mul_le_mul_of_nonneg_right k1 (Int.le_of_lt u0)
          lia
        have z2 := Int.mul_le_mul_of_nonneg_right z1 (Int.le_of_lt (Int.mul_pos te B0))
        have z3 : absI A * (tenp c * tenp S * 10) * u = 10 * (T * (tenp (e + c) * B)) := by rw [hT]; grind
        rw [z3]
        grind
      · have e1 : e - S - 1 + (n + 1) - 1 + 1 + (c + S + 1) = (n + 1) + (e + c) := by lia
        have e2 : c + S + 1 = (c + S) + 1 := by lia
        rw [e1, e2, tenp_add (a := n + 1) (by lia) ec, tenp_add (a := n) (b := 1) (by lia) (by decide), tenp_add (a := c + S) (b := 1) (by lia) (by decide), tenp_add c0 S0, t1]
        refine Int.lt_of_mul_lt_mul_right (a := u) ?_ (Int.le_of_lt u0)
        have z1 : T < tenp n * u := by
          have := Int.mul_le_mul_of_nonneg_right (show K + 1 ≤ tenp n by lia) (Int.le_of_lt u0)
          have w : (K + 1) * u = K * u + u := by grind
          lia
        have z2 := Int.mul_lt_mul_of_pos_right z1 (Int.mul_pos te B0)
        have z3 : absI A * (tenp c * tenp S * 10) * u = 10 * (T * (tenp (e + c) * B)) := by rw [hT]; grind
        rw [z3]
        grind
    have hKK := (lK_in (d := d) hA B0 hd).1
    have hK0 := tenp_pos (d - 1)
    obtain ⟨m1, m2, m3⟩ := mx_in (d - 1 - ld A B)
    obtain ⟨m4, m5, _⟩ := mx_in (-(d - 1 - ld A B))
    refine rr_lr m0 hA mS ht (n := n + 1) (by rw [mN, ndM]; lia) hl (fun hlt => ?_) (fun hle => by lia) (by lia)
    rw [mA]
    have hP : tenp (n + 1 - d) = 20 * (5 * tenp (n + 1 - d - 2)) := by
      have e1 : n + 1 - d = (n + 1 - d - 2) + 2 := by lia
      have t2 : tenp 2 = 100 := by rw [tenp_eq]; rfl
      rw [e1, tenp_add (by lia) (by decide), t2]
      have e3 : n + 1 - d - 2 + 2 - 2 = n + 1 - d - 2 := by lia
      rw [e3]
      lia
    rw [sticky (h := 5 * tenp (n + 1 - d - 2)) u0 rT r0 r1 hs (by have := tenp_pos (n + 1 - d - 2); lia) hP]
    refine rhe_congr (Int.mul_pos u0 (tenp_pos _)) (lB_pos B0) ?_
    unfold lA lB
    apply ten_cancel (e + c)
    have q1 : tenp c * tenp S * 10 * tenp (mx (-(d - 1 - ld A B))) = tenp (mx (d - 1 - ld A B)) * tenp (n + 1 - d) * tenp (e + c) := by
      rw [← t1, ← tenp_add c0 S0, ← tenp_add (by lia) (by decide), ← tenp_add (by lia) m4, ← tenp_add m1 (by lia), ← tenp_add (by lia) ec]
      congr 1
      lia
    rw [hT]
    grind
abbrev C2 := (Int × Int) × (Int × Int)
abbrev dC (p : C2) : Dat := cx p.1.1 p.1.2 p.2.1 p.2.2
def rparts (a e b f d top : Int) : Option C2 := match rreal a e d top, rreal b f d top with
  | some p, some q => some (p, q)
  | _, _ => none
theorem rp_ok {a e b f d top : Int} {p q : Int × Int} (h1 : rreal a e d top = some p) (h2 : rreal b f d top = some q) : (rparts a e b f d top).map dC = some (.tuple [dP p, dP q]) := by
  unfold rparts; rw [h1, h2]; rfl
theorem rp_n1 {a e b f d top : Int} (h1 : rreal a e d top = none) : (rparts a e b f d top).map dC = none := by
  unfold rparts; rw [h1]; rfl
theorem rp_n2 {a e b f d top : Int} (h1 : rreal b f d top = none) : (rparts a e b f d top).map dC = none := by
  unfold rparts; rw [h1]; cases rreal a e d top <;> rfl
set_option maxHeartbeats 8000000 in
theorem round_parts_c (w : World) (a1 : Addr) (a e b f d0 top : Int) (t0 t1 : Tok) : Fn w 113 [.ref a1, .int d0 t0, .int top t1] 6 (fun n => Br w n (.ref a1) (cx a e b f) ∧ nd a.natAbs ≤ 2700 ∧ nd b.natAbs ≤ 2700 ∧ 0 ≤ d0) ((rparts a e b f d0 top).map dC) := by
  unfold Fn
  intro p loose mean mg mb dp un gd cn cs a' ccd cl outer A₀ base h₀ L m news s Q E B F X N T hk hpre hroom hun hret hexc
  refine wpAny_call ?_
  k_dflt ktr_enter
  (obtain ⟨hb1, hx1, hx2, hx3⟩ := hpre)
  k_steps
  all_goals (first
    | (tm_at "backE"; first | exact rp_n1 (by assumption) | exact rp_n2 (by assumption))
    | (tm_at "backO"; exact rp_ok (by assumption) (by assumption)))
theorem lay_10 : True := by
  (k_with "my call ref" => k_here; (with_reducible show wpAny _ _ (call (Value.ref 113) _) _ _ _); k_dflt (refine fn_useE (round_parts_c _ _ _ _ _ _ _ _ _ _) (by k_asm) (by k_asm) (by k_asm) (by k_asm) (by k_asm) (by first | exact rfl | assumption) (by tm_at "pre") (by ktr_room) (by ktr_units) ?_ ?_; tm_at "gotE"))
  trivial
structure Sm (m e : Int) : Prop where
  bd : Bd m 8
  lo : -60 ≤ e
  hi : e ≤ 60
theorem Sm.neg {m e : Int} (h : Sm m e) : Sm (-m) e := ⟨h.bd.neg, h.lo, h.hi⟩
theorem Sm.big {m e : Int} (h : Sm m e) : Bd m 10000 ∧ -10000 ≤ e ∧ e ≤ 10000 := ⟨h.bd.mono (by decide), by have := h.lo; lia, by have := h.hi; lia⟩
theorem Sm.sb {m e : Int} (h : Sm m e) : SB m e 60 (10 ^ 128) := by
  have h1 := h.lo
  have h2 := h.hi
  exact (SB.of h.bd 60 (by lia)).mono (Nat.pow_le_pow_right (by decide) (by lia))
theorem sm_add {a e c g : Int} (h1 : Sm a e) (h2 : Sm c g) : nd (eAdd a e c g).1.natAbs ≤ 2700 :=
  nd_bd (((h1.sb.add h2.sb).bdd (k := 129) (by decide +kernel)).mono (by decide))
theorem sm_pr0 {a e b f c g d h : Int} (h1 : Sm a e) (h2 : Sm b f) (h3 : Sm c g) (h4 : Sm d h) : Bd (eP0 a e b f c g d h).1 257 :=
  ((h1.sb.mul h3.sb).add (h2.sb.mul h4.sb).neg).bdd (by decide +kernel)
theorem sm_pr1 {a e b f c g d h : Int} (h1 : Sm a e) (h2 : Sm b f) (h3 : Sm c g) (h4 : Sm d h) : Bd (eP1 a e b f c g d h).1 257 :=
  ((h1.sb.mul h4.sb).add (h2.sb.mul h3.sb)).bdd (by decide +kernel)
def cadd (a e b f c g d h d0 top : Int) : Option C2 := rparts (eAdd a e c g).1 (eAdd a e c g).2 (eAdd b f d h).1 (eAdd b f d h).2 d0 top
def cmul (a e b f c g d h d0 top : Int) : Option C2 := rparts (eP0 a e b f c g d h).1 (eP0 a e b f c g d h).2 (eP1 a e b f c g d h).1 (eP1 a e b f c g d h).2 d0 top
theorem o_some {o : Option C2} {p : C2} (h : o = some p) : o.map dC = some (dC p) := by rw [h]; rfl
theorem o_none {o : Option C2} (h : o = none) : o.map dC = none := by rw [h]; rfl
set_option maxHeartbeats 8000000 in
theorem complex_add_c (w : World) (a1 a2 : Addr) (a e b f c g d h d0 top : Int) (t0 t1 : Tok) : Fn w 120 [.ref a1, .ref a2, .int d0 t0, .int top t1] 7
    (fun n => (Br w n (.ref a1) (cx a e b f) ∧ Br w n (.ref a2) (cx c g d h)) ∧ (Sm a e ∧ Sm b f ∧ Sm c g ∧ Sm d h) ∧ 0 ≤ d0) ((cadd a e b f c g d h d0 top).map dC) := by
  unfold Fn
  intro p loose mean mg mb dp un gd cn cs a' ccd cl outer A₀ base h₀ L m news s Q E B F X N T hk hpre hroom hun hret hexc
  refine wpAny_call ?_
  k_dflt ktr_enter
  (obtain ⟨⟨hb1, hb2⟩, ⟨hs1, hs2, hs3, hs4⟩, hx3⟩ := hpre)
  (have q1 := sm_add hs1 hs3; have q2 := sm_add hs2 hs4)
  (obtain ⟨u1, u2, u3⟩ := hs1.big; obtain ⟨v1, v2, v3⟩ := hs2.big; obtain ⟨w1, w2, w3⟩ := hs3.big; obtain ⟨x1, x2, x3⟩ := hs4.big)
  k_steps
  all_goals (first
    | (tm_at "backE"; exact o_none (by assumption))
    | (tm_at "backO"; exact o_some (by assumption)))
set_option maxHeartbeats 8000000 in
theorem complex_neg_c (w : World) (a1 : Addr) (a e b f : Int) : Fn w 127 [.ref a1] 2 (fun n => Br w n (.ref a1) (cx a e b f)) (some (.tuple [dP (eNeg a e), dP (eNeg b f)])) := by
  unfold Fn
  intro p loose mean mg mb dp un gd cn cs a' ccd cl outer A₀ base h₀ L m news s Q E B F X N T hk hb1 hroom hun hret hexc
  refine wpAny_call ?_
  k_dflt ktr_enter
  k_steps
  tm_at "back"
  rfl
set_option maxHeartbeats 8000000 in
theorem complex_mul_c (w : World) (a1 a2 : Addr) (a e b f c g d h d0 top : Int) (t0 t1 : Tok) : Fn w 148 [.ref a1, .ref a2, .int d0 t0, .int top t1] 7
    (fun n => (Br w n (.ref a1) (cx a e b f) ∧ Br w n (.ref a2) (cx c g d h)) ∧ (Sm a e ∧ Sm b f ∧ Sm c g ∧ Sm d h) ∧ 0 ≤ d0) ((cmul a e b f c g d h d0 top).map dC) := by
  unfold Fn
  intro p loose mean mg mb dp un gd cn cs a' ccd cl outer A₀ base h₀ L m news s Q E B F X N T hk hpre hroom hun hret hexc
  refine wpAny_call ?_
  k_dflt ktr_enter
  (obtain ⟨⟨hb1, hb2⟩, ⟨hs1, hs2, hs3, hs4⟩, hx3⟩ := hpre)
  (have q1 := nd_bd ((sm_pr0 hs1 hs2 hs3 hs4).mono (by decide : 257 ≤ 2700)); have q2 := nd_bd ((sm_pr1 hs1 hs2 hs3 hs4).mono (by decide : 257 ≤ 2700)))
  (obtain ⟨u1, u2, u3⟩ := hs1.big; obtain ⟨v1, v2, v3⟩ := hs2.big; obtain ⟨w1, w2, w3⟩ := hs3.big; obtain ⟨x1, x2, x3⟩ := hs4.big)
  k_steps
  all_goals (first
    | (tm_at "backE"; exact o_none (by assumption))
    | (tm_at "backO"; exact o_some (by assumption)))
theorem lay_11 : True := by
  (k_with "my call ref" => k_here; (with_reducible show wpAny _ _ (call (Value.ref 120) _) _ _ _); k_dflt (refine fn_useE (complex_add_c _ _ _ _ _ _ _ _ _ _ _ _ _ _ _) (by k_asm) (by k_asm) (by k_asm) (by k_asm) (by k_asm) (by first | exact rfl | assumption) (by tm_at "pre") (by ktr_room) (by ktr_units) ?_ ?_; tm_at "gotE"))
  (k_with "my call ref" => k_here; (with_reducible show wpAny _ _ (call (Value.ref 127) _) _ _ _); k_dflt (refine fn_use (complex_neg_c _ _ _ _ _ _) (by k_asm) (by k_asm) (by k_asm) (by k_asm) (by k_asm) (by first | exact rfl | assumption) (by tm_at "pre") (by ktr_room) (by ktr_units) ?_; tm_at "got"))
  (k_with "my call ref" => k_here; (with_reducible show wpAny _ _ (call (Value.ref 148) _) _ _ _); k_dflt (refine fn_useE (complex_mul_c _ _ _ _ _ _ _ _ _ _ _ _ _ _ _) (by k_asm) (by k_asm) (by k_asm) (by k_asm) (by k_asm) (by first | exact rfl | assumption) (by tm_at "pre") (by ktr_room) (by ktr_units) ?_ ?_; tm_at "gotE"))
  trivial
def csub (a e b f c g d h d0 top : Int) : Option C2 := cadd a e b f (-c) g (-d) h d0 top
set_option maxHeartbeats 8000000 in
theorem complex_sub_c (w : World) (a1 a2 : Addr) (a e b f c g d h d0 top : Int) (t0 t1 : Tok) : Fn w 134 [.ref a1, .ref a2, .int d0 t0, .int top t1] 8
    (fun n => (Br w n (.ref a1) (cx a e b f) ∧ Br w n (.ref a2) (cx c g d h)) ∧ (Sm a e ∧ Sm b f ∧ Sm c g ∧ Sm d h) ∧ 0 ≤ d0) ((csub a e b f c g d h d0 top).map dC) := by
  unfold Fn
  intro p loose mean mg mb dp un gd cn cs a' ccd cl outer A₀ base h₀ L m news s Q E B F X N T hk hpre hroom hun hret hexc
  refine wpAny_call ?_
  k_dflt ktr_enter
  (obtain ⟨⟨hb1, hb2⟩, ⟨hs1, hs2, hs3, hs4⟩, hx3⟩ := hpre)
  (have hs5 := hs3.neg; have hs6 := hs4.neg)
  k_steps
  all_goals (first
    | (tm_at "backE"; exact o_none (by assumption))
    | (tm_at "backO"; exact o_some (by assumption)))
def dS (c g d h : Int) : Int × Int := eAdd (eMul c g c g).1 (eMul c g c g).2 (eMul d h d h).1 (eMul d h d h).2
def cdiv (a e b f c g d h d0 top : Int) : Option C2 := if (dS c g d h).1 = 0 then none else
  rparts (quo (eP0 a e b f c g (-d) h).1 (dS c g d h).1 ((eP0 a e b f c g (-d) h).2 - (dS c g d h).2) d0).1 (quo (eP0 a e b f c g (-d) h).1 (dS c g d h).1 ((eP0 a e b f c g (-d) h).2 - (dS c g d h).2) d0).2
    (quo (eP1 a e b f c g (-d) h).1 (dS c g d h).1 ((eP1 a e b f c g (-d) h).2 - (dS c g d h).2) d0).1 (quo (eP1 a e b f c g (-d) h).1 (dS c g d h).1 ((eP1 a e b f c g (-d) h).2 - (dS c g d h).2) d0).2 d0 top
theorem dS_nonneg (c g d h : Int) : 0 ≤ (dS c g d h).1 := by
  unfold dS eAdd eMul
  have sq : ∀ x : Int, 0 ≤ x * x := fun x => by
    rcases Int.le_total 0 x with q | q
    · exact Int.mul_nonneg q q
    · exact Int.mul_nonneg_of_nonpos_of_nonpos q q
  exact Int.add_nonneg (Int.mul_nonneg (sq _) (Int.le_of_lt (tenp_pos _))) (Int.mul_nonneg (sq _) (Int.le_of_lt (tenp_pos _)))
theorem cd_zero {a e b f c g d h d0 top : Int} (hz : (dS c g d h).1 = 0) : (cdiv a e b f c g d h d0 top).map dC = none := by unfold cdiv; rw [if_pos hz]; rfl
theorem cd_none {a e b f c g d h d0 top : Int} (hz : (dS c g d h).1 ≠ 0) (ho : rparts (quo (eP0 a e b f c g (-d) h).1 (dS c g d h).1 ((eP0 a e b f c g (-d) h).2 - (dS c g d h).2) d0).1 (quo (eP0 a e b f c g (-d) h).1 (dS c g d h).1 ((eP0 a e b f c g (-d) h).2 - (dS c g d h).2) d0).2
    (quo (eP1 a e b f c g (-d) h).1 (dS c g d h).1 ((eP1 a e b f c g (-d) h).2 - (dS c g d h).2) d0).1 (quo (eP1 a e b f c g (-d) h).1 (dS c g d h).1 ((eP1 a e b f c g (-d) h).2 - (dS c g d h).2) d0).2 d0 top = none) : (cdiv a e b f c g d h d0 top).map dC = none := by
  unfold cdiv; rw [if_neg hz, ho]; rfl
theorem cd_some {a e b f c g d h d0 top : Int} {p : C2} (hz : (dS c g d h).1 ≠ 0) (ho : rparts (quo (eP0 a e b f c g (-d) h).1 (dS c g d h).1 ((eP0 a e b f c g (-d) h).2 - (dS c g d h).2) d0).1 (quo (eP0 a e b f c g (-d) h).1 (dS c g d h).1 ((eP0 a e b f c g (-d) h).2 - (dS c g d h).2) d0).2
    (quo (eP1 a e b f c g (-d) h).1 (dS c g d h).1 ((eP1 a e b f c g (-d) h).2 - (dS c g d h).2) d0).1 (quo (eP1 a e b f c g (-d) h).1 (dS c g d h).1 ((eP1 a e b f c g (-d) h).2 - (dS c g d h).2) d0).2 d0 top = some p) : (cdiv a e b f c g d h d0 top).map dC = some (dC p) := by
  unfold cdiv; rw [if_neg hz, ho]; rfl
structure DivOk (a e b f c g d h : Int) : Prop where
  x1 : Bd a 10000
  x2 : Bd b 10000
  x3 : Bd c 10000
  x4 : Bd d 10000
  e1 : -10000 ≤ e ∧ e ≤ 10000
  e2 : -10000 ≤ f ∧ f ≤ 10000
  e3 : -10000 ≤ g ∧ g ≤ 10000
  e4 : -10000 ≤ h ∧ h ≤ 10000
  sz : nd (dS c g d h).1.natAbs ≤ 2700
  w0 : nd (eP0 a e b f c g (-d) h).1.natAbs ≤ 2600
  w1 : nd (eP1 a e b f c g (-d) h).1.natAbs ≤ 2600
theorem pos_of {u : Int} (h0 : 0 ≤ u) (h : u ≠ 0) : 0 < u := by lia
theorem nd_quo' {o u e d : Int} (h0 : 0 ≤ u) (hu : u ≠ 0) (hd : 0 ≤ d) (hd1 : d ≤ 100) (ho : nd o.natAbs ≤ 2600) : nd (quo o u e d).1.natAbs ≤ 2700 := nd_quo (pos_of h0 hu) hd (by lia) (by lia)
theorem nd_wide {o : Nat} (h : o ≤ 2600) : o ≤ 50000 := by lia
theorem lay_12 : True := by
  (k_with "tm om" => first | exact pos_of (by assumption) (by assumption) | exact nd_quo' (by assumption) (by assumption) (by assumption) (by assumption) (by assumption) | exact nd_wide (by assumption))
  trivial

set_option maxHeartbeats 8000000 in
theorem complex_div_c (w : World) (a1 a2 : Addr) (a e b f c g d h d0 top : Int) (t0 t1 : Tok) : Fn w 155 [.ref a1, .ref a2, .int d0 t0, .int top t1] 8
    (fun n => (Br w n (.ref a1) (cx a e b f) ∧ Br w n (.ref a2) (cx c g d h)) ∧ DivOk a e b f c g d h ∧ 0 ≤ d0 ∧ d0 ≤ 100) ((cdiv a e b f c g d h d0 top).map dC) := by
  unfold Fn
  intro p loose mean mg mb dp un gd cn cs a' ccd cl outer A₀ base h₀ L m news s Q E B F X N T hk hpre hroom hun hret hexc
  refine wpAny_call ?_
  k_dflt ktr_enter
  (obtain ⟨⟨hb1, hb2⟩, ⟨x1, x2, x3, x4, ⟨e1, e2⟩, ⟨f1, f2⟩, ⟨g1, g2⟩, ⟨h1, h2⟩, sz, w0, w1⟩, hd1, hd2⟩ := hpre)
  (have y1 := x3.mul x3; have y2 := x4.mul x4; have y3 := x4.neg)
  (have hnn := dS_nonneg c g d h)
  k_steps
  all_goals (first
    | (tm_at "backE"; first | exact cd_zero (by assumption) | exact cd_none (by assumption) (by assumption))
    | (tm_at "backO"; exact cd_some (by assumption) (by assumption)))
theorem lay_13 : True := by
  (k_with "my call ref" => k_here; (with_reducible show wpAny _ _ (call (Value.ref 134) _) _ _ _); k_dflt (refine fn_useE (complex_sub_c _ _ _ _ _ _ _ _ _ _ _ _ _ _ _) (by k_asm) (by k_asm) (by k_asm) (by k_asm) (by k_asm) (by first | exact rfl | assumption) (by tm_at "pre") (by ktr_room) (by ktr_units) ?_ ?_; tm_at "gotE"))
  (k_with "my call ref" => k_here; (with_reducible show wpAny _ _ (call (Value.ref 155) _) _ _ _); k_dflt (refine fn_useE (complex_div_c _ _ _ _ _ _ _ _ _ _ _ _ _ _ _) (by k_asm) (by k_asm) (by k_asm) (by k_asm) (by k_asm) (by first | exact rfl | assumption) (by tm_at "pre") (by ktr_room) (by ktr_units) ?_ ?_; tm_at "gotE"))
  trivial
/-! a loop over a range that turns one name, which bears data -/
def BrEnd (w : World) (h₀ : Heap) (L : Addr) (own : Led) (x y : Str) (m₀ : Str → Option Value) (d : Dat) (s₁ s₂ : Shared) : Prop :=
  ∃ h' tk m' n' v', s₂ = { s₁ with heap := h', toks := tk } ∧ Fr h₀ L h' m' ∧ News h₀ L h' n' ∧ (∀ p ∈ own, p ∈ n') ∧ m' y = some v' ∧ Br w n' v' d ∧ ∀ z, z ≠ x → z ≠ y → m' z = m₀ z
def BrPost (w : World) (h₀ : Heap) (L : Addr) (own : Led) (x y : Str) (m₀ : Str → Option Value) (d : Dat) (s₁ : Shared) (Q : Flow → Shared → Prop) (f : Flow) (s₂ : Shared) : Prop :=
  match f with
  | .ret v => Q (.ret v) s₂
  | .brk => Q .next s₂
  | _ => BrEnd w h₀ L own x y m₀ d s₁ s₂
theorem BrEnd.intro {w : World} {h₀ : Heap} {L : Addr} {own n' : Led} {x y : Str} {m₀ m' : Str → Option Value} {d : Dat} {s₁ : Shared} {h' : Heap} {tk : Nat} {v' : Value} (F : Fr h₀ L h' m') (N : News h₀ L h' n') (hs : ∀ p ∈ own, p ∈ n') (hy : m' y = some v')
    (hb : Br w n' v' d) (hz : ∀ z, z ≠ x → z ≠ y → m' z = m₀ z) : BrEnd w h₀ L own x y m₀ d s₁ { s₁ with heap := h', toks := tk } := ⟨h', tk, m', n', v', rfl, F, N, hs, hy, hb, hz⟩
theorem br_keepOff {w : World} {h₀ h : Heap} {L I : Addr} {n : Led} {oI : Obj} (N : News h₀ L h n) (hI : (I, oI) ∈ n) (c1 : oI.cls ≠ .type "tuple") (c2 : oI.cls ≠ .type "list") {v : Value} {d : Dat} (hb : Br w n v d) : Br w (n.filter fun p => p.1 != I) v d := by
  have key : ∀ a o, (a, o) ∈ n → o.cls ≠ oI.cls → (a, o) ∈ n.filter fun p => p.1 != I := fun a o hm hc => by
    refine List.mem_filter.mpr ⟨hm, ?_⟩
    simp only [bne_iff_ne, ne_eq]
    rintro rfl
    have := N.get hm
    rw [N.get hI] at this
    cases this
    exact hc rfl
  exact Br.turn (fun a vs k hm => key _ _ hm (fun q => c1 q.symm)) (fun a vs k hm => key _ _ hm (fun q => c2 q.symm)) hb
section
variable {w : World} {A : Around} {E : Value → Shared → Prop} {s : Shared} {env : Env} {h₀ : Heap} {x : Str} {body : List Stmt} {Q : Flow → Shared → Prop}
theorem br_range {r : Addr} {b₀ : Int} {t₀ u₀ v₀ : Tok} {m₀ : Str → Option Value} {news : Led} (y : Str) (g : Nat → Dat) (v : Value)
    (hh : A.handled = none) (hr : IsRange s.heap r 0 b₀ 1 t₀ u₀ v₀) (h0 : 0 ≤ b₀) (hb1 : b₀ < 2 ^ 40) (F : Fr h₀ env.locals s.heap m₀) (N : News h₀ env.locals s.heap news) (hxy : x ≠ y) (hy : m₀ y = some v) (hg : Br w news v (g 0))
    (turn : ∀ (i : Nat) t v nx u h tk, (i : Int) < b₀ → (∀ p ∈ news, p ∈ nx) → Br w nx v (g i) → Fr h₀ env.locals h (fun z => if z = x then some (.int i t) else if z = y then some v else m₀ z) → News h₀ env.locals h nx → u = tk →
      wpAny (model prg w) A (execs body env) (BrPost w h₀ env.locals nx x y m₀ (g (i + 1)) { s with heap := h, toks := tk } Q) E { s with heap := h, toks := u })
    (done : ∀ v nx u h tk, (∀ p ∈ news, p ∈ nx) → Br w nx v (g b₀.toNat) → Fr h₀ env.locals h (fun z => if z = x then u else if z = y then some v else m₀ z) → News h₀ env.locals h nx → Q .next { s with heap := h, toks := tk }) :
    wpAny (model prg w) A (pyIter (.ref r)) (fun it s₂ => LoopAtV prg w A h₀ env x body Q E it s₂) E s := by
  have hsz : Builtin.Range.rangeSize 0 b₀ 1 = (b₀.toNat : Int) := by rw [rangeSize_nat, Int.sub_zero]
  refine wpAny_pyIter_range hr (small_one (by omega) (by omega) (by omega) (by omega)) ?_
  have W : Walks prg w A s.heap.objs.size [s.heap.objs.size] [s.heap.objs.size] b₀.toNat (fun i v => i < b₀.toNat ∧ ∃ t, v = .int (0 + i * 1) t)
      (fun i h => IsRangeIter h s.heap.objs.size (0 + (i : Nat) * 1) ((b₀.toNat : Int) - (i : Nat)) 1) := (Walks.range hh _ 0 1 b₀.toNat).bound
  refine ⟨s.heap.objs.size, _, _, b₀.toNat, _, _, m₀, news, fun i m nx => (∀ p ∈ news, p ∈ nx) ∧ ∃ v, m y = some v ∧ Br w nx v (g i) ∧ ∀ z, z ≠ x → z ≠ y → m z = m₀ z, rfl, W, ?_, ?_, ?_, ?_, F.push _, (fun p hp => ⟨Heap.get?_push_of_some _ (N p hp).1, (N p hp).2⟩), ⟨fun p hp => hp, v, hy, hg, fun _ _ _ => rfl⟩, ?_, ?_⟩
  · intro hm
    exact absurd F.ns.lt ((List.mem_singleton.mp hm) ▸ Nat.lt_irrefl _)
  · intro b hb
    rw [List.mem_singleton.mp hb]
    exact next_is_new F
  · intro p hp hI
    exact absurd (Heap.lt_size (N p hp).1) ((List.mem_singleton.mp hI) ▸ Nat.lt_irrefl _)
  · show IsRangeIter _ _ _ _ _
    rw [hsz]
    simpa using Heap.get?_push_size _ rfl
  · rintro i v' m₁ news₁ s₁ own ⟨hh', tk', rfl⟩ hin ⟨_, t, rfl⟩ ⟨hsub, vy, hvy, hbr, hz⟩ hnw hown _ hmem hst' F₁ N₁
    have N₂ : News h₀ env.locals hh' (news₁ ++ own) := fun p hp => N₁ p ((List.mem_append.mp hp).elim (fun h => List.mem_append.mpr (.inr h)) fun h => List.mem_append.mpr (.inl h))
    have hI := hmem _ (List.mem_singleton.mpr rfl) (next_is_new F) _ hst'
    have e1 : (0 : Int) + (i : Int) * 1 = (i : Int) := by omega
    rw [e1] at F₁
    have F₂ : Fr h₀ env.locals hh' (fun z => if z = x then some (.int i t) else if z = y then some vy else m₀ z) := by
      have : (fun z => if z = x then some (.int i t) else if z = y then some vy else m₀ z) = (fun z => if z = x then some (.int i t) else m₁ z) := by
        funext z
        by_cases c1 : z = x
        · simp [c1]
        · by_cases c2 : z = y
          · simp [c1, c2, hvy]
          · simp [c1, c2, hz z c1 c2]
      rw [this]; exact F₁
    refine wpAny_mono (turn i t vy (news₁ ++ own) tk' hh' tk' (by omega) (fun p hp => List.mem_append.mpr (.inl (hsub p hp))) (Br.mono (fun p hp => List.mem_append.mpr (.inl hp)) hbr) F₂ N₂ rfl) (fun f s₂ p => ?_) fun _ _ e => e
    have fin : BrEnd w h₀ env.locals (news₁ ++ own) x y m₀ (g (i + 1)) { s with heap := hh', toks := tk' } s₂ → LoopStepU h₀ env.locals [s.heap.objs.size] own (fun m nx => (∀ p ∈ news, p ∈ nx) ∧ ∃ v, m y = some v ∧ Br w nx v (g (i + 1)) ∧ ∀ z, z ≠ x → z ≠ y → m z = m₀ z) { s with heap := hh', toks := tk' } .next s₂ := by
      rintro ⟨h', tk, m', n', v', e, F', N', hn, hy', hb', hz'⟩
      refine ⟨rfl, h', tk, m', n'.filter (fun p => p.1 != s.heap.objs.size), e, F', fun p hp => N' p ((List.mem_append.mp hp).elim (fun q => hn p (List.mem_append.mpr (.inr q))) fun q => (List.mem_filter.mp q).1), fun p hp hq => ?_, fun p hp => ?_, v', hy', ?_, hz'⟩
      · have := (List.mem_filter.mp hp).2
        simp only [bne_iff_ne, ne_eq] at this
        exact this (List.mem_singleton.mp hq)
      · refine List.mem_filter.mpr ⟨hn p (List.mem_append.mpr (.inl (hsub p hp))), ?_⟩
        simp only [bne_iff_ne, ne_eq]
        exact fun z => hnw p (hsub p hp) (List.mem_singleton.mpr z)
      · exact br_keepOff N' (hn _ (List.mem_append.mpr (.inr hI))) (show Value.type "range_iterator" ≠ Value.type "tuple" by decide) (show Value.type "range_iterator" ≠ Value.type "list" by decide) hb'
    cases f with
    | ret v => exact .ret p
    | brk => exact .brk p
    | next => exact .next (fin p)
    | cont => exact .cont (fin p)
  · rintro h' tk m' news' F' N' _ ⟨hsub, vy, hvy, hbr, hz⟩
    refine done vy news' (m' x) h' tk hsub hbr ?_ N'
    have : (fun z => if z = x then m' x else if z = y then some vy else m₀ z) = m' := by
      funext z
      by_cases c1 : z = x
      · simp [c1]
      · by_cases c2 : z = y
        · subst c2; simp [c1, hvy]
        · simp [c1, c2, hz z c1 c2]
    rw [this]; exact F'
end
def cpow (a e b f : Int) : Nat → C2
  | 0 => ((1, 0), (0, 0))
  | k + 1 => (eP0 (cpow a e b f k).1.1 (cpow a e b f k).1.2 (cpow a e b f k).2.1 (cpow a e b f k).2.2 a e b f, eP1 (cpow a e b f k).1.1 (cpow a e b f k).1.2 (cpow a e b f k).2.1 (cpow a e b f k).2.2 a e b f)
structure Sx (m e : Int) : Prop where
  sm : Sm m e
  sb : SB m e 44 (10 ^ 83)
  lo : -44 ≤ e
  hi : e ≤ 44
structure PwOk (p : C2) (k : Nat) : Prop where
  s0 : SB p.1.1 p.1.2 (44 * k) (2 ^ k * 10 ^ (83 * k))
  s1 : SB p.2.1 p.2.2 (44 * k) (2 ^ k * 10 ^ (83 * k))
  l0 : -(44 * (k : Int)) ≤ p.1.2
  h0 : p.1.2 ≤ 44 * (k : Int)
  l1 : -(44 * (k : Int)) ≤ p.2.2
  h1 : p.2.2 ≤ 44 * (k : Int)
theorem eLow_in {e1 e2 l h : Int} (h1 : l ≤ e1 ∧ e1 ≤ h) (h2 : l ≤ e2 ∧ e2 ≤ h) : l ≤ eLow e1 e2 ∧ eLow e1 e2 ≤ h := by unfold eLow; split <;> lia
theorem cpow_ok {a e b f : Int} (hx : Sx a e) (hy : Sx b f) : ∀ k : Nat, PwOk (cpow a e b f k) k
  | 0 => by
    refine ⟨⟨?_, ?_⟩, ⟨?_, ?_⟩, ?_, ?_, ?_, ?_⟩ <;> simp only [cpow] <;> first | decide | (rw [tenp_eq]; decide)
  | k + 1 => by
    have ih := cpow_ok hx hy k
    have c1 : (44 * (k + 1 : Nat) : Int) = 44 * (k : Int) + 44 := by lia
    have c2 : 2 ^ (k + 1) * 10 ^ (83 * (k + 1)) = 2 ^ k * 10 ^ (83 * k) * 10 ^ 83 + 2 ^ k * 10 ^ (83 * k) * 10 ^ 83 := by
      have : 10 ^ (83 * (k + 1)) = 10 ^ (83 * k) * 10 ^ 83 := by rw [← Nat.pow_add, Nat.mul_add, Nat.mul_one]
      rw [this, Nat.pow_succ]
      generalize 10 ^ (83 * k) = y
      generalize 10 ^ 83 = z
      generalize 2 ^ k = x
      rw [Nat.mul_assoc x 2, Nat.mul_assoc x y z, ← Nat.mul_add, Nat.two_mul]
    have r0 := hx.lo; have r1 := hx.hi; have r2 := hy.lo; have r3 := hy.hi
    have q0 := ih.l0; have q1 := ih.h0; have q2 := ih.l1; have q3 := ih.h1
    have E0 : -(44 * ((k + 1 : Nat) : Int)) ≤ (cpow a e b f (k + 1)).1.2 ∧ (cpow a e b f (k + 1)).1.2 ≤ 44 * ((k + 1 : Nat) : Int) := eLow_in ⟨by simp only [eMul]; lia, by simp only [eMul]; lia⟩ ⟨by simp only [eMul, eNeg]; lia, by simp only [eMul, eNeg]; lia⟩
    have E1 : -(44 * ((k + 1 : Nat) : Int)) ≤ (cpow a e b f (k + 1)).2.2 ∧ (cpow a e b f (k + 1)).2.2 ≤ 44 * ((k + 1 : Nat) : Int) := eLow_in ⟨by simp only [eMul]; lia, by simp only [eMul]; lia⟩ ⟨by simp only [eMul]; lia, by simp only [eMul]; lia⟩
    refine ⟨?_, ?_, E0.1, E0.2, E1.1, E1.2⟩
    · rw [c1, c2]; exact (ih.s0.mul hx.sb).add (ih.s1.mul hy.sb).neg
    · rw [c1, c2]; exact (ih.s0.mul hy.sb).add (ih.s1.mul hx.sb)
theorem pw_lt {k : Nat} (hk : k ≤ 16) : 2 ^ k * 10 ^ (83 * k) < 10 ^ 1333 := by
  have h1 : 2 ^ k ≤ 2 ^ 16 := Nat.pow_le_pow_right (by decide) hk
  have h2 : 10 ^ (83 * k) ≤ 10 ^ 1328 := Nat.pow_le_pow_right (by decide) (by lia)
  have h3 : 2 ^ 16 < 10 ^ 5 := by decide
  calc 2 ^ k * 10 ^ (83 * k) ≤ 2 ^ 16 * 10 ^ 1328 := Nat.mul_le_mul h1 h2
    _ < 10 ^ 5 * 10 ^ 1328 := Nat.mul_lt_mul_of_pos_right h3 (Nat.pow_pos (by decide))
    _ = 10 ^ 1333 := by rw [← Nat.pow_add]
structure PwB (p : C2) : Prop where
  b0 : Bd p.1.1 1333
  b1 : Bd p.2.1 1333
  l0 : -704 ≤ p.1.2
  h0 : p.1.2 ≤ 704
  l1 : -704 ≤ p.2.2
  h1 : p.2.2 ≤ 704
theorem cpow_b {a e b f : Int} (hx : Sx a e) (hy : Sx b f) {k : Nat} (hk : k ≤ 16) : PwB (cpow a e b f k) := by
  have h := cpow_ok hx hy k
  have q0 := h.l0; have q1 := h.h0; have q2 := h.l1; have q3 := h.h1
  exact ⟨h.s0.bdd (pw_lt hk), h.s1.bdd (pw_lt hk), by lia, by lia, by lia, by lia⟩
theorem Sx.big {m e : Int} (h : Sx m e) : Bd m 10000 ∧ -10000 ≤ e ∧ e ≤ 10000 := h.sm.big
abbrev gOf {a e b f : Int} (_ : ∀ k : Nat, k ≤ 16 → PwB (cpow a e b f k)) : Nat → Dat := fun k => dC (cpow a e b f k)
theorem lay_14 : True := by
  (k_with "my exec For Name Call cons nil" => k_here; (rename Fr _ _ _ _ => lF'); (with_unfolding_all refine For_invVF lF' (by exact rfl) (by exact rfl) ?_; k_whole))
  (k_with "my pyIter ref" => k_here; (rename IsRange _ _ _ _ _ _ _ _ => rgX); (rename ∀ k : Nat, k ≤ 16 → PwB (cpow _ _ _ _ k) => hall); k_dflt (refine br_range (Str.ofString "found") (gOf hall) _ (by exact rfl) (by first | exact rgX | assumption) (by omega) (by omega) (by k_asm) (by k_asm) (by decide) (by rfl) (by tm_at "br") ?_ ?_); all_goals (first | (intro i' t' v' nx' u' h' tk' hi' hs' hb' F' N' e'; subst e'; (have hall' := hall i' (by omega)); (obtain ⟨b0', b1', l0', h0', l1', h1'⟩ := hall'); (have b2' := Bd.mono b0' (by decide : 1333 ≤ 10000)); (have b3' := Bd.mono b1' (by decide : 1333 ≤ 10000)); tm_at "inv"; (try k_sweep); (try k_fold)) | (intro v' nx' u' h' tk' hs' hb' F' N'; tm_at "inv"; (try k_sweep); (try k_fold))))
  (k_with "my BrPost" => (dsimp only [BrPost]); refine BrEnd.intro (by assumption) (by assumption) (by tm_at "sub") (by exact rfl) (by tm_at "br") (by intro z' h1' h2'; first | rfl | (simp [h1', h2']; done)))
  trivial

set_option maxHeartbeats 8000000 in
theorem complex_raised_c (w : World) (a1 : Addr) (a e b f n d0 : Int) (t0 t1 : Tok) : Fn w 169 [.ref a1, .int n t0, .int d0 t1] 4
    (fun l => Br w l (.ref a1) (cx a e b f) ∧ (Sx a e ∧ Sx b f) ∧ 0 ≤ n ∧ n ≤ 16) (some (dC (cpow a e b f n.toNat))) := by
  unfold Fn
  intro p loose mean mg mb dp un gd cn cs a' ccd cl outer A₀ base h₀ L m news s Q E B F X N T hk hpre hroom hun hret hexc
  refine wpAny_call ?_
  k_dflt ktr_enter
  (obtain ⟨hb1, ⟨hs1, hs2⟩, hx1, hx2⟩ := hpre)
  (have hall : ∀ k : Nat, k ≤ 16 → PwB (cpow a e b f k) := fun k hk => cpow_b hs1 hs2 hk)
  (obtain ⟨u1, u2, u3⟩ := hs1.big; obtain ⟨v1, v2, v3⟩ := hs2.big)
  k_steps
  tm_at "back"
  rfl
theorem lay_15 : True := by
  (k_with "my call ref" => k_here; (with_reducible show wpAny _ _ (call (Value.ref 169) _) _ _ _); k_dflt (refine fn_use (complex_raised_c _ _ _ _ _ _ _ _ _ _) (by k_asm) (by k_asm) (by k_asm) (by k_asm) (by k_asm) (by first | exact rfl | assumption) (by tm_at "pre") (by ktr_room) (by ktr_units) ?_; tm_at "got"))
  trivial
def cpower (a e b f n d0 top : Int) : Option C2 :=
  if n < 0 then cdiv 1 0 0 0 (cpow a e b f (absI n).toNat).1.1 (cpow a e b f (absI n).toNat).1.2 (cpow a e b f (absI n).toNat).2.1 (cpow a e b f (absI n).toNat).2.2 d0 top
  else rparts (cpow a e b f (absI n).toNat).1.1 (cpow a e b f (absI n).toNat).1.2 (cpow a e b f (absI n).toNat).2.1 (cpow a e b f (absI n).toNat).2.2 d0 top
theorem cpw_neg {a e b f n d0 top : Int} (h : n < 0) : cpower a e b f n d0 top = cdiv 1 0 0 0 (cpow a e b f (absI n).toNat).1.1 (cpow a e b f (absI n).toNat).1.2 (cpow a e b f (absI n).toNat).2.1 (cpow a e b f (absI n).toNat).2.2 d0 top := by
  unfold cpower; rw [if_pos h]
theorem cpw_pos {a e b f n d0 top : Int} (h : ¬ n < 0) : cpower a e b f n d0 top = rparts (cpow a e b f (absI n).toNat).1.1 (cpow a e b f (absI n).toNat).1.2 (cpow a e b f (absI n).toNat).2.1 (cpow a e b f (absI n).toNat).2.2 d0 top := by
  unfold cpower; rw [if_neg h]
theorem o_of {o o' : Option C2} {r : Option Dat} (e : o = o') (h : o'.map dC = r) : o.map dC = r := by rw [e]; exact h
theorem cpow_div {a e b f : Int} (hx : Sx a e) (hy : Sx b f) {k : Nat} (hk : k ≤ 16) : DivOk 1 0 0 0 (cpow a e b f k).1.1 (cpow a e b f k).1.2 (cpow a e b f k).2.1 (cpow a e b f k).2.2 := by
  have h := cpow_ok hx hy k
  have hb := cpow_b hx hy hk
  have hN := pw_lt hk
  have q0 := hb.l0; have q1 := hb.h0; have q2 := hb.l1; have q3 := hb.h1
  have one : SB 1 0 0 1 := ⟨by decide, by rw [tenp_eq]; decide⟩
  have nul : SB 0 0 0 0 := ⟨by decide, by rw [Int.zero_mul]; decide⟩
  refine ⟨⟨?_⟩, ⟨?_⟩, hb.b0.mono (by decide), hb.b1.mono (by decide), by decide, by decide, by lia, by lia, ?_, ?_, ?_⟩
  · exact Nat.lt_of_lt_of_le (by decide : (1 : Int).natAbs < 10 ^ 1) (Nat.pow_le_pow_right (by decide) (by decide))
  · exact Nat.pow_pos (by decide)
  · have hs := (h.s0.mul h.s0).add (h.s1.mul h.s1)
    refine nd_bd ((hs.bdd (k := 2667) ?_).mono (by decide))
    generalize 2 ^ k * 10 ^ (83 * k) = z at hN
    have h2 : z * z < 10 ^ 1333 * 10 ^ 1333 := Nat.mul_lt_mul'' hN hN
    have h3 : 10 ^ 2667 = 10 * (10 ^ 1333 * 10 ^ 1333) := by rw [← Nat.pow_add, Nat.mul_comm, ← Nat.pow_succ]
    lia
  · have hs := (one.mul h.s0).add (nul.mul h.s1.neg).neg
    refine nd_bd ((hs.bdd (k := 1333) ?_).mono (by decide))
    rw [Nat.one_mul, Nat.zero_mul, Nat.add_zero]
    exact hN
  · have hs := (one.mul h.s1.neg).add (nul.mul h.s0)
    refine nd_bd ((hs.bdd (k := 1333) ?_).mono (by decide))
    rw [Nat.one_mul, Nat.zero_mul, Nat.add_zero]
    exact hN
set_option maxHeartbeats 8000000 in
theorem complex_power_c (w : World) (a1 : Addr) (a e b f n d0 top : Int) (t0 t1 t2 : Tok) : Fn w 176 [.ref a1, .int n t0, .int d0 t1, .int top t2] 10
    (fun l => Br w l (.ref a1) (cx a e b f) ∧ (Sx a e ∧ Sx b f) ∧ (-16 ≤ n ∧ n ≤ 16) ∧ 0 ≤ d0 ∧ d0 ≤ 100) ((cpower a e b f n d0 top).map dC) := by
  unfold Fn
  intro p loose mean mg mb dp un gd cn cs a' ccd cl outer A₀ base h₀ L m news s Q E B F X N T hk hpre hroom hun hret hexc
  refine wpAny_call ?_
  k_dflt ktr_enter
  (obtain ⟨hb1, ⟨hs1, hs2⟩, ⟨hx1, hx2⟩, hd1, hd2⟩ := hpre)
  (have hD := cpow_div hs1 hs2 (k := (absI n).toNat) (by unfold absI; split <;> omega))
  (have hR := cpow_b hs1 hs2 (k := (absI n).toNat) (by unfold absI; split <;> omega))
  (have y0 := nd_bd (hR.b0.mono (by decide : 1333 ≤ 2700)); have y1 := nd_bd (hR.b1.mono (by decide : 1333 ≤ 2700)))
  clear hR
  k_steps
  all_goals (first
    | (tm_at "backE"; first | exact o_of (cpw_neg (by assumption)) (o_none (by assumption)) | exact o_of (cpw_pos (by assumption)) (o_none (by assumption)))
    | (tm_at "backO"; first | exact o_of (cpw_neg (by assumption)) (o_some (by assumption)) | exact o_of (cpw_pos (by assumption)) (o_some (by assumption))))
theorem lay_16 : True := by
  (k_with "my call ref" => k_here; (with_reducible show wpAny _ _ (call (Value.ref 176) _) _ _ _); k_dflt (refine fn_useE (complex_power_c _ _ _ _ _ _ _ _ _ _ _ _) (by k_asm) (by k_asm) (by k_asm) (by k_asm) (by k_asm) (by first | exact rfl | assumption) (by tm_at "pre") (by ktr_room) (by ktr_units) ?_ ?_; tm_at "gotE"))
  trivial
/-! a list of ints -/
abbrev dL (ns : List Int) : Dat := .list (ns.map Dat.int)
def pick (ns : List Int) (i m : Int) : Int := if i < (ns.length : Int) then (ns.getD i.toNat 0).fmod m else 0
section
variable {w : World} {A : Around} {E : Value → Shared → Prop} {s : Shared} {h₀ : Heap} {L a : Addr} {m : Str → Option Value} {news n₀ : Led} {ds : List Dat} {d : Dat} {Q : Value → Shared → Prop}
theorem br_len (F : Fr h₀ L s.heap m) (X : (hd.heap_1 w.params).In h₀) (N : News h₀ L s.heap news) (hb : Br w n₀ (.ref a) (.list ds)) (hs : ∀ p ∈ n₀, p ∈ news) (hfit : (ds.length : Int) < 2 ^ 63)
    (h : Q (.int (ds.length : Int) (s.toks + 1)) { s with toks := s.toks + 1 + 1 }) : wpAny (model prg w) A (call (.builtin "len") [.ref a]) Q E s := by
  cases hb with
  | @list a vs n ds hm r =>
    have hl : s.heap.IsList a vs.toArray := ⟨_, (hm.mono hs).at F X N, rfl, n, rfl⟩
    have e : vs.toArray.size = ds.length := by rw [List.size_toArray, r.length]
    exact len_list hl (by rw [e]; exact hfit) (by rw [e]; exact h)
theorem br_itemL {value slice : PySem.Expr} {k : Int} {u : Tok} (F : Fr h₀ L s.heap m) (X : (hd.heap_1 w.params).In h₀) (N : News h₀ L s.heap news) (hb : Br w n₀ (.ref a) (.list ds)) (hs : ∀ p ∈ n₀, p ∈ news)
    (h0 : 0 ≤ k) (hhi : k < 2 ^ 63) (hx : ds[k.toNat]? = some d) (h : ∀ v, Br w n₀ v d → Q v s)
    (hq : subscripted slice false (.ref a) (.int k u) = operate [.ref a, .int k u] (getItem (.ref a) (.int k u)) := by with_unfolding_all rfl) :
    wpAny (model prg w) A (subscriptTail value slice (.ref a) (.int k u)) Q E s := by
  cases hb with
  | @list a vs n ds hm r =>
    obtain ⟨v, hv, hd⟩ := r.get hx
    have hl : s.heap.IsList a vs.toArray := ⟨_, (hm.mono hs).at F X N, rfl, n, rfl⟩
    exact tail_any hl.typeIs slot_list_getitem.lookup (wpAny_getItem_list hl h0 hhi (by simpa using hv) (h v hd)) hq
end
theorem ints_get {ns : List Int} {k : Int} (h0 : 0 ≤ k) (h : k < (ns.length : Int)) : (ns.map Dat.int)[k.toNat]? = some (Dat.int (ns.getD k.toNat 0)) := by
  have hk : k.toNat < ns.length := by lia
  simp [List.getD, hk]
theorem len_fit {ns : List Int} (h : ns.length ≤ 100) : ((ns.map Dat.int).length : Int) < 2 ^ 63 := by rw [List.length_map]; lia
theorem lay_17 : True := by
  (k_with "my subscriptTail" => k_here; (with_reducible show wpAny _ _ (subscriptTail _ _ (Value.ref _) (Value.int _ _)) _ _ _); (with_unfolding_all refine br_itemL (by k_asm) (by k_asm) (by k_asm) (by assumption) (by tm_at "sub") (by first | omega | decide) (by first | omega | decide) (by first | rfl | exact ints_get (by assumption) (by assumption)) ?_ (by with_unfolding_all rfl)); intro v' hb'; tm_at "inv"; (try dsimp only))
  (k_with "my call builtin:len" => k_here; (with_reducible show wpAny _ _ (call (Value.builtin "len") [Value.ref _]) _ _ _); k_dflt (refine br_len (by k_asm) (by k_asm) (by k_asm) (by assumption) (by tm_at "sub") (by exact len_fit (by assumption)) ?_); (try rw [List.length_map]))
  trivial
theorem pick_in {ns : List Int} {i m : Int} (h : i < (ns.length : Int)) : Dat.int ((ns.getD i.toNat 0).fmod m) = Dat.int (pick ns i m) := by unfold pick; rw [if_pos h]
theorem pick_out {ns : List Int} {i m : Int} (h : ¬ i < (ns.length : Int)) : Dat.int 0 = Dat.int (pick ns i m) := by unfold pick; rw [if_neg h]
set_option maxHeartbeats 8000000 in
theorem law_pick_c (w : World) (a1 : Addr) (ns : List Int) (i m0 : Int) (t0 t1 : Tok) : Fn w 212 [.ref a1, .int i t0, .int m0 t1] 1
    (fun l => Br w l (.ref a1) (dL ns) ∧ ns.length ≤ 100 ∧ 0 ≤ i ∧ i ≤ 100 ∧ 0 < m0 ∧ m0.natAbs.log2 < 9000) (some (.int (pick ns i m0))) := by
  unfold Fn
  intro p loose mean mg mb dp un gd cn cs a' ccd cl outer A₀ base h₀ L m news s Q E B F X N T hk hpre hroom hun hret hexc
  refine wpAny_call ?_
  k_dflt ktr_enter
  (obtain ⟨hb1, hx0, hx1, hx2, hx3, hx4⟩ := hpre)
  k_steps
  all_goals (tm_at "back"; first | exact pick_in (by assumption) | exact pick_out (by assumption))
theorem lay_18 : True := by
  (k_with "my call ref" => k_here; (with_reducible show wpAny _ _ (call (Value.ref 212) _) _ _ _); k_dflt (refine fn_use (law_pick_c _ _ _ _ _ _ _) (by k_asm) (by k_asm) (by k_asm) (by k_asm) (by k_asm) (by first | exact rfl | assumption) (by tm_at "pre") (by ktr_room) (by ktr_units) ?_; tm_at "got"))
  trivial
abbrev tr (x y z : Int) : Dat := .tuple [.int x, .int y, .int z]
abbrev I3 := Int × Int × Int
abbrev d3 (p : I3) : Dat := tr p.1 p.2.1 p.2.2
def wlow (e f : Int) : Int := eLow (eLow 0 e) f
def whole (a e b f : Int) : I3 := (a * tenp (e - wlow e f), b * tenp (f - wlow e f), tenp (-wlow e f))
def prod3 (p q : I3) : I3 := (p.1 * q.1 - p.2.1 * q.2.1, p.1 * q.2.1 + p.2.1 * q.1, p.2.2 * q.2.2)
def over3 (p q : I3) : Option I3 := if q.1 * q.1 + q.2.1 * q.2.1 = 0 then none else some ((p.1 * q.1 + p.2.1 * q.2.1) * q.2.2, (p.2.1 * q.1 - p.1 * q.2.1) * q.2.2, p.2.2 * (q.1 * q.1 + q.2.1 * q.2.1))
def dO (o : Option I3) : Dat := match o with | none => .none | some p => d3 p
structure B3 (p : I3) (k : Nat) : Prop where
  x : Bd p.1 k
  y : Bd p.2.1 k
  z : Bd p.2.2 k
theorem min3_B {w : World} {A : Around} {E : Value → Shared → Prop} {s : Shared} {h₀ : Heap} {L : Addr} {m : Str → Option Value} {news : Led} {a b c : Int} {t u x : Tok} {Q : Value → Shared → Prop} (hh : A.handled = none) (F : Fr h₀ L s.heap m) (N : News h₀ L s.heap news)
    (h : ∀ h' tk t', Fr h₀ L h' m → News h₀ L h' news → Q (.int (eLow (eLow a b) c) t') { s with heap := h', toks := tk }) : wpAny (model prg w) A (call (.builtin "min") [.int a t, .int b u, .int c x]) Q E s := by
  refine min_three_ints hh fun h' tk hk => ?_
  have key := fun t' => h h' tk t' (F.grownK hk) (N.grown hk)
  unfold eLow at key
  by_cases hba : b < a <;> by_cases hc1 : c < b <;> by_cases hc2 : c < a <;> simp only [hba, hc1, hc2, if_true, if_false] at key ⊢ <;> exact key _
theorem lay_19 : True := by
  (k_with "my call builtin:min" => k_here; (with_reducible show wpAny _ _ (call (Value.builtin "min") [Value.int _ _, Value.int _ _, Value.int _ _]) _ _ _); k_dflt (refine min3_B (by exact rfl) (by k_asm) (by k_asm) ?_); intro h' tk' t' F' N'; (try k_sweep))
  trivial

set_option maxHeartbeats 8000000 in
theorem law_whole_c (w : World) (a1 : Addr) (a e b f : Int) : Fn w 241 [.ref a1] 1 (fun l => Br w l (.ref a1) (cx a e b f) ∧ (Sm a e ∧ Sm b f)) (some (d3 (whole a e b f))) := by
  unfold Fn
  intro p loose mean mg mb dp un gd cn cs a' ccd cl outer A₀ base h₀ L m news s Q E B F X N T hk hpre hroom hun hret hexc
  refine wpAny_call ?_
  k_dflt ktr_enter
  (obtain ⟨hb1, hs1, hs2⟩ := hpre)
  (obtain ⟨u1, u2, u3⟩ := hs1; obtain ⟨v1, v2, v3⟩ := hs2)
  (have hl : -60 ≤ wlow e f ∧ wlow e f ≤ 0 ∧ wlow e f ≤ e ∧ wlow e f ≤ f := by unfold wlow eLow; (repeat' split) <;> omega)
  (have hm1 : IntMulOk a (tenp (e - wlow e f)) := Bd.ok u1 (tenp_bd _) (by decide) (by omega))
  (have hm2 : IntMulOk b (tenp (f - wlow e f)) := Bd.ok v1 (tenp_bd _) (by decide) (by omega))
  unfold wlow at hl hm1 hm2
  k_steps
  tm_at "back"
  rfl
set_option maxHeartbeats 8000000 in
theorem law_product_c (w : World) (a1 a2 : Addr) (p0 q0 : I3) : Fn w 248 [.ref a1, .ref a2] 1 (fun l => (Br w l (.ref a1) (d3 p0) ∧ Br w l (.ref a2) (d3 q0)) ∧ B3 p0 50000 ∧ B3 q0 50000) (some (d3 (prod3 p0 q0))) := by
  unfold Fn
  intro p loose mean mg mb dp un gd cn cs a' ccd cl outer A₀ base h₀ L m news s Q E B F X N T hk hpre hroom hun hret hexc
  refine wpAny_call ?_
  k_dflt ktr_enter
  (obtain ⟨⟨hb1, hb2⟩, hB1, hB2⟩ := hpre)
  (have ok : ∀ {x y : Int}, Bd x 50000 → Bd y 50000 → IntMulOk x y := fun h k => Bd.ok h k (by decide) (by decide))
  (have m1 := ok hB1.x hB2.x; have m2 := ok hB1.y hB2.y; have m3 := ok hB1.x hB2.y; have m4 := ok hB1.y hB2.x; have m5 := ok hB1.z hB2.z)
  k_steps
  tm_at "back"
  rfl
theorem ov_none {p q : I3} (h : q.1 * q.1 + q.2.1 * q.2.1 = 0) : Dat.none = dO (over3 p q) := by unfold over3; rw [if_pos h]; rfl
theorem ov_some {p q : I3} (h : q.1 * q.1 + q.2.1 * q.2.1 ≠ 0) : tr ((p.1 * q.1 + p.2.1 * q.2.1) * q.2.2) ((p.2.1 * q.1 - p.1 * q.2.1) * q.2.2) (p.2.2 * (q.1 * q.1 + q.2.1 * q.2.1)) = dO (over3 p q) := by unfold over3; rw [if_neg h]; rfl
set_option maxHeartbeats 8000000 in
theorem law_over_c (w : World) (a1 a2 : Addr) (p0 q0 : I3) : Fn w 255 [.ref a1, .ref a2] 1 (fun l => (Br w l (.ref a1) (d3 p0) ∧ Br w l (.ref a2) (d3 q0)) ∧ B3 p0 10000 ∧ B3 q0 10000) (some (dO (over3 p0 q0))) := by
  unfold Fn
  intro p loose mean mg mb dp un gd cn cs a' ccd cl outer A₀ base h₀ L m news s Q E B F X N T hk hpre hroom hun hret hexc
  refine wpAny_call ?_
  k_dflt ktr_enter
  (obtain ⟨⟨hb1, hb2⟩, hB1, hB2⟩ := hpre)
  (have m1 := Bd.ok hB1.x hB2.x (by decide) (by decide); have m2 := Bd.ok hB1.y hB2.y (by decide) (by decide); have m3 := Bd.ok hB1.x hB2.y (by decide) (by decide); have m4 := Bd.ok hB1.y hB2.x (by decide) (by decide); have m5 := Bd.ok hB2.x hB2.x (by decide) (by decide); have m6 := Bd.ok hB2.y hB2.y (by decide) (by decide))
  (have m7 := Bd.ok ((hB1.x.mul hB2.x).add (hB1.y.mul hB2.y)) hB2.z (by decide) (by decide); have m8 : IntMulOk (p0.2.1 * q0.1 - p0.1 * q0.2.1) q0.2.2 := by rw [Int.sub_eq_add_neg]; exact Bd.ok ((hB1.y.mul hB2.x).add (hB1.x.mul hB2.y).neg) hB2.z (by decide) (by decide))
  (have m9 := Bd.ok hB1.z ((hB2.x.mul hB2.x).add (hB2.y.mul hB2.y)) (by decide) (by decide))
  k_steps
  all_goals (tm_at "back"; first | exact ov_none (by assumption) | exact ov_some (by assumption))
theorem lay_20 : True := by
  (k_with "my call ref" => k_here; (with_reducible show wpAny _ _ (call (Value.ref 241) _) _ _ _); k_dflt (refine fn_use (law_whole_c _ _ _ _ _) (by k_asm) (by k_asm) (by k_asm) (by k_asm) (by k_asm) (by first | exact rfl | assumption) (by tm_at "pre") (by ktr_room) (by ktr_units) ?_; tm_at "got"))
  (k_with "my call ref" => k_here; (with_reducible show wpAny _ _ (call (Value.ref 248) _) _ _ _); k_dflt (refine fn_use (law_product_c _ _ _ _) (by k_asm) (by k_asm) (by k_asm) (by k_asm) (by k_asm) (by first | exact rfl | assumption) (by tm_at "pre") (by ktr_room) (by ktr_units) ?_; tm_at "got"))
  (k_with "my call ref" => k_here; (with_reducible show wpAny _ _ (call (Value.ref 255) _) _ _ _); k_dflt (refine fn_use (law_over_c _ _ _ _) (by k_asm) (by k_asm) (by k_asm) (by k_asm) (by k_asm) (by first | exact rfl | assumption) (by tm_at "pre") (by ktr_room) (by ktr_units) ?_; tm_at "got"))
  trivial
/-! the law's own reckoning, and the program's: the same -/
def oL (o : Option C2) : List Dat := match o with | none => [] | some p => [dC p]
abbrev dLC (o : Option C2) : Dat := .list (oL o)
def lrounded (p : Option I3) (d top : Int) : Option C2 := match p with
  | none => none
  | some p => (match lround p.1 p.2.2 d top, lround p.2.1 p.2.2 d top with
    | some a, some b => some (a, b)
    | _, _ => none)
theorem lr_some (p : I3) (d top : Int) : lrounded (some p) d top = (match lround p.1 p.2.2 d top, lround p.2.1 p.2.2 d top with
    | some a, some b => some (a, b)
    | _, _ => none) := rfl
theorem Rep.cast {m e A B c A' B' : Int} (h : Rep m e A B c) (hA : A = A') (hB : B = B') : Rep m e A' B' c := by subst hA; subst hB; exact h
theorem Rep.neg {m e A B c : Int} (h : Rep m e A B c) : Rep (-m) e (-A) B c := ⟨h.c0, h.ec, h.B0, by have := h.eq; grind⟩
theorem Rep.mul {m e A B c m' e' A' B' c' : Int} (h : Rep m e A B c) (h' : Rep m' e' A' B' c') : Rep (eMul m e m' e').1 (eMul m e m' e').2 (A * A') (B * B') (c + c') := by
  have h1 := h.c0; have h2 := h'.c0; have h3 := h.ec; have h4 := h'.ec
  refine ⟨by lia, by unfold eMul; dsimp only; lia, Int.mul_pos h.B0 h'.B0, ?_⟩
  unfold eMul
  dsimp only
  have e1 : e + e' + (c + c') = (e + c) + (e' + c') := by lia
  rw [e1, tenp_add h3 h4, tenp_add h1 h2]
  have := h.eq
  have := h'.eq
  grind
theorem Rep.add {m e A B c m' e' A' : Int} (h : Rep m e A B c) (h' : Rep m' e' A' B c) : Rep (eAdd m e m' e').1 (eAdd m e m' e').2 (A + A') B c := by
  obtain ⟨q1, q2⟩ := eAdd_sc (m1 := m) (m2 := m') h.ec h'.ec
  refine ⟨h.c0, q1, h.B0, ?_⟩
  rw [q2]
  have := h.eq
  have := h'.eq
  grind
theorem Rep.over {m e A B c : Int} (h : Rep m e A B c) {k : Int} (hk : 0 < k) : Rep m e (A * k) (B * k) c := ⟨h.c0, h.ec, Int.mul_pos h.B0 hk, by have := h.eq; grind⟩
theorem Rep.add2 {m e A B c m' e' A' B' : Int} (h : Rep m e A B c) (h' : Rep m' e' A' B' c) : Rep (eAdd m e m' e').1 (eAdd m e m' e').2 (A * B' + A' * B) (B * B') c :=
  (h.over h'.B0).add ((h'.over h.B0).cast rfl (Int.mul_comm _ _))
/-- two parts over one denominator -/
structure CRep (p : C2) (t : I3) (c : Int) : Prop where
  x : Rep p.1.1 p.1.2 t.1 t.2.2 c
  y : Rep p.2.1 p.2.2 t.2.1 t.2.2 c
theorem CRep.prod {p q : C2} {s t : I3} {c c' : Int} (h : CRep p s c) (h' : CRep q t c') :
    CRep (eP0 p.1.1 p.1.2 p.2.1 p.2.2 q.1.1 q.1.2 q.2.1 q.2.2, eP1 p.1.1 p.1.2 p.2.1 p.2.2 q.1.1 q.1.2 q.2.1 q.2.2) (prod3 s t) (c + c') := by
  refine ⟨?_, ?_⟩
  · exact ((h.x.mul h'.x).add ((h.y.mul h'.y).neg)).cast (by unfold prod3; dsimp only; lia) rfl
  · exact ((h.x.mul h'.y).add (h.y.mul h'.x)).cast rfl rfl
theorem rp_lr {p : C2} {t : I3} {c d top : Int} (h : CRep p t c) (hd : 1 ≤ d) (ht : 0 ≤ top) : rparts p.1.1 p.1.2 p.2.1 p.2.2 d top = lrounded (some t) d top := by
  unfold rparts
  rw [h.x.round hd ht, h.y.round hd ht, lr_some]
  all_goals (rcases lround t.1 t.2.2 d top with _ | _ <;> rcases lround t.2.1 t.2.2 d top with _ | _ <;> rfl)
def cWhole (p : C2) : I3 := whole p.1.1 p.1.2 p.2.1 p.2.2
theorem wlow_le (e f : Int) : wlow e f ≤ 0 ∧ wlow e f ≤ e ∧ wlow e f ≤ f := by unfold wlow eLow; (repeat' split) <;> lia
theorem whole_rep {p : C2} (h1 : -60 ≤ p.1.2) (h2 : -60 ≤ p.2.2) : CRep p (cWhole p) 60 := by
  obtain ⟨⟨a, e⟩, b, f⟩ := p
  dsimp only at h1 h2
  obtain ⟨l0, l1, l2⟩ := wlow_le e f
  refine ⟨⟨by decide, by dsimp only; lia, tenp_pos _, ?_⟩, ⟨by decide, by dsimp only; lia, tenp_pos _, ?_⟩⟩
  · show a * tenp (e + 60) * tenp (-wlow e f) = a * tenp (e - wlow e f) * tenp 60
    rw [Int.mul_assoc, Int.mul_assoc, ← tenp_add (by lia) (by lia), ← tenp_add (by lia) (by decide)]
    congr 2
    lia
  · show b * tenp (f + 60) * tenp (-wlow e f) = b * tenp (f - wlow e f) * tenp 60
    rw [Int.mul_assoc, Int.mul_assoc, ← tenp_add (by lia) (by lia), ← tenp_add (by lia) (by decide)]
    congr 2
    lia
def dAdd (p q : I3) : I3 := (p.1 * q.2.2 + q.1 * p.2.2, p.2.1 * q.2.2 + q.2.1 * p.2.2, p.2.2 * q.2.2)
def dSub (p q : I3) : I3 := (p.1 * q.2.2 - q.1 * p.2.2, p.2.1 * q.2.2 - q.2.1 * p.2.2, p.2.2 * q.2.2)
section
variable {p q : C2} {s t : I3} {c c' d top : Int}
theorem add_law (h : CRep p s c) (h' : CRep q t c) (hd : 1 ≤ d) (ht : 0 ≤ top) : cadd p.1.1 p.1.2 p.2.1 p.2.2 q.1.1 q.1.2 q.2.1 q.2.2 d top = lrounded (some (dAdd s t)) d top := by
  unfold cadd
  exact rp_lr (p := (eAdd p.1.1 p.1.2 q.1.1 q.1.2, eAdd p.2.1 p.2.2 q.2.1 q.2.2)) (t := dAdd s t) ⟨h.x.add2 h'.x, h.y.add2 h'.y⟩ hd ht
theorem sub_law (h : CRep p s c) (h' : CRep q t c) (hd : 1 ≤ d) (ht : 0 ≤ top) : csub p.1.1 p.1.2 p.2.1 p.2.2 q.1.1 q.1.2 q.2.1 q.2.2 d top = lrounded (some (dSub s t)) d top := by
  unfold csub
  have := add_law (p := p) (q := ((-q.1.1, q.1.2), (-q.2.1, q.2.2))) (t := (-t.1, -t.2.1, t.2.2)) h ⟨h'.x.neg, h'.y.neg⟩ hd ht
  rw [this]
  congr 2
  unfold dAdd dSub
  dsimp only
  rw [Int.neg_mul, Int.neg_mul, ← Int.sub_eq_add_neg, ← Int.sub_eq_add_neg]
theorem mul_law (h : CRep p s c) (h' : CRep q t c') (hd : 1 ≤ d) (ht : 0 ≤ top) : cmul p.1.1 p.1.2 p.2.1 p.2.2 q.1.1 q.1.2 q.2.1 q.2.2 d top = lrounded (some (prod3 s t)) d top := by
  unfold cmul
  exact rp_lr (h.prod h') hd ht
theorem quo_rep {o e A Z k u g S W l : Int} (h : Rep o e A (Z * W) k) (hu : Rep u g S (W * W) l) (u0 : 0 < u) (S0 : 0 < S) (hZ : 0 < Z) (hW : 0 < W) : QRep o u (e - g) (A * W) (Z * S) (k + g + l) := by
  have h1 := h.c0; have h2 := hu.c0; have h3 := h.ec; have h4 := hu.ec
  refine ⟨by lia, by lia, Int.mul_pos hZ S0, u0, ?_⟩
  have e1 : e - g + (k + g + l) = (e + k) + l := by lia
  have e2 : k + g + l = k + (g + l) := by lia
  rw [e1, e2, tenp_add h3 h2, tenp_add h1 h4]
  have x1 := h.eq
  have x2 := hu.eq
  have x3 : o * (tenp (e + k) * tenp l) * (Z * S) = o * tenp (e + k) * Z * (S * tenp l) := by grind
  rw [x3, ← x2]
  grind
theorem div_law (h : CRep p s c) (h' : CRep q t c') (hd : 1 ≤ d) (ht : 0 ≤ top) : cdiv p.1.1 p.1.2 p.2.1 p.2.2 q.1.1 q.1.2 q.2.1 q.2.2 d top = lrounded (over3 s t) d top := by
  have hS : Rep (dS q.1.1 q.1.2 q.2.1 q.2.2).1 (dS q.1.1 q.1.2 q.2.1 q.2.2).2 (t.1 * t.1 + t.2.1 * t.2.1) (t.2.2 * t.2.2) (c' + c') := (h'.x.mul h'.x).add (h'.y.mul h'.y)
  have hP := h.prod (q := (q.1, (-q.2.1, q.2.2))) (t := (t.1, -t.2.1, t.2.2)) ⟨h'.x, h'.y.neg⟩
  have pos := dS_nonneg q.1.1 q.1.2 q.2.1 q.2.2
  obtain ⟨z1, z2, _⟩ := sign_eq (X := (dS q.1.1 q.1.2 q.2.1 q.2.2).1) (Y := t.1 * t.1 + t.2.1 * t.2.1) (Int.mul_pos (tenp_pos _) hS.B0) (tenp_pos _) (by rw [← Int.mul_assoc]; exact hS.eq)
  unfold cdiv over3
  by_cases hz : (dS q.1.1 q.1.2 q.2.1 q.2.2).1 = 0
  · rw [if_pos hz, if_pos (z2.mp hz)]; rfl
  · have hz' : t.1 * t.1 + t.2.1 * t.2.1 ≠ 0 := fun x => hz (z2.mpr x)
    rw [if_neg hz, if_neg hz']
    have u0 : 0 < (dS q.1.1 q.1.2 q.2.1 q.2.2).1 := by lia
    have S0 := z1.mp u0
    have r1 := (quo_rep hP.x hS u0 S0 h.x.B0 h'.x.B0).round hd ht
    have r2 := (quo_rep hP.y hS u0 S0 h.x.B0 h'.x.B0).round hd ht
    have f1 : (prod3 s (t.1, -t.2.1, t.2.2)).1 = s.1 * t.1 + s.2.1 * t.2.1 := by unfold prod3; dsimp only; grind
    have f2 : (prod3 s (t.1, -t.2.1, t.2.2)).2.1 = s.2.1 * t.1 - s.1 * t.2.1 := by unfold prod3; dsimp only; grind
    rw [f1] at r1
    rw [f2] at r2
    unfold rparts
    rw [lr_some]
    dsimp only at r1 r2 ⊢
    rw [r1, r2]
    all_goals (rcases lround ((s.1 * t.1 + s.2.1 * t.2.1) * t.2.2) (s.2.2 * (t.1 * t.1 + t.2.1 * t.2.1)) d top with _ | _ <;> rcases lround ((s.2.1 * t.1 - s.1 * t.2.1) * t.2.2) (s.2.2 * (t.1 * t.1 + t.2.1 * t.2.1)) d top with _ | _ <;> rfl)
end
def pw3 (t : I3) : Nat → I3
  | 0 => (1, 0, 1)
  | k + 1 => prod3 (pw3 t k) t
theorem one_rep : CRep ((1, 0), (0, 0)) (1, 0, 1) 0 := by
  have t0 : tenp (0 + 0) = 1 := by rw [tenp_eq]; rfl
  have t1 : tenp 0 = 1 := tenp_zero
  refine ⟨⟨by decide, by decide, by decide, ?_⟩, ⟨by decide, by decide, by decide, ?_⟩⟩
  · show (1 : Int) * tenp (0 + 0) * 1 = 1 * tenp 0
    rw [t0, t1]; rfl
  · show (0 : Int) * tenp (0 + 0) * 1 = 0 * tenp 0
    rw [t0, t1]; rfl
theorem one_div {q : C2} {t : I3} {c' d top : Int} (h' : CRep q t c') (hd : 1 ≤ d) (ht : 0 ≤ top) : cdiv 1 0 0 0 q.1.1 q.1.2 q.2.1 q.2.2 d top = lrounded (over3 (1, 0, 1) t) d top :=
  div_law (p := ((1, 0), (0, 0))) one_rep h' hd ht
theorem pow_rep {p : C2} {t : I3} {c : Int} (h : CRep p t c) : ∀ k : Nat, ∃ c', CRep (cpow p.1.1 p.1.2 p.2.1 p.2.2 k) (pw3 t k) c'
  | 0 => ⟨0, one_rep⟩
  | k + 1 => by
    obtain ⟨c', ih⟩ := pow_rep h k
    exact ⟨_, ih.prod h⟩
def dPow (t : I3) (n : Int) : Option I3 := if n < 0 then over3 (1, 0, 1) (pw3 t (absI n).toNat) else some (pw3 t (absI n).toNat)
theorem pow_law {p : C2} {t : I3} {c n d top : Int} (h : CRep p t c) (hd : 1 ≤ d) (ht : 0 ≤ top) : cpower p.1.1 p.1.2 p.2.1 p.2.2 n d top = lrounded (dPow t n) d top := by
  obtain ⟨c', hp⟩ := pow_rep h (absI n).toNat
  unfold cpower dPow
  by_cases hn : n < 0
  · rw [if_pos hn, if_pos hn]; exact one_div hp hd ht
  · rw [if_neg hn, if_neg hn]; exact rp_lr hp hd ht

/-! sizes -/
structure PB (t : I3) (N M : Nat) : Prop where
  x : t.1.natAbs ≤ N
  y : t.2.1.natAbs ≤ N
  z : t.2.2.natAbs ≤ M
  p : 0 < t.2.2
theorem na_mul {a b : Int} {i j : Nat} (h : a.natAbs ≤ i) (h' : b.natAbs ≤ j) : (a * b).natAbs ≤ i * j := by rw [Int.natAbs_mul]; exact Nat.mul_le_mul h h'
theorem na_add {a b : Int} {i j : Nat} (h : a.natAbs ≤ i) (h' : b.natAbs ≤ j) : (a + b).natAbs ≤ i + j := by have := Int.natAbs_add_le a b; lia
theorem na_sub {a b : Int} {i j : Nat} (h : a.natAbs ≤ i) (h' : b.natAbs ≤ j) : (a - b).natAbs ≤ i + j := by have := Int.natAbs_sub_le a b; lia
theorem na_nd {a : Int} {i k : Nat} (h : a.natAbs ≤ i) (hi : i < 10 ^ k) : nd a.natAbs ≤ k := nd_le (Nat.lt_of_le_of_lt h hi)
theorem PB.prod {s t : I3} {N M N' M' : Nat} (h : PB s N M) (h' : PB t N' M') : PB (prod3 s t) (2 * (N * N')) (M * M') :=
  ⟨by rw [Nat.two_mul]; exact na_sub (na_mul h.x h'.x) (na_mul h.y h'.y), by rw [Nat.two_mul]; exact na_add (na_mul h.x h'.y) (na_mul h.y h'.x), na_mul h.z h'.z, Int.mul_pos h.p h'.p⟩
theorem PB.pow {t : I3} (h : PB t (10 ^ 83) (10 ^ 44)) : ∀ k : Nat, PB (pw3 t k) (2 ^ k * 10 ^ (83 * k)) (10 ^ (44 * k))
  | 0 => ⟨(by decide : (1 : Int).natAbs ≤ 1), (by decide : (0 : Int).natAbs ≤ 1), (by decide : (1 : Int).natAbs ≤ 1), (by decide : (0 : Int) < 1)⟩
  | k + 1 => by
    have ih := (PB.pow h k).prod h
    have c2 : 2 * (2 ^ k * 10 ^ (83 * k) * 10 ^ 83) = 2 ^ (k + 1) * 10 ^ (83 * (k + 1)) := by
      have : 10 ^ (83 * (k + 1)) = 10 ^ (83 * k) * 10 ^ 83 := by rw [← Nat.pow_add, Nat.mul_add, Nat.mul_one]
      have e2 : 2 ^ (k + 1) = 2 * 2 ^ k := by rw [Nat.pow_succ, Nat.mul_comm]
      rw [this, e2]
      generalize 10 ^ (83 * k) = y
      generalize 10 ^ 83 = z
      generalize 2 ^ k = x
      rw [Nat.mul_assoc 2, Nat.mul_assoc x y z]
    have c3 : 10 ^ (44 * k) * 10 ^ 44 = 10 ^ (44 * (k + 1)) := by rw [← Nat.pow_add, Nat.mul_add, Nat.mul_one]
    rw [c2, c3] at ih
    exact ih
theorem PB.b3 {t : I3} {N M k : Nat} (h : PB t N M) (hN : N < 10 ^ k) (hM : M < 10 ^ k) : B3 t k := ⟨⟨Nat.lt_of_le_of_lt h.x hN⟩, ⟨Nat.lt_of_le_of_lt h.y hN⟩, ⟨Nat.lt_of_le_of_lt h.z hM⟩⟩
structure LrPre (t : I3) : Prop where
  p : 0 < t.2.2
  x : nd t.1.natAbs ≤ 2700
  y : nd t.2.1.natAbs ≤ 2700
  z : nd t.2.2.natAbs ≤ 2700
theorem PB.pre {t : I3} {N M : Nat} (h : PB t N M) (hN : N < 10 ^ 2700) (hM : M < 10 ^ 2700) : LrPre t := ⟨h.p, na_nd h.x hN, na_nd h.y hN, na_nd h.z hM⟩
theorem PB.mono {t : I3} {N M N' M' : Nat} (h : PB t N M) (hN : N ≤ N') (hM : M ≤ M') : PB t N' M' := ⟨Nat.le_trans h.x hN, Nat.le_trans h.y hN, Nat.le_trans h.z hM, h.p⟩
theorem PB.dadd {s t : I3} {N M N' M' : Nat} (h : PB s N M) (h' : PB t N' M') : PB (dAdd s t) (N * M' + N' * M) (M * M') :=
  ⟨na_add (na_mul h.x h'.z) (na_mul h'.x h.z), na_add (na_mul h.y h'.z) (na_mul h'.y h.z), na_mul h.z h'.z, Int.mul_pos h.p h'.p⟩
theorem PB.dsub {s t : I3} {N M N' M' : Nat} (h : PB s N M) (h' : PB t N' M') : PB (dSub s t) (N * M' + N' * M) (M * M') :=
  ⟨na_sub (na_mul h.x h'.z) (na_mul h'.x h.z), na_sub (na_mul h.y h'.z) (na_mul h'.y h.z), na_mul h.z h'.z, Int.mul_pos h.p h'.p⟩
theorem PB.dover {s t u : I3} {N M N' M' : Nat} (h : PB s N M) (h' : PB t N' M') (e : over3 s t = some u) : PB u ((N * N' + N * N') * M') (M * (N' * N' + N' * N')) := by
  unfold over3 at e
  split at e
  · cases e
  · rename_i hz
    cases e
    have sq : ∀ x : Int, 0 ≤ x * x := fun x => by
      rcases Int.le_total 0 x with q | q
      · exact Int.mul_nonneg q q
      · exact Int.mul_nonneg_of_nonpos_of_nonpos q q
    have s1 := sq t.1
    have s2 := sq t.2.1
    exact ⟨na_mul (na_add (na_mul h.x h'.x) (na_mul h.y h'.y)) h'.z, na_mul (na_sub (na_mul h.y h'.x) (na_mul h.x h'.y)) h'.z, na_mul h.z (na_add (na_mul h'.x h'.x) (na_mul h'.y h'.y)), Int.mul_pos h.p (by lia)⟩
theorem whole_pb {p : C2} (h1 : Sx p.1.1 p.1.2) (h2 : Sx p.2.1 p.2.2) : PB (cWhole p) (10 ^ 83) (10 ^ 44) := by
  obtain ⟨⟨a, e⟩, b, f⟩ := p
  dsimp only at h1 h2
  obtain ⟨l0, l1, l2⟩ := wlow_le e f
  have r0 := h1.lo; have r1 := h2.lo
  have l3 : -44 ≤ wlow e f := by unfold wlow eLow; (repeat' split) <;> lia
  have tl : ∀ {x y : Int}, 0 ≤ x → x ≤ y → (tenp x).natAbs ≤ (tenp y).natAbs := fun {x y} h k => by
    have := ten_mono h k
    have := tenp_pos x
    have := tenp_pos y
    lia
  refine ⟨?_, ?_, ?_, tenp_pos _⟩
  · refine Nat.le_trans ?_ h1.sb.bd
    show (a * tenp (e - wlow e f)).natAbs ≤ _
    rw [Int.natAbs_mul, Int.natAbs_mul]
    exact Nat.mul_le_mul_left _ (tl (by lia) (by lia))
  · refine Nat.le_trans ?_ h2.sb.bd
    show (b * tenp (f - wlow e f)).natAbs ≤ _
    rw [Int.natAbs_mul, Int.natAbs_mul]
    exact Nat.mul_le_mul_left _ (tl (by lia) (by lia))
  · have e44 : (tenp 44).natAbs = 10 ^ 44 := by rw [tenp_eq, Int.natAbs_pow]; rfl
    rw [← e44]
    show (tenp (-wlow e f)).natAbs ≤ (tenp 44).natAbs
    exact tl (by lia) (by lia)
theorem pw_pb {t : I3} (h : PB t (10 ^ 83) (10 ^ 44)) {k : Nat} (hk : k ≤ 16) : PB (pw3 t k) (10 ^ 1333) (10 ^ 704) :=
  (h.pow k).mono (Nat.le_of_lt (pw_lt hk)) (Nat.pow_le_pow_right (by decide) (by lia))
open PySem.W.KIN
section
variable {w : World} {A : Around} {E : Value → Shared → Prop} {s : Shared} {h₀ : Heap} {L : Addr} {m : Str → Option Value} {Q : Value → Shared → Prop} {a n : Int} {t u : Tok}
    {p : Program} {loose : List Str} {mean : ExcName → Option Value} {mg mb : Str → Option Value}
theorem str_B (hh : A.handled = none) (F : Fr h₀ L s.heap m) (T : Top p loose mean mg mb h₀) (hb : Bd a 4000) (h : Q (.str (txt a) s.toks) { s with toks := s.toks + 1 }) : wpAny (model prg w) A (call (.type "str") [.int a t]) Q E s := by
  have hn : s.heap.NoDigits := let ⟨mc, h1, h2⟩ := T.nodigits; ⟨mc, h1.keeps F.keep, h2⟩
  refine str_of_int_or hh hn (fun _ => h) (fun h2 => ?_)
  have h1 := hb.lt
  have h3 : (10 : Nat) ^ 4000 ≤ 10 ^ 4300 := Nat.pow_le_pow_right (by decide) (by decide)
  exact absurd (Nat.lt_of_lt_of_le h1 h3) (Nat.not_lt.mpr h2)
theorem txt_len_le (ha : 0 < a) (hb : Bd a 4000) : (txt a).length ≤ 4000 := by rw [txt_len ha]; exact nd_bd hb
theorem len_B (ha : 0 < a) (hb : Bd a 4000) (h : Q (.int (nd a.natAbs : Int) (s.toks + 1)) { s with toks := s.toks + 1 + 1 }) : wpAny (model prg w) A (call (.builtin "len") [.str (txt a) t]) Q E s := by
  have h1 := txt_len_le ha hb
  refine SBL.len (by omega) ?_
  rw [txt_len ha]
  exact h
theorem rstrip_B (ha : 0 < a) (hb : Bd a 4000) (h : ∀ t' k, Q (.str (txt (strip a 0).1) t') { s with toks := k }) : wpAny (model prg w) A (call (.builtin "str.rstrip") [.str (txt a) t, .str "0" u]) Q E s := by
  have h1 := txt_len_le ha hb
  refine SCL.rstripChars (fun t' k _ => ?_) (by rw [sizeLine_eq]; omega)
  have := h t' k
  rw [← cut_txt ha 0] at this
  exact this
theorem rstrip_0 (ha : a = 0) (h : ∀ t' k, Q (.str "" t') { s with toks := k }) : wpAny (model prg w) A (call (.builtin "str.rstrip") [.str (txt a) t, .str "0" u]) Q E s := by
  subst ha
  have h1 : (txt 0).length ≤ 4000 := by decide +kernel
  refine SCL.rstripChars (fun t' k _ => ?_) (by rw [sizeLine_eq]; omega)
  have := h t' k
  rw [← cut_zero] at this
  exact this
theorem int_B (h0 : 0 < n) (h1 : n ≤ 100000000) (h : Q (.int n s.toks) { s with toks := s.toks + 1 }) : wpAny (model prg w) A (call (.type "int") [.str (txt n) t]) Q E s :=
  call_num (Int.le_of_lt h0) (by omega) h
end
theorem strip_in {n : Int} (h : 0 < n) (e : Int) : 0 < (strip n e).1 ∧ (strip n e).1 ≤ n := by
  obtain ⟨k, rfl⟩ := Int.eq_ofNat_of_zero_le (Int.le_of_lt h)
  obtain ⟨j, h1, h2, h3⟩ := strip_nat (n := k) (by lia) e
  rw [h3]
  lia
theorem lay_21 : True := by
  (k_with "tm txp" => first | assumption | omega | exact (strip_in (by first | assumption | omega) _).1)
  (k_with "tm txb" => first | assumption | exact bd_small (by omega) (by omega) | exact bd_strip (by first | assumption | omega) (by omega))
  (k_with "tm txu" => first | assumption | omega | exact Int.le_trans (strip_in (by first | assumption | omega) _).2 (by omega))
  (k_with "my call type:str" => k_here; (with_reducible show wpAny _ _ (call (Value.type "str") [Value.int _ _]) _ _ _); k_dflt (refine str_B (by exact rfl) (by k_asm) (by k_asm) (by tm_at "txb") ?_))
  (k_with "my call builtin:len" => k_here; (with_reducible show wpAny _ _ (call (Value.builtin "len") [Value.str _ _]) _ _ _); k_dflt (refine len_B (by tm_at "txp") (by tm_at "txb") ?_))
  (k_with "my call builtin:str.rstrip" => k_here; (with_reducible show wpAny _ _ (call (Value.builtin "str.rstrip") [Value.str _ _, Value.str _ _]) _ _ _); k_dflt (first | (refine rstrip_0 (by first | assumption | omega) ?_) | (refine rstrip_B (by tm_at "txp") (by tm_at "txb") ?_)); intro t' k')
  (k_with "my call type:int" => k_here; (with_reducible show wpAny _ _ (call (Value.type "int") [Value.str _ _]) _ _ _); k_dflt (refine int_B (by tm_at "txp") (by tm_at "txu") ?_))
  (k_with "my binaryOp Mult int int" => k_here; (with_reducible show wpAny _ _ (binaryOp _ (Value.int _ _) (Value.int (Prod.fst (strip _ _)) _)) _ _ _); k_dflt (refine PyProof.Rows.mul_int ?_ (by first | exact sgn_ok (by assumption) (by first | assumption | omega) (by omega) | exact sgn_ok1 (by first | assumption | omega) (by omega) | exact sgn_ok2 (by first | assumption | omega) (by omega) | exact sgn_okI (by first | assumption | omega) (by omega))))
  (k_with "tm enterD" => refine code_def (by k_asm) (by k_asm) (by k_asm) (by k_asm) (by k_asm) (by exact rfl) (by exact rfl) (by assumption) (by k_is) (by k_is) (by ktr_room) (by exact binds_K (by k_in) rfl (by k_is) rfl rfl rfl) (by exact locs rfl) ?_ (by exact rfl) (by exact rfl) (by exact rfl) (by decide); k_whole; intro g' L' h' FG' F' N' B' X' T'; (try dsimp only); (try k_fold))
  (k_with "my call builtin:abs" => k_here; (with_reducible show wpAny _ _ (call (Value.builtin "abs") [Value.int _ _]) _ _ _); k_dflt (refine abs_B (by assumption) ?_); intro u' tk')
  (k_with "my binaryOp FloorDiv int int" => k_here; k_dflt (refine PyProof.Rows.floordiv_int (by assumption) ?_ (Or.inl (by assumption))))
  (k_with "my binaryOp Mod int int" => k_here; k_dflt (refine mod_int' (by assumption) ?_))
  (k_with "tm hands" => (try dsimp only); (rename Hands _ _ _ _ _ _ _ => hret'); refine hret' _ _ _ _ _ (by k_asm) (by k_asm) (by tm_at "sub") (Br.cast (by tm_at "br") ?_))
  trivial
theorem bd_small {n : Int} (h0 : 0 ≤ n) (h1 : n ≤ 100000000) : Bd n 4000 := by
  refine ⟨?_⟩
  have h2 : n.natAbs < 10 ^ 9 := by lia
  exact Nat.lt_of_lt_of_le h2 (Nat.pow_le_pow_right (by decide) (by decide))
theorem bd_strip {n e : Int} (h0 : 0 < n) (h1 : n ≤ 100000000) : Bd (strip n e).1 4000 := by
  have := strip_in h0 e
  exact bd_small (by lia) (by lia)
theorem bd_one (n : Int) (h : n.natAbs ≤ 100000000) : Bd n 100000 := by
  refine ⟨Nat.lt_of_le_of_lt h ?_⟩
  exact Nat.lt_of_lt_of_le (by decide : 100000000 < 10 ^ 9) (Nat.pow_le_pow_right (by decide) (by decide))
theorem sgn_ok {x n e : Int} (hx : x = 1 ∨ x = -1) (h0 : 0 < n) (h1 : n ≤ 100000000) : IntMulOk x (strip n e).1 := by
  have := strip_in h0 e
  exact Bd.ok (bd_one x (by lia)) (bd_one _ (by lia)) (by decide) (by decide)
theorem sgn_ok1 {n e : Int} (h0 : 0 < n) (h1 : n ≤ 100000000) : IntMulOk 1 (strip n e).1 := sgn_ok (.inl rfl) h0 h1
theorem sgn_ok2 {n e : Int} (h0 : 0 < n) (h1 : n ≤ 100000000) : IntMulOk (-1) (strip n e).1 := sgn_ok (.inr rfl) h0 h1
theorem sgn_okI {c : Prop} [Decidable c] {n e : Int} (h0 : 0 < n) (h1 : n ≤ 100000000) : IntMulOk (if c then 1 else -1) (strip n e).1 := sgn_ok (by split <;> simp) h0 h1
def dR (o : Option (Int × Int)) : Dat := match o with | none => .none | some p => dP p
theorem lr_zero {a b d top : Int} (h : a = 0) : pr 0 0 = dR (lround a b d top) := by unfold lround; rw [if_pos h]; rfl
section
variable {a b d top K L : Int} (ha : a ≠ 0) (hK : lK a b d = K) (hL : ld a b = L)
include ha hK hL
theorem lr_none (h : top < L + ((nd K.natAbs : Int) - d + 0)) : Dat.none = dR (lround a b d top) := by
  unfold lround ld2
  rw [if_neg ha, hK, hL, if_pos h]; rfl
theorem lr_low (h0 : ¬ top < L + ((nd K.natAbs : Int) - d + 0)) (h : L + ((nd K.natAbs : Int) - d + 0) < -top) : pr 0 0 = dR (lround a b d top) := by
  unfold lround ld2
  rw [if_neg ha, hK, hL, if_neg h0, if_pos h]; rfl
theorem lr_pos (h0 : ¬ top < L + ((nd K.natAbs : Int) - d + 0)) (h : ¬ L + ((nd K.natAbs : Int) - d + 0) < -top) (hs : 0 < a) :
    pr (1 * (strip K 0).1) (L + ((nd K.natAbs : Int) - d + 0) - (nd (strip K 0).1.natAbs : Int) + 1) = dR (lround a b d top) := by
  unfold lround ld2
  rw [if_neg ha, hK, hL, if_neg h0, if_neg h, if_pos hs]; rfl
theorem lr_neg (h0 : ¬ top < L + ((nd K.natAbs : Int) - d + 0)) (h : ¬ L + ((nd K.natAbs : Int) - d + 0) < -top) (hs : ¬ 0 < a) :
    pr (-1 * (strip K 0).1) (L + ((nd K.natAbs : Int) - d + 0) - (nd (strip K 0).1.natAbs : Int) + 1) = dR (lround a b d top) := by
  unfold lround ld2
  rw [if_neg ha, hK, hL, if_neg h0, if_neg h, if_neg hs]; rfl
end
structure LrOk (a b d L : Int) : Prop where
  f1 : Bd (absI a) 4000
  f2 : 0 < absI a
  f3 : Bd b 4000
  m1 : IntMulOk (absI a) (tenp (mx (-ld0 a b)))
  m2 : IntMulOk b (tenp (mx (ld0 a b)))
  m3 : IntMulOk (absI a) (tenp (mx (d - 1 - L)))
  m4 : IntMulOk b (tenp (mx (-(d - 1 - L))))
  n1 : b * tenp (mx (-(d - 1 - L))) ≠ 0
  n2 : Builtin.divisionGoesByPylong (absI a * tenp (mx (d - 1 - L))) (b * tenp (mx (-(d - 1 - L)))) = false
  k1 : 0 < (absI a * tenp (mx (d - 1 - L))).fdiv (b * tenp (mx (-(d - 1 - L)))) ∧ (absI a * tenp (mx (d - 1 - L))).fdiv (b * tenp (mx (-(d - 1 - L)))) ≤ 10000000
  kd : lK a b d = upP ((absI a * tenp (mx (d - 1 - L))).fdiv (b * tenp (mx (-(d - 1 - L))))) ((absI a * tenp (mx (d - 1 - L))).fmod (b * tenp (mx (-(d - 1 - L))))) (b * tenp (mx (-(d - 1 - L))))
  l1 : -5000 ≤ ld0 a b
  l2 : ld0 a b ≤ 5000
theorem lrOk {a b d L : Int} (ha : a ≠ 0) (hb : 0 < b) (h1 : nd a.natAbs ≤ 2700) (h2 : nd b.natAbs ≤ 2700) (hd : 1 ≤ d) (hd7 : d ≤ 7) (hL : ld a b = L) : LrOk a b d L := by
  obtain ⟨pA, eA⟩ := absI_pos ha
  have eN : (absI a).natAbs = a.natAbs := by lia
  have bA : Bd (absI a) 2700 := (bd_nd (n := absI a)).mono (by rw [eN]; exact h1)
  have bB : Bd b 2700 := (bd_nd (n := b)).mono h2
  have l0 : -2700 ≤ ld0 a b ∧ ld0 a b ≤ 2700 := by unfold ld0; lia
  have lL : -2701 ≤ L ∧ L ≤ 2700 := by rw [← hL]; unfold ld; split <;> lia
  have mt : ∀ x : Int, x ≤ 10000 → Bd (tenp (mx x)) 100000 := fun x hx => (tenp_bd _).mono (by unfold mx; split <;> lia)
  have hB := nd_lB ha hb hd h1 h2
  have hk := lK_in ha hb hd
  unfold lB at hB
  unfold lA lB at hk
  rw [hL] at hB hk
  have hp := lB_pos (a := a) (d := d) hb
  unfold lB at hp
  rw [hL] at hp
  have t1 : 1 ≤ tenp (d - 1) := by have := tenp_pos (d - 1); lia
  have t2 : tenp d ≤ 10000000 := by
    have := ten_mono (p := d) (q := 7) (by lia) hd7
    have e7 : tenp 7 = 10000000 := by rw [tenp_eq]; rfl
    lia
  refine ⟨bA.mono (by decide), pA, bB.mono (by decide), Bd.ok (bA.mono (by decide : 2700 ≤ 100000)) (mt _ (by lia)) (by decide) (by decide), Bd.ok (bB.mono (by decide : 2700 ≤ 100000)) (mt _ (by lia)) (by decide) (by decide),
    Bd.ok (bA.mono (by decide : 2700 ≤ 100000)) (mt _ (by lia)) (by decide) (by decide), Bd.ok (bB.mono (by decide : 2700 ≤ 100000)) (mt _ (by lia)) (by decide) (by decide), Int.ne_of_gt hp, PyProof.noPylong_of_log2 (log_of_bd hB (by decide)), ⟨by lia, by lia⟩, ?_, by lia, by lia⟩
  unfold lK rhe lA lB
  rw [hL]
theorem abs_B {w : World} {A : Around} {E : Value → Shared → Prop} {s : Shared} {Q : Value → Shared → Prop} {a x : Int} {t : Tok} (hx : x = absI a) (h : ∀ u tk, Q (.int x u) { s with toks := tk }) : wpAny (model prg w) A (call (.builtin "abs") [.int a t]) Q E s := by
  subst hx
  exact call_abs_int h
noncomputable def bodyOf (w : World) (f : Addr) : List Stmt := match (hd.heap_1 w.params).lookup f with
  | some ⟨_, _, .func fd, _⟩ => (match fd.body with | .stmts b => b | _ => [])
  | _ => []
noncomputable def scopeOf (w : World) (f : Addr) : Scope := match (hd.heap_1 w.params).lookup f with
  | some ⟨_, _, .func fd, _⟩ => fd.scope
  | _ => default
/-- what a body hands back -/
def Hands (w : World) (g : Heap) (L : Addr) (news : Led) (d : Dat) (Q : Flow → Shared → Prop) (s : Shared) : Prop :=
  ∀ v m' news' h' tk', Fr g L h' m' → News g L h' news' → (∀ q ∈ news, q ∈ news') → Br w news' v d → Q (.ret v) { s with heap := h', toks := tk' }
theorem fr_as {g : Heap} {L : Addr} {h : Heap} {m m' : Str → Option Value} (F : Fr g L h m) (e : ∀ z, m' z = m z) : Fr g L h m' := by
  have : m' = m := funext e
  rw [this]; exact F
theorem fr_put {g : Heap} {L : Addr} {h : Heap} {m : Str → Option Value} {x : Str} {v : Value} (F : Fr g L h m) (hx : m x = some v) : Fr g L h (fun z => if z = x then some v else m z) := by
  refine fr_as F fun z => ?_
  by_cases c : z = x
  · subst c; simp [hx]
  · simp [c]
theorem hands_to {w : World} {g : Heap} {L : Addr} {news news' : Led} {d d' : Dat} {Q : Flow → Shared → Prop} {s : Shared} {h : Heap} {tk : Nat} (x : Hands w g L news d Q s) (hs : ∀ q ∈ news, q ∈ news') (e : d' = d) : Hands w g L news' d' Q { s with heap := h, toks := tk } :=
  fun v m' n' h' tk' F N hs' hb => x v m' n' h' tk' F N (fun q hq => hs' q (hs q hq)) (Br.cast hb e)
set_option maxHeartbeats 16000000 in
theorem law_round_z (w : World) (b0 d0 top : Int) (t0 t1 t2 t3 : Tok) : Fn w 220 [.int 0 t0, .int b0 t1, .int d0 t2, .int top t3] 1 (fun _ => True) (some (pr 0 0)) := by
  unfold Fn
  intro p loose mean mg mb dp un gd cn cs a' ccd cl outer A₀ base h₀ L m news s Q E B F X N T hk hpre hroom hun hret hexc
  refine wpAny_call ?_
  k_dflt (tm_at "enterD")
  k_steps
  tm_at "back"
  rfl
def tailD (K l d0 top sg : Int) : Dat :=
  if top < l + ((nd K.natAbs : Int) - d0 + 0) then .none else if l + ((nd K.natAbs : Int) - d0 + 0) < -top then pr 0 0
  else pr (sg * (strip K 0).1) (l + ((nd K.natAbs : Int) - d0 + 0) - (nd (strip K 0).1.natAbs : Int) + 1)
theorem td_none {K l d0 top sg : Int} (h : top < l + ((nd K.natAbs : Int) - d0 + 0)) : Dat.none = tailD K l d0 top sg := by unfold tailD; rw [if_pos h]
theorem td_low {K l d0 top sg : Int} (h0 : ¬ top < l + ((nd K.natAbs : Int) - d0 + 0)) (h : l + ((nd K.natAbs : Int) - d0 + 0) < -top) : pr 0 0 = tailD K l d0 top sg := by unfold tailD; rw [if_neg h0, if_pos h]
theorem td_in {K l d0 top sg : Int} (h0 : ¬ top < l + ((nd K.natAbs : Int) - d0 + 0)) (h : ¬ l + ((nd K.natAbs : Int) - d0 + 0) < -top) :
    pr (sg * (strip K 0).1) (l + ((nd K.natAbs : Int) - d0 + 0) - (nd (strip K 0).1.natAbs : Int) + 1) = tailD K l d0 top sg := by unfold tailD; rw [if_neg h0, if_neg h]
set_option maxHeartbeats 16000000 in
theorem lr_tail {w : World} {K l d0 top sg : Int} {tK tl td tt tn ts : Tok}
    {p : Program} {loose : List Str} {mean : ExcName → Option Value} {mg mb : Str → Option Value}
    {dp un : Nat} {gd : Option (List Code)} {cn : Str} {cs : Scope} {a : Addr} {ccd : Value} {cl : List (Str × Addr)} {outer : List Env} {base g : Heap} {L L₁ : Addr} {m₀ : Str → Option Value} {news : Led} {s : Shared}
    {Q : Flow → Shared → Prop} {E : Value → Shared → Prop} {env : Env} (he : env = envOf "_law_round" (scopeOf w 220) L 220 (.ref 219))
    (hB : Below (ktrTop dp un gd cn cs L₁ a ccd cl outer) base (envX cn cs L₁ a ccd cl :: outer) g)
    (F : Fr g L s.heap (fun z => if z = "row" then some (.int K tK) else if z = "lead" then some (.int l tl) else if z = "digits" then some (.int d0 td) else if z = "top" then some (.int top tt) else if z = "ten" then some (.int 0 tn) else if z = "sign" then some (.int sg ts) else m₀ z))
    (X : (hd.heap_1 w.params).In g) (N : News g L s.heap news) (T : Top p loose mean mg mb g)
    (hK0 : 0 < K) (hK1 : K ≤ 100000000) (hs : sg = 1 ∨ sg = -1)
    (hret : Hands w g L news (tailD K l d0 top sg) Q s) :
    wpAny (model prg w) ((ktrTop dp un gd cn cs L₁ a ccd cl outer).deeper env) (execs ((bodyOf w 220).drop 11) env) Q E s := by
  subst he
  (obtain ⟨sc, hsc⟩ : ∃ sc, scopeOf w 220 = sc := ⟨_, rfl⟩)
  rw [hsc]
  (change Scope.mk _ _ _ _ _ = sc at hsc)
  subst hsc
  (show wpAny _ _ (execs (List.cons _ _) _) _ _ _)
  k_steps
  all_goals (tm_at "hands"; first | exact td_none (by assumption) | exact td_low (by assumption) (by assumption) | exact td_in (by assumption) (by assumption))
theorem lay_22 : True := by
  (k_with "my execs cons" => k_here; (with_reducible show wpAny _ _ (execs (Stmt.Assign [Expr.Name (Str.ofString "figures") _] (Expr.Call (Expr.Name _ _) _ _ _) _ :: _) _) _ _ _); k_dflt (refine lr_tail (by exact rfl) (by k_asm) (by rename Fr _ _ _ _ => lF'; exact fr_put (fr_put (fr_put (fr_put (fr_put (fr_put lF' rfl) rfl) rfl) rfl) rfl) rfl) (by k_asm) (by k_asm) (by k_asm) (by omega) (by omega) (by assumption) ?_))
  trivial

theorem td_k {P D K l d top sg : Int} (h : rhe P D = K) : tailD K l d top sg = tailD (rhe P D) l d top sg := by rw [h]
set_option maxHeartbeats 16000000 in
theorem lr_mid {w : World} {P D l d0 top sg : Int} {tP tD tl td tt tn ts : Tok}
    {p : Program} {loose : List Str} {mean : ExcName → Option Value} {mg mb : Str → Option Value}
    {dp un : Nat} {gd : Option (List Code)} {cn : Str} {cs : Scope} {a : Addr} {ccd : Value} {cl : List (Str × Addr)} {outer : List Env} {base g : Heap} {L L₁ : Addr} {m₀ : Str → Option Value} {news : Led} {s : Shared}
    {Q : Flow → Shared → Prop} {E : Value → Shared → Prop} {env : Env} (he : env = envOf "_law_round" (scopeOf w 220) L 220 (.ref 219))
    (hB : Below (ktrTop dp un gd cn cs L₁ a ccd cl outer) base (envX cn cs L₁ a ccd cl :: outer) g)
    (F : Fr g L s.heap (fun z => if z = "a" then some (.int P tP) else if z = "b" then some (.int D tD) else if z = "lead" then some (.int l tl) else if z = "digits" then some (.int d0 td) else if z = "top" then some (.int top tt) else if z = "ten" then some (.int 0 tn) else if z = "sign" then some (.int sg ts) else m₀ z))
    (X : (hd.heap_1 w.params).In g) (N : News g L s.heap news) (T : Top p loose mean mg mb g)
    (hD : D ≠ 0) (hp : Builtin.divisionGoesByPylong P D = false) (hK0 : 0 < P.fdiv D) (hK1 : P.fdiv D ≤ 10000000) (hs : sg = 1 ∨ sg = -1)
    (hret : Hands w g L news (tailD (rhe P D) l d0 top sg) Q s) :
    wpAny (model prg w) ((ktrTop dp un gd cn cs L₁ a ccd cl outer).deeper env) (execs ((bodyOf w 220).drop 8) env) Q E s := by
  subst he
  (obtain ⟨sc, hsc⟩ : ∃ sc, scopeOf w 220 = sc := ⟨_, rfl⟩)
  rw [hsc]
  (change Scope.mk _ _ _ _ _ = sc at hsc)
  subst hsc
  (show wpAny _ _ (execs (List.cons _ _) _) _ _ _)
  k_steps
  all_goals (refine hands_to (by assumption) (by tm_at "sub") (td_k ?_); first | exact up1 (by assumption) | exact up2 (by assumption) (by assumption) (by assumption) | exact up3 (by assumption) (by assumption) (by assumption) | exact up4 (by assumption) (by assumption))
theorem td_lr {a b d top K L sg : Int} (ha : a ≠ 0) (hK : lK a b d = K) (hL : ld a b = L) (hs : (0 < a ∧ sg = 1) ∨ (¬ 0 < a ∧ sg = -1)) : tailD K L d top sg = dR (lround a b d top) := by
  unfold tailD lround ld2
  rw [if_neg ha, hK, hL]
  rcases hs with ⟨h, rfl⟩ | ⟨h, rfl⟩
  · rw [if_pos h]; split
    · rfl
    · split <;> rfl
  · rw [if_neg h]; split
    · rfl
    · split <;> rfl
theorem sgn_ite {c : Prop} [Decidable c] : (if c then (1 : Int) else -1) = 1 ∨ (if c then (1 : Int) else -1) = -1 := by split <;> simp
theorem lay_23 : True := by
  (k_with "my execs cons" => k_here; (with_reducible show wpAny _ _ (execs (Stmt.Assign [Expr.Name (Str.ofString "row") _] (Expr.BinOp _ _ _ _) _ :: _) _) _ _ _); k_dflt (refine lr_mid (by exact rfl) (by k_asm) (by rename Fr _ _ _ _ => lF'; exact fr_put (fr_put (fr_put (fr_put (fr_put (fr_put (fr_put lF' rfl) rfl) rfl) rfl) rfl) rfl) rfl) (by k_asm) (by k_asm) (by k_asm) (by assumption) (by assumption) (by assumption) (by assumption) (by first | exact Or.inl rfl | exact Or.inr rfl | exact sgn_ite) ?_))
  trivial

set_option maxHeartbeats 16000000 in
theorem law_round_1 (w : World) (a0 b0 d0 top : Int) (t0 t1 t2 t3 : Tok) (hc : absI a0 * tenp (mx (-ld0 a0 b0)) < b0 * tenp (mx (ld0 a0 b0))) : Fn w 220 [.int a0 t0, .int b0 t1, .int d0 t2, .int top t3] 1
    (fun _ => a0 ≠ 0 ∧ 0 < b0 ∧ nd a0.natAbs ≤ 2700 ∧ nd b0.natAbs ≤ 2700 ∧ 1 ≤ d0 ∧ d0 ≤ 7) (some (dR (lround a0 b0 d0 top))) := by
  unfold Fn
  intro p loose mean mg mb dp un gd cn cs a' ccd cl outer A₀ base h₀ L m news s Q E B F X N T hk hpre hroom hun hret hexc
  refine wpAny_call ?_
  k_dflt (tm_at "enterD")
  (obtain ⟨ha, hb, hx1, hx2, hd1, hd2⟩ := hpre)
  (have eL : ld a0 b0 = ld0 a0 b0 - 1 := if_pos hc)
  (obtain ⟨f1, f2, f3, m1, m2, m3, m4, n1, n2, ⟨k1, k2⟩, kd, l1, l2⟩ := lrOk ha hb hx1 hx2 hd1 hd2 eL)
  (obtain ⟨A, hA⟩ : ∃ A, A = absI a0 := ⟨_, rfl⟩)
  (have e0 : ld0 a0 b0 = (nd A.natAbs : Int) - (nd b0.natAbs : Int) := by rw [hA]; unfold ld0; rw [show (absI a0).natAbs = a0.natAbs by have := absI_pos ha; omega])
  rw [← hA, e0] at m1 m3 n2 k1 k2 kd hc
  rw [e0] at m2 m4 n1 l1 l2 eL
  rw [← hA] at f1 f2
  dsimp only [mx] at m1 m2 m3 m4 n1 n2 k1 k2 kd hc
  k_steps
  all_goals (first
    | (exfalso; exact ha (by assumption))
    | (intro v' m' n' h' tk' F' N' hs' hb'
       (try dsimp only)
       k_steps
       (refine hret _ rfl _ _ _ _ (by k_asm) (by k_asm) hs' (Br.cast hb' (td_lr ha kd eL ?_)))
       first | exact Or.inl ⟨by assumption, rfl⟩ | exact Or.inr ⟨by assumption, rfl⟩))
set_option maxHeartbeats 16000000 in
theorem law_round_2 (w : World) (a0 b0 d0 top : Int) (t0 t1 t2 t3 : Tok) (hc : ¬ absI a0 * tenp (mx (-ld0 a0 b0)) < b0 * tenp (mx (ld0 a0 b0))) : Fn w 220 [.int a0 t0, .int b0 t1, .int d0 t2, .int top t3] 1
    (fun _ => a0 ≠ 0 ∧ 0 < b0 ∧ nd a0.natAbs ≤ 2700 ∧ nd b0.natAbs ≤ 2700 ∧ 1 ≤ d0 ∧ d0 ≤ 7) (some (dR (lround a0 b0 d0 top))) := by
  unfold Fn
  intro p loose mean mg mb dp un gd cn cs a' ccd cl outer A₀ base h₀ L m news s Q E B F X N T hk hpre hroom hun hret hexc
  refine wpAny_call ?_
  k_dflt (tm_at "enterD")
  (obtain ⟨ha, hb, hx1, hx2, hd1, hd2⟩ := hpre)
  (have eL : ld a0 b0 = ld0 a0 b0 := if_neg hc)
  (obtain ⟨f1, f2, f3, m1, m2, m3, m4, n1, n2, ⟨k1, k2⟩, kd, l1, l2⟩ := lrOk ha hb hx1 hx2 hd1 hd2 eL)
  (obtain ⟨A, hA⟩ : ∃ A, A = absI a0 := ⟨_, rfl⟩)
  (have e0 : ld0 a0 b0 = (nd A.natAbs : Int) - (nd b0.natAbs : Int) := by rw [hA]; unfold ld0; rw [show (absI a0).natAbs = a0.natAbs by have := absI_pos ha; omega])
  rw [← hA, e0] at m1 m3 n2 k1 k2 kd hc
  rw [e0] at m2 m4 n1 l1 l2 eL
  rw [← hA] at f1 f2
  dsimp only [mx] at m1 m2 m3 m4 n1 n2 k1 k2 kd hc
  k_steps
  all_goals (first
    | (exfalso; exact ha (by assumption))
    | (intro v' m' n' h' tk' F' N' hs' hb'
       (try dsimp only)
       k_steps
       (refine hret _ rfl _ _ _ _ (by k_asm) (by k_asm) hs' (Br.cast hb' (td_lr ha kd eL ?_)))
       first | exact Or.inl ⟨by assumption, rfl⟩ | exact Or.inr ⟨by assumption, rfl⟩))
theorem Fn.weak {w : World} {f : Addr} {vs : List Value} {room : Nat} {P P' : Led → Prop} {d : Option Dat} (C : Fn w f vs room P d) (h : ∀ n, P' n → P n) : Fn w f vs room P' d := by
  unfold Fn at *
  intro p loose mean mg mb dp un gd cn cs a' ccd cl outer A₀ base h₀ L m news s Q E B F X N T hk hpre
  exact C p loose mean mg mb dp un gd cn cs a' ccd cl outer A₀ base h₀ L m news s Q E B F X N T hk (h _ hpre)
theorem law_round_c (w : World) (a0 b0 d0 top : Int) (t0 t1 t2 t3 : Tok) : Fn w 220 [.int a0 t0, .int b0 t1, .int d0 t2, .int top t3] 1
    (fun _ => 0 < b0 ∧ nd a0.natAbs ≤ 2700 ∧ nd b0.natAbs ≤ 2700 ∧ 1 ≤ d0 ∧ d0 ≤ 7) (some (dR (lround a0 b0 d0 top))) := by
  by_cases ha : a0 = 0
  · have h := law_round_z w b0 d0 top t0 t1 t2 t3
    rw [lr_zero (a := a0) (b := b0) (d := d0) (top := top) ha] at h
    subst ha
    exact h.weak fun _ _ => trivial
  · by_cases hc : absI a0 * tenp (mx (-ld0 a0 b0)) < b0 * tenp (mx (ld0 a0 b0))
    · exact (law_round_1 w a0 b0 d0 top t0 t1 t2 t3 hc).weak fun _ h => ⟨ha, h⟩
    · exact (law_round_2 w a0 b0 d0 top t0 t1 t2 t3 hc).weak fun _ h => ⟨ha, h⟩
theorem lay_24 : True := by
  (k_with "my call ref" => k_here; (with_reducible show wpAny _ _ (call (Value.ref 220) _) _ _ _); k_dflt (refine fn_use (law_round_c _ _ _ _ _ _ _ _ _) (by k_asm) (by k_asm) (by k_asm) (by k_asm) (by k_asm) (by first | exact rfl | assumption) (by tm_at "pre") (by ktr_room) (by ktr_units) ?_; tm_at "got"))
  trivial
def rlV (ns : List Int) (i : Int) : Int := pick ns i (2 * tenp 16)
def rlW (ns : List Int) (i top : Int) : Int := pick ns (i + 1) (2 * top + 1)
def rlR (ns : List Int) (i d : Int) : Int := ((pick ns i (2 * tenp 16)).fdiv 2 + 7).fmod (tenp d)
def rl (ns : List Int) (i d top : Int) : Int × Int := if rlR ns i d = 0 then (0, 0)
  else ((1 - 2 * (rlV ns i).fmod 2) * (strip (rlR ns i d) 0).1, (if (rlW ns i top).fmod 2 = 1 then (rlW ns i top + 1).fdiv 2 else -(rlW ns i top).fdiv 2) - (nd (strip (rlR ns i d) 0).1.natAbs : Int) + 1)
theorem log_small {n : Int} (h : n.natAbs ≤ 10 ^ 20) : n.natAbs.log2 < 9000 := by
  rcases Nat.eq_zero_or_pos n.natAbs with h0 | h0
  · rw [h0]; decide
  · rw [Nat.log2_lt (by lia)]
    exact Nat.lt_of_le_of_lt h (by decide +kernel)
theorem rl_zero {ns : List Int} {i d top : Int} (h : rlR ns i d = 0) : pr 0 0 = dP (rl ns i d top) := by unfold rl; rw [if_pos h]
theorem rl_odd {ns : List Int} {i d top : Int} (h : rlR ns i d ≠ 0) (hw : (rlW ns i top).fmod 2 = 1) :
    pr ((1 - 2 * (rlV ns i).fmod 2) * (strip (rlR ns i d) 0).1) ((rlW ns i top + 1).fdiv 2 - (nd (strip (rlR ns i d) 0).1.natAbs : Int) + 1) = dP (rl ns i d top) := by unfold rl; rw [if_neg h, if_pos hw]
theorem rl_even {ns : List Int} {i d top : Int} (h : rlR ns i d ≠ 0) (hw : (rlW ns i top).fmod 2 ≠ 1) :
    pr ((1 - 2 * (rlV ns i).fmod 2) * (strip (rlR ns i d) 0).1) (-(rlW ns i top).fdiv 2 - (nd (strip (rlR ns i d) 0).1.natAbs : Int) + 1) = dP (rl ns i d top) := by unfold rl; rw [if_neg h, if_neg hw]
theorem ten7 {d : Int} (h0 : 0 ≤ d) (h : d ≤ 7) : tenp d ≤ 10000000 := by
  have := ten_mono (p := d) (q := 7) h0 h
  have e7 : tenp 7 = 10000000 := by rw [tenp_eq]; rfl
  lia
theorem rlR_in (ns : List Int) (i : Int) {d : Int} (h0 : 0 ≤ d) (h : d ≤ 7) : 0 ≤ rlR ns i d ∧ rlR ns i d ≤ 10000000 ∧ rlR ns i d < tenp d := by
  have h1 := ten7 h0 h
  have h2 := tenp_pos d
  unfold rlR
  rw [Int.fmod_eq_emod_of_nonneg _ (Int.le_of_lt h2)]
  have := Int.emod_nonneg ((pick ns i (2 * tenp 16)).fdiv 2 + 7) (Int.ne_of_gt h2)
  have := Int.emod_lt_of_pos ((pick ns i (2 * tenp 16)).fdiv 2 + 7) h2
  lia
theorem sgn2 (v : Int) : (1 - 2 * v.fmod 2 = 1) ∨ (1 - 2 * v.fmod 2 = -1) := by
  rw [Int.fmod_eq_emod_of_nonneg _ (by lia)]
  lia
set_option maxHeartbeats 8000000 in
theorem law_real_c (w : World) (a1 : Addr) (ns : List Int) (i d0 top : Int) (t0 t1 t2 : Tok) : Fn w 227 [.ref a1, .int i t0, .int d0 t1, .int top t2] 2
    (fun l => Br w l (.ref a1) (dL ns) ∧ ns.length ≤ 100 ∧ (0 ≤ i ∧ i ≤ 50) ∧ (1 ≤ d0 ∧ d0 ≤ 7) ∧ 3 ≤ top ∧ top ≤ 100) (some (dP (rl ns i d0 top))) := by
  unfold Fn
  intro p loose mean mg mb dp un gd cn cs a' ccd cl outer A₀ base h₀ L m news s Q E B F X N T hk hpre hroom hun hret hexc
  refine wpAny_call ?_
  k_dflt ktr_enter
  (obtain ⟨hb1, hx0, ⟨hi1, hi2⟩, ⟨hd1, hd2⟩, ht1, ht2⟩ := hpre)
  (have e16 : tenp 16 = 10000000000000000 := by rw [tenp_eq]; rfl)
  (have q1 : 0 < 2 * tenp 16 := (by omega); have q2 : (2 * tenp 16).natAbs.log2 < 9000 := log_small (by omega); have q3 : (2 * top + 1).natAbs.log2 < 9000 := log_small (by omega))
  clear e16
  (have q4 := Int.ne_of_gt (tenp_pos d0))
  (obtain ⟨r1, r2, r3⟩ := rlR_in ns i (by omega : 0 ≤ d0) hd2)
  (have hs := sgn2 (rlV ns i))
  clear r3
  unfold rlR at r1 r2
  unfold rlV at hs
  rcases (by unfold rlR; omega : rlR ns i d0 = 0 ∨ 0 < rlR ns i d0) with hr | hr
  all_goals unfold rlR at hr
  all_goals k_steps
  all_goals (first
    | (exfalso; exact Bool.false_ne_true ((txt_ne (strip_in (by assumption) 0).1).symm.trans (by assumption)))
    | (tm_at "back"; first | exact rl_zero (by assumption) | exact rl_odd (Int.ne_of_gt (by assumption)) (by assumption) | exact rl_even (Int.ne_of_gt (by assumption)) (by assumption)))
theorem lay_25 : True := by
  (k_with "my call ref" => k_here; (with_reducible show wpAny _ _ (call (Value.ref 227) _) _ _ _); k_dflt (refine fn_use (law_real_c _ _ _ _ _ _ _ _) (by k_asm) (by k_asm) (by k_asm) (by k_asm) (by k_asm) (by first | exact rfl | assumption) (by tm_at "pre") (by ktr_room) (by ktr_units) ?_; tm_at "got"))
  (k_with "my call ref" => k_here; (with_reducible show wpAny _ _ (call (Value.ref 220) _) _ _ _); k_dflt ((first | (refine fn_use (law_round_n _ _ _ _ _ _ _ _ _ (by assumption)) (by k_asm) (by k_asm) (by k_asm) (by k_asm) (by k_asm) (by first | exact rfl | assumption) (by tm_at "pre") (by ktr_room) (by ktr_units) ?_) | (refine fn_use (law_round_s _ _ _ _ _ _ _ _ _ (by assumption)) (by k_asm) (by k_asm) (by k_asm) (by k_asm) (by k_asm) (by first | exact rfl | assumption) (by tm_at "pre") (by ktr_room) (by ktr_units) ?_)); tm_at "got"))
  (k_with "tm br" => first | (apply br_lnil; first | exact List.Mem.head _ | k_mem) | fail "no")
  (k_with "tm okd" => first | rfl | decide)
  (k_with "my compareOp In none ref" => k_here; k_dflt (refine br_isIn (by k_asm) (by k_asm) (by k_asm) (by tm_at "br") (fun _ h' => h') (by intro d' hd'; (simp only [List.mem_cons, List.not_mem_nil, or_false, List.mem_singleton] at hd'); (rcases hd' with hd' | hd' <;> subst hd' <;> rfl)) (by ktr_units) (by first | exact (rfl : _ = true) | exact (rfl : _ = false)) ?_))
  trivial
theorem law_round_n (w : World) (a0 b0 d0 top : Int) (t0 t1 t2 t3 : Tok) (h : lround a0 b0 d0 top = none) : Fn w 220 [.int a0 t0, .int b0 t1, .int d0 t2, .int top t3] 1
    (fun _ => 0 < b0 ∧ nd a0.natAbs ≤ 2700 ∧ nd b0.natAbs ≤ 2700 ∧ 1 ≤ d0 ∧ d0 ≤ 7) (some Dat.none) := by
  have := law_round_c w a0 b0 d0 top t0 t1 t2 t3
  rw [h] at this
  exact this
theorem law_round_s (w : World) (a0 b0 d0 top : Int) (t0 t1 t2 t3 : Tok) {r : Int × Int} (h : lround a0 b0 d0 top = some r) : Fn w 220 [.int a0 t0, .int b0 t1, .int d0 t2, .int top t3] 1
    (fun _ => 0 < b0 ∧ nd a0.natAbs ≤ 2700 ∧ nd b0.natAbs ≤ 2700 ∧ 1 ≤ d0 ∧ d0 ≤ 7) (some (dP r)) := by
  have := law_round_c w a0 b0 d0 top t0 t1 t2 t3
  rw [h] at this
  exact this
theorem br_lnil {w : World} {news : Led} {a : Addr} {n : Nat} (h : (a, W.listOf #[] n) ∈ news) : Br w news (.ref a) (.list []) := .list (vs := []) (.inl h) .nil
theorem br_ints {w : World} {news : Led} {a : Addr} {vs : List Value} {ns : List Int} {n : Nat} (hm : (a, W.listOf vs.toArray n) ∈ news) (hi : IntsAre vs ns) : Br w news (.ref a) (dL ns) := by
  refine .list (.inl hm) ?_
  clear hm
  induction hi with
  | nil => exact .nil
  | cons _ _ _ ih => exact .cons (.int _ _) ih
section
variable {w : World} {A : Around} {E : Value → Shared → Prop} {s : Shared} {h₀ : Heap} {L : Addr} {m : Str → Option Value} {news n₀ n₁ : Led} {a : Addr} {v v' : Value} {d e : Dat} {ds : List Dat} {Q : Value → Shared → Prop}
theorem shaped_of {d : Dat} (h : kqdOk 9 d = true) : SeqAt.shaped (kqdP d) = true := by
  have l := kqd_lay 9 d h
  unfold SeqAt.shaped
  rw [l.1, Bool.true_and]
  exact decide_eq_true (Nat.le_trans l.2 (by decide))
theorem br_eq {r : Bool} (F : Fr h₀ L s.heap m) (X : (hd.heap_1 w.params).In h₀) (N : News h₀ L s.heap news) (hb : Br w n₀ v d) (hs : ∀ p ∈ n₀, p ∈ news) (hb' : Br w n₁ v' e) (hs' : ∀ p ∈ n₁, p ∈ news)
    (hd : SeqAt.shaped (kqdP d) = true) (he : SeqAt.shaped (kqdP e) = true) (hu : A.units + 64 < cLine) (hr : PyData.eqv (kqdP d) (kqdP e) = r) (h : Q (.bool r) s) : wpAny (model prg w) A (compareOp .Eq v v') Q E s := by
  obtain ⟨_, r1⟩ := (hb.up hs).reads F X N
  obtain ⟨_, r2⟩ := (hb'.up hs').reads F X N
  exact eq_dataH r1 r2 hd he hu (by rw [hr]; exact h)
theorem br_ne {r : Bool} (F : Fr h₀ L s.heap m) (X : (hd.heap_1 w.params).In h₀) (N : News h₀ L s.heap news) (hb : Br w n₀ v d) (hs : ∀ p ∈ n₀, p ∈ news) (hb' : Br w n₁ v' e) (hs' : ∀ p ∈ n₁, p ∈ news)
    (hd : SeqAt.shaped (kqdP d) = true) (he : SeqAt.shaped (kqdP e) = true) (hu : A.units + 64 < cLine) (hr : (!PyData.eqv (kqdP d) (kqdP e)) = r) (h : Q (.bool r) s) : wpAny (model prg w) A (compareOp .NotEq v v') Q E s := by
  obtain ⟨_, r1⟩ := (hb.up hs).reads F X N
  obtain ⟨_, r2⟩ := (hb'.up hs').reads F X N
  exact ne_dataH r1 r2 hd he hu (by rw [hr]; exact h)
theorem eqv_yes (hd : kqdOk 9 d = true) (h : d = e) : PyData.eqv (kqdP d) (kqdP e) = true := by
  subst h; exact (kqd_eqv 9 d d 9 hd hd).mpr rfl
theorem eqv_is [Decidable (d = e)] (hd : kqdOk 9 d = true) (he : kqdOk 9 e = true) : PyData.eqv (kqdP d) (kqdP e) = decide (d = e) := by
  by_cases h : d = e
  · rw [decide_eq_true h]; exact eqv_yes hd h
  · rw [decide_eq_false h]; exact Bool.eq_false_iff.mpr fun x => h ((kqd_eqv 9 d e 9 hd he).mp x)
theorem br_isIn {r : Bool} (F : Fr h₀ L s.heap m) (X : (hd.heap_1 w.params).In h₀) (N : News h₀ L s.heap news) (hb : Br w n₀ (.ref a) (.list ds)) (hs : ∀ p ∈ n₀, p ∈ news)
    (ha : ∀ d ∈ ds, kqdOk 8 d = true) (hu : A.units + 64 < cLine) (hr : ((kqdPs ds).any fun y => PyData.eqv y PyData.none) = r) (h : Q (.bool r) s) : wpAny (model prg w) A (compareOp .In .none (.ref a)) Q E s := by
  obtain ⟨_, r1⟩ := (hb.up hs).reads F X N
  rw [kqdP] at r1
  have l := kqd_layL ha
  refine SeqAt.in_list_reads r1 Reads.none l.1 rfl ?_ (by rw [hr]; exact h)
  have := Nat.min_le_right (PyData.depthAll (kqdPs ds)) (PyData.none).depth
  have e0 : (PyData.none).depth ≤ 1 := by decide
  omega
end
set_option maxHeartbeats 8000000 in
theorem law_rounded_0 (w : World) (d0 top : Int) (t0 t1 : Tok) : Fn w 262 [.none, .int d0 t0, .int top t1] 12 (fun _ => True) (some (dLC (lrounded none d0 top))) := by
  unfold Fn
  intro p loose mean mg mb dp un gd cn cs a' ccd cl outer A₀ base h₀ L m news s Q E B F X N T hk hpre hroom hun hret hexc
  refine wpAny_call ?_
  k_dflt ktr_enter
  k_steps
  tm_at "back"
  rfl
section
variable {p : I3} {d top : Int} {q r : Int × Int}
theorem lrd_n1 (h : lround p.1 p.2.2 d top = none) : Dat.list [] = dLC (lrounded (some p) d top) := by rw [lr_some, h]; rfl
theorem lrd_n2 (h : lround p.2.1 p.2.2 d top = none) : Dat.list [] = dLC (lrounded (some p) d top) := by rw [lr_some, h]; cases lround p.1 p.2.2 d top <;> rfl
theorem lrd_s (h : lround p.1 p.2.2 d top = some q) (h' : lround p.2.1 p.2.2 d top = some r) : Dat.list [.tuple [dP q, dP r]] = dLC (lrounded (some p) d top) := by rw [lr_some, h, h']; rfl
end
set_option maxHeartbeats 8000000 in
theorem law_rounded_1 (w : World) (a1 : Addr) (p0 : I3) (d0 top : Int) (t0 t1 : Tok) : Fn w 262 [.ref a1, .int d0 t0, .int top t1] 12
    (fun l => Br w l (.ref a1) (d3 p0) ∧ 0 < p0.2.2 ∧ (nd p0.1.natAbs ≤ 2700 ∧ nd p0.2.1.natAbs ≤ 2700 ∧ nd p0.2.2.natAbs ≤ 2700) ∧ 1 ≤ d0 ∧ d0 ≤ 7) (some (dLC (lrounded (some p0) d0 top))) := by
  unfold Fn
  intro p loose mean mg mb dp un gd cn cs a' ccd cl outer A₀ base h₀ L m news s Q E B F X N T hk hpre hroom hun hret hexc
  refine wpAny_call ?_
  k_dflt ktr_enter
  (obtain ⟨hb1, hp, ⟨x1, x2, x3⟩, hd1, hd2⟩ := hpre)
  rcases h1 : lround p0.1 p0.2.2 d0 top with _ | r1
  all_goals rcases h2 : lround p0.2.1 p0.2.2 d0 top with _ | r2
  all_goals k_steps
  all_goals (tm_at "back"; first | exact lrd_n1 (by assumption) | exact lrd_n2 (by assumption) | exact lrd_s (by assumption) (by assumption))
theorem lay_26 : True := by
  (k_with "my call ref" => k_here; (with_reducible show wpAny _ _ (call (Value.ref 262) _) _ _ _); k_dflt (refine fn_use (law_rounded_0 _ _ _ _) (by k_asm) (by k_asm) (by k_asm) (by k_asm) (by k_asm) (by first | exact rfl | assumption) (by tm_at "pre") (by ktr_room) (by ktr_units) ?_; tm_at "got"))
  (k_with "my call ref" => k_here; (with_reducible show wpAny _ _ (call (Value.ref 262) _) _ _ _); k_dflt (refine fn_use (law_rounded_1 _ _ _ _ _ _) (by k_asm) (by k_asm) (by k_asm) (by k_asm) (by k_asm) (by first | exact rfl | assumption) (by tm_at "pre") (by ktr_room) (by ktr_units) ?_; tm_at "got"))
  trivial
abbrev ent (w : World) (x : Str) (t : Tok) (v : Value) : DictEntry := { hash := PyData.keyHash w.params x, key := .str x t, val := v }
abbrev limEs (w : World) (k0 k1 k2 k3 k4 k5 k6 k7 t0 t1 t2 t3 t4 t5 t6 t7 : Tok) (d top : Int) : List DictEntry :=
  [ent w (Str.ofString "width") k0 (.int 32 t0), ent w (Str.ofString "real_digits") k1 (.int d t1), ent w (Str.ofString "double_digits") k2 (.int 15 t2), ent w (Str.ofString "top_exponent") k3 (.int top t3),
   ent w (Str.ofString "steps") k4 (.int 1000000 t4), ent w (Str.ofString "continuations") k5 (.int 19 t5), ent w (Str.ofString "columns") k6 (.int 72 t6), ent w (Str.ofString "depth") k7 (.int 40 t7)]
structure LimAt (w : World) (news : Led) (x : Addr) (d top : Int) : Prop where
  at_ : ∃ D k0 k1 k2 k3 k4 k5 k6 k7 t0 t1 t2 t3 t4 t5 t6 t7 n, (x, instObj 201 D) ∈ news ∧ (D, dictOf (limEs w k0 k1 k2 k3 k4 k5 k6 k7 t0 t1 t2 t3 t4 t5 t6 t7 d top) n) ∈ news
theorem LimAt.up {w : World} {news news' : Led} {x : Addr} {d top : Int} (h : LimAt w news x d top) (hs : ∀ p ∈ news, p ∈ news') : LimAt w news' x d top := by
  obtain ⟨D, k0, k1, k2, k3, k4, k5, k6, k7, t0, t1, t2, t3, t4, t5, t6, t7, n, h1, h2⟩ := h.at_
  exact ⟨D, k0, k1, k2, k3, k4, k5, k6, k7, t0, t1, t2, t3, t4, t5, t6, t7, n, hs _ h1, hs _ h2⟩
theorem eqv_c2 (X Y : C2) : PyData.eqv (kqdP (dC X)) (kqdP (dC Y)) = decide (X = Y) := by
  by_cases h : X = Y
  · rw [decide_eq_true h]; exact eqv_yes rfl (by rw [h])
  · rw [decide_eq_false h]
    refine Bool.eq_false_iff.mpr fun x => h ?_
    have := (kqd_eqv 9 (dC X) (dC Y) 9 rfl rfl).mp x
    obtain ⟨⟨a, b⟩, c, d⟩ := X
    obtain ⟨⟨a', b'⟩, c', d'⟩ := Y
    simp at this
    simp [this]
theorem not_c2 (X Y : C2) : (!PyData.eqv (kqdP (dC X)) (kqdP (dC Y))) = decide (X ≠ Y) := by
  rw [eqv_c2]; simp
theorem shp_c2 (X : C2) : SeqAt.shaped (kqdP (dC X)) = true := shaped_of rfl
theorem lay_27 : True := by
  (k_with "my compareOp Eq ref ref" => k_here; k_dflt (refine br_eq (d := dC _) (e := dC _) (by k_asm) (by k_asm) (by k_asm) (by assumption) (by tm_at "sub") (by assumption) (by tm_at "sub") (shp_c2 _) (shp_c2 _) (by ktr_units) (eqv_c2 _ _) ?_))
  (k_with "my compareOp NotEq ref ref" => k_here; k_dflt (refine br_ne (d := dC _) (e := dC _) (by k_asm) (by k_asm) (by k_asm) (by assumption) (by tm_at "sub") (by assumption) (by tm_at "sub") (shp_c2 _) (shp_c2 _) (by ktr_units) (not_c2 _ _) ?_))
  (k_with "tm ends" => all_goals (first | (tm_at "backE"; first | rfl | exact o_none (by assumption)) | (tm_at "backO"; first | rfl | exact o_some (by assumption))))
  trivial

set_option maxHeartbeats 8000000 in
theorem bin_add (w : World) (a1 a2 al : Addr) (a e b f c g d h d0 top : Int) (t0 t1 : Tok) : Fn w 183 [.str "add" t0, .int 3 t1, .ref a1, .ref a2, .ref al] 20
    (fun n => (Br w n (.ref a1) (cx a e b f) ∧ Br w n (.ref a2) (cx c g d h)) ∧ LimAt w n al d0 top ∧ (Sm a e ∧ Sm b f ∧ Sm c g ∧ Sm d h) ∧ 0 ≤ d0) ((cadd a e b f c g d h d0 top).map dC) := by
  unfold Fn
  intro p loose mean mg mb dp un gd cn cs a' ccd cl outer A₀ base h₀ L m news s Q E B F X N T hk hpre hroom hun hret hexc
  refine wpAny_call ?_
  k_dflt ktr_enter
  (obtain ⟨⟨hb1, hb2⟩, hL, ⟨hs1, hs2, hs3, hs4⟩, hx3⟩ := hpre)
  (obtain ⟨D, k0, k1, k2, k3, k4, k5, k6, k7, u0, u1, u2, u3, u4, u5, u6, u7, nn, hm1, hm2⟩ := hL.at_)
  k_steps
  tm_at "ends"
set_option maxHeartbeats 8000000 in
theorem bin_sub (w : World) (a1 a2 al : Addr) (a e b f c g d h d0 top : Int) (t0 t1 : Tok) : Fn w 183 [.str "sub" t0, .int 3 t1, .ref a1, .ref a2, .ref al] 20
    (fun n => (Br w n (.ref a1) (cx a e b f) ∧ Br w n (.ref a2) (cx c g d h)) ∧ LimAt w n al d0 top ∧ (Sm a e ∧ Sm b f ∧ Sm c g ∧ Sm d h) ∧ 0 ≤ d0) ((csub a e b f c g d h d0 top).map dC) := by
  unfold Fn
  intro p loose mean mg mb dp un gd cn cs a' ccd cl outer A₀ base h₀ L m news s Q E B F X N T hk hpre hroom hun hret hexc
  refine wpAny_call ?_
  k_dflt ktr_enter
  (obtain ⟨⟨hb1, hb2⟩, hL, ⟨hs1, hs2, hs3, hs4⟩, hx3⟩ := hpre)
  (obtain ⟨D, k0, k1, k2, k3, k4, k5, k6, k7, u0, u1, u2, u3, u4, u5, u6, u7, nn, hm1, hm2⟩ := hL.at_)
  k_steps
  tm_at "ends"
set_option maxHeartbeats 8000000 in
theorem bin_mul (w : World) (a1 a2 al : Addr) (a e b f c g d h d0 top : Int) (t0 t1 : Tok) : Fn w 183 [.str "mul" t0, .int 3 t1, .ref a1, .ref a2, .ref al] 20
    (fun n => (Br w n (.ref a1) (cx a e b f) ∧ Br w n (.ref a2) (cx c g d h)) ∧ LimAt w n al d0 top ∧ (Sm a e ∧ Sm b f ∧ Sm c g ∧ Sm d h) ∧ 0 ≤ d0) ((cmul a e b f c g d h d0 top).map dC) := by
  unfold Fn
  intro p loose mean mg mb dp un gd cn cs a' ccd cl outer A₀ base h₀ L m news s Q E B F X N T hk hpre hroom hun hret hexc
  refine wpAny_call ?_
  k_dflt ktr_enter
  (obtain ⟨⟨hb1, hb2⟩, hL, ⟨hs1, hs2, hs3, hs4⟩, hx3⟩ := hpre)
  (obtain ⟨D, k0, k1, k2, k3, k4, k5, k6, k7, u0, u1, u2, u3, u4, u5, u6, u7, nn, hm1, hm2⟩ := hL.at_)
  k_steps
  tm_at "ends"
set_option maxHeartbeats 8000000 in
theorem bin_div (w : World) (a1 a2 al : Addr) (a e b f c g d h d0 top : Int) (t0 t1 : Tok) : Fn w 183 [.str "div" t0, .int 3 t1, .ref a1, .ref a2, .ref al] 20
    (fun n => (Br w n (.ref a1) (cx a e b f) ∧ Br w n (.ref a2) (cx c g d h)) ∧ LimAt w n al d0 top ∧ DivOk a e b f c g d h ∧ 0 ≤ d0 ∧ d0 ≤ 100) ((cdiv a e b f c g d h d0 top).map dC) := by
  unfold Fn
  intro p loose mean mg mb dp un gd cn cs a' ccd cl outer A₀ base h₀ L m news s Q E B F X N T hk hpre hroom hun hret hexc
  refine wpAny_call ?_
  k_dflt ktr_enter
  (obtain ⟨⟨hb1, hb2⟩, hL, hD, hx3, hx4⟩ := hpre)
  (obtain ⟨D, k0, k1, k2, k3, k4, k5, k6, k7, u0, u1, u2, u3, u4, u5, u6, u7, nn, hm1, hm2⟩ := hL.at_)
  k_steps
  tm_at "ends"
set_option maxHeartbeats 8000000 in
theorem bin_powi (w : World) (a1 al : Addr) (a e b f n0 d0 top : Int) (t0 t1 t2 : Tok) : Fn w 183 [.str "powi" t0, .int 3 t1, .ref a1, .int n0 t2, .ref al] 20
    (fun n => Br w n (.ref a1) (cx a e b f) ∧ LimAt w n al d0 top ∧ (Sx a e ∧ Sx b f) ∧ (-16 ≤ n0 ∧ n0 ≤ 16) ∧ 0 ≤ d0 ∧ d0 ≤ 100) ((cpower a e b f n0 d0 top).map dC) := by
  unfold Fn
  intro p loose mean mg mb dp un gd cn cs a' ccd cl outer A₀ base h₀ L m news s Q E B F X N T hk hpre hroom hun hret hexc
  refine wpAny_call ?_
  k_dflt ktr_enter
  (obtain ⟨hb1, hL, ⟨hs1, hs2⟩, ⟨hx1, hx2⟩, hx3, hx4⟩ := hpre)
  (obtain ⟨D, k0, k1, k2, k3, k4, k5, k6, k7, u0, u1, u2, u3, u4, u5, u6, u7, nn, hm1, hm2⟩ := hL.at_)
  k_steps
  tm_at "ends"
set_option maxHeartbeats 8000000 in
theorem bin_eq (w : World) (a1 a2 al : Addr) (X0 Y0 : C2) (d0 top : Int) (t0 t1 : Tok) : Fn w 183 [.str "eq" t0, .int 3 t1, .ref a1, .ref a2, .ref al] 20
    (fun n => (Br w n (.ref a1) (dC X0) ∧ Br w n (.ref a2) (dC Y0)) ∧ LimAt w n al d0 top) (some (.bool (decide (X0 = Y0)))) := by
  unfold Fn
  intro p loose mean mg mb dp un gd cn cs a' ccd cl outer A₀ base h₀ L m news s Q E B F X N T hk hpre hroom hun hret hexc
  refine wpAny_call ?_
  k_dflt ktr_enter
  (obtain ⟨⟨hb1, hb2⟩, hL⟩ := hpre)
  (obtain ⟨D, k0, k1, k2, k3, k4, k5, k6, k7, u0, u1, u2, u3, u4, u5, u6, u7, nn, hm1, hm2⟩ := hL.at_)
  k_steps
  tm_at "ends"
set_option maxHeartbeats 8000000 in
theorem bin_ne (w : World) (a1 a2 al : Addr) (X0 Y0 : C2) (d0 top : Int) (t0 t1 : Tok) : Fn w 183 [.str "ne" t0, .int 3 t1, .ref a1, .ref a2, .ref al] 20
    (fun n => (Br w n (.ref a1) (dC X0) ∧ Br w n (.ref a2) (dC Y0)) ∧ LimAt w n al d0 top) (some (.bool (decide (X0 ≠ Y0)))) := by
  unfold Fn
  intro p loose mean mg mb dp un gd cn cs a' ccd cl outer A₀ base h₀ L m news s Q E B F X N T hk hpre hroom hun hret hexc
  refine wpAny_call ?_
  k_dflt ktr_enter
  (obtain ⟨⟨hb1, hb2⟩, hL⟩ := hpre)
  (obtain ⟨D, k0, k1, k2, k3, k4, k5, k6, k7, u0, u1, u2, u3, u4, u5, u6, u7, nn, hm1, hm2⟩ := hL.at_)
  k_steps
  tm_at "ends"
set_option maxHeartbeats 8000000 in
theorem bin_lt (w : World) (a1 a2 al : Addr) (X0 Y0 : C2) (d0 top : Int) (t0 t1 : Tok) : Fn w 183 [.str "lt" t0, .int 3 t1, .ref a1, .ref a2, .ref al] 20
    (fun n => (Br w n (.ref a1) (dC X0) ∧ Br w n (.ref a2) (dC Y0)) ∧ LimAt w n al d0 top) none := by
  unfold Fn
  intro p loose mean mg mb dp un gd cn cs a' ccd cl outer A₀ base h₀ L m news s Q E B F X N T hk hpre hroom hun hret hexc
  refine wpAny_call ?_
  k_dflt ktr_enter
  (obtain ⟨⟨hb1, hb2⟩, hL⟩ := hpre)
  (obtain ⟨D, k0, k1, k2, k3, k4, k5, k6, k7, u0, u1, u2, u3, u4, u5, u6, u7, nn, hm1, hm2⟩ := hL.at_)
  k_steps
  tm_at "ends"
theorem lay_28 : True := by
  (k_with "my call ref" => k_here; (with_reducible show wpAny _ _ (call (Value.ref 183) _) _ _ _); k_dflt (refine fn_useE (bin_add _ _ _ _ _ _ _ _ _ _ _ _ _ _ _ _) (by k_asm) (by k_asm) (by k_asm) (by k_asm) (by k_asm) (by first | exact rfl | assumption) (by tm_at "pre") (by ktr_room) (by ktr_units) ?_ ?_; tm_at "gotE"))
  trivial
/-- a contract of a def that catches: called from a frame that stands on no other -/
def FnT (w : World) (f : Addr) (vs : List Value) (room : Nat) (Pre : Led → Prop) (d : Dat) : Prop :=
  ∀ (p : Program) (loose : List Str) (mean : ExcName → Option Value) (mg mb : Str → Option Value)
    (dp un : Nat) (gd : Option (List Code)) (cn : Str) (cs : Scope) (a : Addr) (ccd : Value) (A₀ : Around) (base h₀ : Heap) (L : Addr) (m : Str → Option Value) (news : Led) (s : Shared)
    (Q E : Value → Shared → Prop),
    Below A₀ base [] h₀ → (hd.heap_1 w.params).In base → Top p loose mean mg mb base → Fr h₀ L s.heap m → (hd.heap_1 w.params).In h₀ → News h₀ L s.heap news → Top p loose mean mg mb h₀ → cs.kind = .function → Pre news → dp + room < recursionLimit → un + 8 * room < cLine →
    (∀ r news' h' tk', Fr h₀ L h' m → News h₀ L h' news' → (∀ q ∈ news, q ∈ news') → Br w news' r d → Q r { s with heap := h', toks := tk' }) →
    wpAny (model prg w) (ktrTop dp un gd cn cs L a ccd [] []) (call (.ref f) vs) Q E s
theorem Br.str_inv {w : World} {news : Led} {v : Value} {x : Str} (h : Br w news v (.str x)) : ∃ t, v = .str x t := by cases h; exact ⟨_, rfl⟩
def oD (o : Option Dat) : List Dat := match o with | none => [] | some d => [d]
abbrev dNs : List Dat := [.str "add", .str "sub", .str "mul", .str "div", .str "powi", .str "eq", .str "ne", .str "lt"]
theorem br_eqY {w : World} {A : Around} {E : Value → Shared → Prop} {s : Shared} {h₀ : Heap} {L : Addr} {m : Str → Option Value} {news n₀ n₁ : Led} {v v' : Value} {d : Dat} {Q : Value → Shared → Prop} (F : Fr h₀ L s.heap m) (X : (hd.heap_1 w.params).In h₀) (N : News h₀ L s.heap news)
    (hb : Br w n₀ v d) (hs : ∀ p ∈ n₀, p ∈ news) (hb' : Br w n₁ v' d) (hs' : ∀ p ∈ n₁, p ∈ news) (hd : kqdOk 9 d = true) (hu : A.units + 64 < cLine) (h : Q (.bool true) s) : wpAny (model prg w) A (compareOp .Eq v v') Q E s :=
  br_eq F X N hb hs hb' hs' (shaped_of hd) (shaped_of hd) hu (eqv_yes hd rfl) h
theorem lay_29 : True := by
  (k_with "my compareOp Eq ref ref" => k_here; k_dflt (refine br_eqY (by k_asm) (by k_asm) (by k_asm) (by assumption) (by tm_at "sub") (by tm_at "br") (fun _ h' => h') (by assumption) (by ktr_units) ?_))
  (k_with "my subscriptTail" => k_here; (with_reducible show wpAny _ _ (subscriptTail _ _ (Value.ref _) (Value.int _ _)) _ _ _); (with_unfolding_all refine br_itemL (ds := dNs) (by k_asm) (by k_asm) (by k_asm) (by assumption) (by tm_at "sub") (by omega) (by omega) (by assumption) ?_ (by with_unfolding_all rfl)); intro v' hb'; (obtain ⟨t', e'⟩ := Br.str_inv hb'; subst e'; clear hb'); (try dsimp only))
  (k_with "my call ref" => k_here; (with_reducible show wpAny _ _ (call (Value.ref 183) _) _ _ _); (rename ∀ t0 t1 : Tok, Fn _ 183 _ _ _ _ => cX); k_dflt (refine fn_useE (cX _ _) (by k_asm) (by k_asm) (by k_asm) (by k_asm) (by k_asm) (by first | exact rfl | assumption) (by tm_at "pre") (by ktr_room) (by ktr_units) ?_ ?_; tm_at "gotX"))
  (k_with "tm gotX" => all_goals (first | (intro d' e' r' n' h' tk' F' N' hs' hb'; subst e'; (try k_sweep); (try dsimp only); (try k_fold)) | (intro e' x' t' ws' G' h' tk' F' R' U'; subst e'; (try dsimp only at U' R' ⊢))))
  trivial

set_option maxHeartbeats 8000000 in
theorem heard_s3 {w : World} {k : Int} {x : Str} {va vb : Value} {nm fl al : Addr} {tk0 : Tok} {od : Option Dat} {Pre : Led → Prop} {m₀ : Str → Option Value}
    {p : Program} {loose : List Str} {mean : ExcName → Option Value} {mg mb : Str → Option Value}
    {dp un : Nat} {gd : Option (List Code)} {cn : Str} {cs : Scope} {a : Addr} {ccd : Value} {base g : Heap} {L L₁ : Addr} {news : Led} {s : Shared}
    {Q : Flow → Shared → Prop} {E1 : Value → Shared → Prop} {env : Env} (he : env = envOf "_law_heard" (scopeOf w 234) L 234 (.ref 233))
    (hB : Below (ktrTop dp un gd cn cs L₁ a ccd [] []) base [envX cn cs L₁ a ccd []] g) (XB : (hd.heap_1 w.params).In base) (TB : Top p loose mean mg mb base) (hD : KtsDicts ([envOf cn cs L₁ a ccd].filterMap (·.frame)) g)
    (F : Fr g L s.heap (fun z => if z = "op" then some (.int k tk0) else if z = "x" then some va else if z = "y" then some vb else if z = "limits" then some (.ref al) else if z = "names" then some (.ref nm) else if z = "found" then some (.ref fl) else m₀ z))
    (X : (hd.heap_1 w.params).In g) (N : News g L s.heap news) (T : Top p loose mean mg mb g)
    (hroom : dp + 24 < recursionLimit) (hun : un + 8 * 24 < cLine)
    (C : ∀ t0 t1, Fn w 183 [.str x t0, .int 3 t1, va, vb, .ref al] 20 Pre od) (hPre : Pre news)
    (hk : 0 ≤ k ∧ k < 8) (hx : dNs[k.toNat]? = some (.str x)) (hbn : Br w news (.ref nm) (.list dNs)) (hbf : 4 < k ∨ (Br w news (.ref fl) (.list (oD od)) ∧ kqdOk 9 (.list (oD od)) = true))
    (hret : ∀ v m' g' news' h' tk', KtsTurn ([envOf cn cs L₁ a ccd].filterMap (·.frame)) g g' → Fr g' L h' m' → News g' L h' news' → (∀ q ∈ news, q ∈ news') → Br w news' v (.list (oD od)) → Q (.ret v) { s with heap := h', toks := tk' }) :
    wpAny (model prg w) ((ktrTop dp un gd cn cs L₁ a ccd [] []).deeper env) (execs ((bodyOf w 234).drop 3) env) Q
      (fun e s' => wpAny (model prg w) ((ktrTop dp un gd cn cs L₁ a ccd [] []).deeper env) (leaving env e) (fun _ s'' => E1 e s'') (fun e' s'' => E1 e' s'') s') s := by
  subst he
  (obtain ⟨sc, hsc⟩ : ∃ sc, scopeOf w 234 = sc := ⟨_, rfl⟩)
  rw [hsc]
  (change Scope.mk _ _ _ _ _ = sc at hsc)
  subst hsc
  (show wpAny _ _ (execs (List.cons _ _) _) _ _ _)
  (obtain ⟨hk0, hk1⟩ := hk)
  rcases hbf with hbf | ⟨hbf, hok⟩
  all_goals k_steps
  all_goals (try dsimp only)
  all_goals (refine' hret _ _ _ _ _ _ ?t ?k1 ?k2 ?k3 ?k4; (case k1 => k_asm); (case k2 => k_asm); (case t => first | exact KtsTurn.refl | assumption); (case k3 => tm_at "sub"); (case k4 => tm_at "br"))
theorem heard_s3b {w : World} {k : Int} {x : Str} {va vb : Value} {nm fl al : Addr} {tk0 : Tok} {od : Option Dat} {Pre : Led → Prop} {m₀ : Str → Option Value}
    {p : Program} {loose : List Str} {mean : ExcName → Option Value} {mg mb : Str → Option Value}
    {dp un : Nat} {gd : Option (List Code)} {cn : Str} {cs : Scope} {a : Addr} {ccd : Value} {base g : Heap} {L L₁ : Addr} {news : Led} {s : Shared}
    {Q : Flow → Shared → Prop} {E1 : Value → Shared → Prop} {env : Env} {body : List Stmt} (hq : body = (bodyOf w 234).drop 3) (he : env = envOf "_law_heard" (scopeOf w 234) L 234 (.ref 233))
    (hB : Below (ktrTop dp un gd cn cs L₁ a ccd [] []) base [envX cn cs L₁ a ccd []] g) (XB : (hd.heap_1 w.params).In base) (TB : Top p loose mean mg mb base) (hD : KtsDicts ([envOf cn cs L₁ a ccd].filterMap (·.frame)) g)
    (F : Fr g L s.heap (fun z => if z = "op" then some (.int k tk0) else if z = "x" then some va else if z = "y" then some vb else if z = "limits" then some (.ref al) else if z = "names" then some (.ref nm) else if z = "found" then some (.ref fl) else m₀ z))
    (X : (hd.heap_1 w.params).In g) (N : News g L s.heap news) (T : Top p loose mean mg mb g)
    (hroom : dp + 24 < recursionLimit) (hun : un + 8 * 24 < cLine)
    (C : ∀ t0 t1, Fn w 183 [.str x t0, .int 3 t1, va, vb, .ref al] 20 Pre od) (hPre : Pre news)
    (hk : 0 ≤ k ∧ k < 8) (hx : dNs[k.toNat]? = some (.str x)) (hbn : Br w news (.ref nm) (.list dNs)) (hbf : 4 < k ∨ (Br w news (.ref fl) (.list (oD od)) ∧ kqdOk 9 (.list (oD od)) = true))
    (hret : ∀ v m' g' news' h' tk', KtsTurn ([envOf cn cs L₁ a ccd].filterMap (·.frame)) g g' → Fr g' L h' m' → News g' L h' news' → (∀ q ∈ news, q ∈ news') → Br w news' v (.list (oD od)) → Q (.ret v) { s with heap := h', toks := tk' }) :
    wpAny (model prg w) ((ktrTop dp un gd cn cs L₁ a ccd [] []).deeper env) (execs body env) Q
      (fun e s' => wpAny (model prg w) ((ktrTop dp un gd cn cs L₁ a ccd [] []).deeper env) (leaving env e) (fun _ s'' => E1 e s'') (fun e' s'' => E1 e' s'') s') s := by
  subst hq
  exact heard_s3 he hB XB TB hD F X N T hroom hun C hPre hk hx hbn hbf hret
theorem oD_map (o : Option C2) : oD (o.map dC) = oL o := by cases o <;> rfl
theorem ok_map (o : Option C2) : kqdOk 9 (.list (oD (o.map dC))) = true := by cases o <;> rfl
theorem oD_some {o : Option C2} {p : C2} (h : o = some p) : Dat.list [dC p] = .list (oD (o.map dC)) := by rw [h]; rfl
theorem oD_none {o : Option C2} (h : o = none) : Dat.list [] = .list (oD (o.map dC)) := by rw [h]; rfl
theorem back_oL (o : Option C2) : Dat.list (oD (o.map dC)) = dLC o := by rw [oD_map]
theorem lay_30 : True := by
  (k_with "tm enterS" => refine code_defS0 (by k_asm) (by k_asm) (by k_asm) (by k_asm) (by k_asm) (by exact rfl) (by k_is) (by k_is) (by ktr_room) (by exact BindsTo.of_eq rfl) (by exact locs rfl) ?_ (by assumption) (by exact rfl) (by exact rfl) (by exact rfl) (by decide); k_whole; intro g' L' h' FG' F' N' B' X' T' D'; (try dsimp only); (try k_fold))
  (k_with "tm pre" => first | (apply LimAt.up; assumption; tm_at "sub") | fail "no")
  (k_with "tm nm" => apply Br.list; (apply Or.inl; tm_at "mem"); (repeat' (first | exact BrAll.nil | (refine BrAll.cons (Br.str _ _) ?_))))
  (k_with "tm fd" => first | (refine Or.inl ?_; decide) | (refine Or.inr ⟨Br.cast (d := .list [dC _]) ?_ (oD_some (by assumption)), ok_map _⟩; refine Br.list (Or.inl (by tm_at "mem")) (by tm_at "br")) | (refine Or.inr ⟨Br.cast (d := .list []) ?_ (oD_none (by assumption)), ok_map _⟩; refine Br.list (vs := []) (Or.inl (by tm_at "mem")) (by exact BrAll.nil)))
  (k_with "my execs cons" => k_here; (with_reducible show wpAny _ _ (execs (Stmt.Try (Stmt.Assign [Expr.Name (Str.ofString "other") _] _ _ :: _) _ _ _ _ :: _) _) _ _ _); (k_dflt (tm_at "s3")); intro v' m' g' n' h' tk' T' F' N' hs' hb'; (try dsimp only))
  (k_with "my LeaveS0" => k_dflt (refine leaveS0_ (by k_asm) (by k_asm) (by refine KtsTurn.trans (by assumption) (by assumption)) ?_; k_whole); intro kF kN; ground_anew kF; (have kX := kFor kF (by k_asm)); kts_tail)
  (k_with "tm backT" => (rename ∀ r news' h' tk', Fr _ _ _ _ → _ => hret'); refine hret' _ _ _ _ (by k_asm) (by k_asm) (by tm_at "sub") (Br.cast (by assumption) (by first | exact back_oL _ | exact rfl)))
  trivial

section
theorem lay_31 : True := by
  (k_with "tm s3" => (rename ∀ t0 t1 : Tok, Fn _ 183 _ _ _ _ => cX); refine heard_s3b (by kernel_rfl) (by exact rfl) (by k_asm) (by assumption) (by assumption) (by assumption) (by rename Fr _ _ _ _ => lF'; exact fr_put (fr_put (fr_put (fr_put (fr_put (fr_put lF' rfl) rfl) rfl) rfl) rfl) rfl) (by k_asm) (by k_asm) (by k_asm) (by assumption) (by assumption) cX (by tm_at "pre") (by decide) (by exact rfl) (by tm_at "nm") (by tm_at "fd") ?_)
  trivial

set_option maxHeartbeats 8000000 in
theorem heard_0 (w : World) (a1 a2 al : Addr) (a e b f c g d h d0 top : Int) (u0 t0 t1 : Tok) : FnT w 234 [.int 0 u0, .ref a1, .ref a2, .int d0 t0, .int top t1, .ref al] 24
    (fun n => (Br w n (.ref a1) (cx a e b f) ∧ Br w n (.ref a2) (cx c g d h)) ∧ LimAt w n al d0 top ∧ (Sm a e ∧ Sm b f ∧ Sm c g ∧ Sm d h) ∧ 0 ≤ d0) (dLC (cadd a e b f c g d h d0 top)) := by
  unfold FnT
  intro p loose mean mg mb dp un gd cn cs a' ccd A₀ base h₀ L m news s Q E B XB TB F X N T hk hpre hroom hun hret
  refine wpAny_call ?_
  k_dflt (tm_at "enterS")
  (obtain ⟨⟨hb1, hb2⟩, hL, ⟨hs1, hs2, hs3, hs4⟩, hx3⟩ := hpre)
  (have hC := fun t0 t1 => bin_add w a1 a2 al a e b f c g d h d0 top t0 t1)
  k_steps
  all_goals (tm_at "backT")
end
section

set_option maxHeartbeats 8000000 in
theorem heard_1 (w : World) (a1 a2 al : Addr) (a e b f c g d h d0 top : Int) (u0 t0 t1 : Tok) : FnT w 234 [.int 1 u0, .ref a1, .ref a2, .int d0 t0, .int top t1, .ref al] 24
    (fun n => (Br w n (.ref a1) (cx a e b f) ∧ Br w n (.ref a2) (cx c g d h)) ∧ LimAt w n al d0 top ∧ (Sm a e ∧ Sm b f ∧ Sm c g ∧ Sm d h) ∧ 0 ≤ d0) (dLC (csub a e b f c g d h d0 top)) := by
  unfold FnT
  intro p loose mean mg mb dp un gd cn cs a' ccd A₀ base h₀ L m news s Q E B XB TB F X N T hk hpre hroom hun hret
  refine wpAny_call ?_
  k_dflt (tm_at "enterS")
  (obtain ⟨⟨hb1, hb2⟩, hL, ⟨hs1, hs2, hs3, hs4⟩, hx3⟩ := hpre)
  (have hC := fun t0 t1 => bin_sub w a1 a2 al a e b f c g d h d0 top t0 t1)
  k_steps
  all_goals (tm_at "backT")
end
section

set_option maxHeartbeats 8000000 in
theorem heard_2 (w : World) (a1 a2 al : Addr) (a e b f c g d h d0 top : Int) (u0 t0 t1 : Tok) : FnT w 234 [.int 2 u0, .ref a1, .ref a2, .int d0 t0, .int top t1, .ref al] 24
    (fun n => (Br w n (.ref a1) (cx a e b f) ∧ Br w n (.ref a2) (cx c g d h)) ∧ LimAt w n al d0 top ∧ (Sm a e ∧ Sm b f ∧ Sm c g ∧ Sm d h) ∧ 0 ≤ d0) (dLC (cmul a e b f c g d h d0 top)) := by
  unfold FnT
  intro p loose mean mg mb dp un gd cn cs a' ccd A₀ base h₀ L m news s Q E B XB TB F X N T hk hpre hroom hun hret
  refine wpAny_call ?_
  k_dflt (tm_at "enterS")
  (obtain ⟨⟨hb1, hb2⟩, hL, ⟨hs1, hs2, hs3, hs4⟩, hx3⟩ := hpre)
  (have hC := fun t0 t1 => bin_mul w a1 a2 al a e b f c g d h d0 top t0 t1)
  k_steps
  all_goals (tm_at "backT")
end
section

set_option maxHeartbeats 8000000 in
theorem heard_3 (w : World) (a1 a2 al : Addr) (a e b f c g d h d0 top : Int) (u0 t0 t1 : Tok) : FnT w 234 [.int 3 u0, .ref a1, .ref a2, .int d0 t0, .int top t1, .ref al] 24
    (fun n => (Br w n (.ref a1) (cx a e b f) ∧ Br w n (.ref a2) (cx c g d h)) ∧ LimAt w n al d0 top ∧ DivOk a e b f c g d h ∧ 0 ≤ d0 ∧ d0 ≤ 100) (dLC (cdiv a e b f c g d h d0 top)) := by
  unfold FnT
  intro p loose mean mg mb dp un gd cn cs a' ccd A₀ base h₀ L m news s Q E B XB TB F X N T hk hpre hroom hun hret
  refine wpAny_call ?_
  k_dflt (tm_at "enterS")
  (obtain ⟨⟨hb1, hb2⟩, hL, hD, hx3, hx4⟩ := hpre)
  (have hC := fun t0 t1 => bin_div w a1 a2 al a e b f c g d h d0 top t0 t1)
  k_steps
  all_goals (tm_at "backT")
end
section

set_option maxHeartbeats 8000000 in
theorem heard_4 (w : World) (a1 al : Addr) (a e b f n0 d0 top : Int) (u0 t0 t1 t2 : Tok) : FnT w 234 [.int 4 u0, .ref a1, .int n0 t2, .int d0 t0, .int top t1, .ref al] 24
    (fun n => Br w n (.ref a1) (cx a e b f) ∧ LimAt w n al d0 top ∧ (Sx a e ∧ Sx b f) ∧ (-16 ≤ n0 ∧ n0 ≤ 16) ∧ 0 ≤ d0 ∧ d0 ≤ 100) (dLC (cpower a e b f n0 d0 top)) := by
  unfold FnT
  intro p loose mean mg mb dp un gd cn cs a' ccd A₀ base h₀ L m news s Q E B XB TB F X N T hk hpre hroom hun hret
  refine wpAny_call ?_
  k_dflt (tm_at "enterS")
  (obtain ⟨hb1, hL, ⟨hs1, hs2⟩, ⟨hx1, hx2⟩, hx3, hx4⟩ := hpre)
  (have hC := fun t0 t1 => bin_powi w a1 al a e b f n0 d0 top t0 t1 t2)
  k_steps
  all_goals (tm_at "backT")
end
section

set_option maxHeartbeats 8000000 in
theorem heard_5 (w : World) (a1 a2 al : Addr) (X0 Y0 : C2) (d0 top : Int) (u0 t0 t1 : Tok) : FnT w 234 [.int 5 u0, .ref a1, .ref a2, .int d0 t0, .int top t1, .ref al] 24
    (fun n => (Br w n (.ref a1) (dC X0) ∧ Br w n (.ref a2) (dC Y0)) ∧ LimAt w n al d0 top) (.list [.bool (decide (X0 = Y0))]) := by
  unfold FnT
  intro p loose mean mg mb dp un gd cn cs a' ccd A₀ base h₀ L m news s Q E B XB TB F X N T hk hpre hroom hun hret
  refine wpAny_call ?_
  k_dflt (tm_at "enterS")
  (obtain ⟨⟨hb1, hb2⟩, hL⟩ := hpre)
  (have hC := fun t0 t1 => bin_eq w a1 a2 al X0 Y0 d0 top t0 t1)
  k_steps
  all_goals (tm_at "backT")
end
section

set_option maxHeartbeats 8000000 in
theorem heard_6 (w : World) (a1 a2 al : Addr) (X0 Y0 : C2) (d0 top : Int) (u0 t0 t1 : Tok) : FnT w 234 [.int 6 u0, .ref a1, .ref a2, .int d0 t0, .int top t1, .ref al] 24
    (fun n => (Br w n (.ref a1) (dC X0) ∧ Br w n (.ref a2) (dC Y0)) ∧ LimAt w n al d0 top) (.list [.bool (decide (X0 ≠ Y0))]) := by
  unfold FnT
  intro p loose mean mg mb dp un gd cn cs a' ccd A₀ base h₀ L m news s Q E B XB TB F X N T hk hpre hroom hun hret
  refine wpAny_call ?_
  k_dflt (tm_at "enterS")
  (obtain ⟨⟨hb1, hb2⟩, hL⟩ := hpre)
  (have hC := fun t0 t1 => bin_ne w a1 a2 al X0 Y0 d0 top t0 t1)
  k_steps
  all_goals (tm_at "backT")
end
section

set_option maxHeartbeats 8000000 in
theorem heard_7 (w : World) (a1 a2 al : Addr) (X0 Y0 : C2) (d0 top : Int) (u0 t0 t1 : Tok) : FnT w 234 [.int 7 u0, .ref a1, .ref a2, .int d0 t0, .int top t1, .ref al] 24
    (fun n => (Br w n (.ref a1) (dC X0) ∧ Br w n (.ref a2) (dC Y0)) ∧ LimAt w n al d0 top) (.list []) := by
  unfold FnT
  intro p loose mean mg mb dp un gd cn cs a' ccd A₀ base h₀ L m news s Q E B XB TB F X N T hk hpre hroom hun hret
  refine wpAny_call ?_
  k_dflt (tm_at "enterS")
  (obtain ⟨⟨hb1, hb2⟩, hL⟩ := hpre)
  (have hC := fun t0 t1 => bin_lt w a1 a2 al X0 Y0 d0 top t0 t1)
  k_steps
  all_goals (tm_at "backT")
end
/-! what the law asks of the defs, in its own words -/
theorem FnT.conv {w : World} {f : Addr} {vs : List Value} {room : Nat} {P P' : Led → Prop} {d d' : Dat} (C : FnT w f vs room P d) (h : ∀ n, P' n → P n ∧ d = d') : FnT w f vs room P' d' := by
  unfold FnT at *
  intro p loose mean mg mb dp un gd cn cs a ccd A₀ base h₀ L m news s Q E B XB TB F X N T hk hp hd hu hret
  obtain ⟨h1, h2⟩ := h _ hp
  exact C p loose mean mg mb dp un gd cn cs a ccd A₀ base h₀ L m news s Q E B XB TB F X N T hk h1 hd hu (fun r n' h' tk' F' N' hs hb => hret r n' h' tk' F' N' hs (Br.cast hb h2))
theorem fnT_use {w : World} {f : Addr} {vs : List Value} {room : Nat} {Pre : Led → Prop} {d : Dat} {p : Program} {loose : List Str} {mean : ExcName → Option Value} {mg mb : Str → Option Value}
    {dp un : Nat} {gd : Option (List Code)} {cn : Str} {cs : Scope} {a : Addr} {ccd : Value} {A₀ : Around} {h₀ : Heap} {L : Addr} {m : Str → Option Value} {news : Led} {s : Shared}
    {Q E : Value → Shared → Prop} (C : FnT w f vs room Pre d) (B : Below A₀ h₀ [] h₀) (F : Fr h₀ L s.heap m) (X : (hd.heap_1 w.params).In h₀) (N : News h₀ L s.heap news) (T : Top p loose mean mg mb h₀) (hk : cs.kind = .function)
    (hp : Pre news) (hd : dp + room < recursionLimit) (hu : un + 8 * room < cLine)
    (ret : ∀ r news' h' tk', Fr h₀ L h' m → News h₀ L h' news' → (∀ q ∈ news, q ∈ news') → Br w news' r d → Q r { s with heap := h', toks := tk' }) :
    wpAny (model prg w) (ktrTop dp un gd cn cs L a ccd [] []) (call (.ref f) vs) Q E s :=
  C _ _ _ _ _ _ _ _ _ _ _ _ _ _ _ _ _ _ _ _ _ B X T F X N T hk hp hd hu ret
theorem bd8 {m : Int} (h : m.natAbs < 10 ^ 7) : Bd m 8 := ⟨Nat.lt_of_lt_of_le h (Nat.pow_le_pow_right (by decide) (by decide))⟩
structure CSx (X : C2) : Prop where
  x : Sx X.1.1 X.1.2
  y : Sx X.2.1 X.2.2
theorem sx_div {X Y : C2} (h : CSx X) (h' : CSx Y) : DivOk X.1.1 X.1.2 X.2.1 X.2.2 Y.1.1 Y.1.2 Y.2.1 Y.2.2 := by
  have b1 := h.x.big; have b2 := h.y.big; have b3 := h'.x.big; have b4 := h'.y.big
  refine ⟨b1.1, b2.1, b3.1, b4.1, b1.2, b2.2, b3.2, b4.2, ?_, ?_, ?_⟩
  · exact nd_bd ((((h'.x.sb.mul h'.x.sb).add (h'.y.sb.mul h'.y.sb)).bdd (k := 167) (by decide +kernel)).mono (by decide))
  · exact nd_bd ((((h.x.sb.mul h'.x.sb).add (h.y.sb.mul h'.y.sb.neg).neg).bdd (k := 167) (by decide +kernel)).mono (by decide))
  · exact nd_bd ((((h.x.sb.mul h'.y.sb.neg).add (h.y.sb.mul h'.x.sb)).bdd (k := 167) (by decide +kernel)).mono (by decide))
theorem csx_rep {X : C2} (h : CSx X) : CRep X (cWhole X) 60 := whole_rep (by have := h.x.lo; omega) (by have := h.y.lo; omega)
structure LP (w : World) (n : Led) (ax ay al : Addr) (X Y : C2) (d top : Int) : Prop where
  x : Br w n (.ref ax) (dC X)
  y : Br w n (.ref ay) (dC Y)
  l : LimAt w n al d top
  sx : CSx X
  sy : CSx Y
  d1 : 1 ≤ d
  d7 : d ≤ 7
  t0 : 0 ≤ top
theorem LP.up {w : World} {n n' : Led} {ax ay al : Addr} {X Y : C2} {d top : Int} (h : LP w n ax ay al X Y d top) (hs : ∀ p ∈ n, p ∈ n') : LP w n' ax ay al X Y d top :=
  ⟨h.x.up hs, h.y.up hs, h.l.up hs, h.sx, h.sy, h.d1, h.d7, h.t0⟩
section
variable (w : World) (ax ay al : Addr) (X Y : C2) (d top : Int) (u t t' : Tok)
theorem lh_0 : FnT w 234 [.int 0 u, .ref ax, .ref ay, .int d t, .int top t', .ref al] 24 (fun n => LP w n ax ay al X Y d top) (dLC (lrounded (some (dAdd (cWhole X) (cWhole Y))) d top)) := by
  refine (heard_0 w ax ay al X.1.1 X.1.2 X.2.1 X.2.2 Y.1.1 Y.1.2 Y.2.1 Y.2.2 d top u t t').conv fun n h => ⟨⟨⟨h.x, h.y⟩, h.l, ⟨h.sx.x.sm, h.sx.y.sm, h.sy.x.sm, h.sy.y.sm⟩, by have := h.d1; omega⟩, ?_⟩
  rw [add_law (csx_rep h.sx) (csx_rep h.sy) h.d1 h.t0]
theorem lh_1 : FnT w 234 [.int 1 u, .ref ax, .ref ay, .int d t, .int top t', .ref al] 24 (fun n => LP w n ax ay al X Y d top) (dLC (lrounded (some (dSub (cWhole X) (cWhole Y))) d top)) := by
  refine (heard_1 w ax ay al X.1.1 X.1.2 X.2.1 X.2.2 Y.1.1 Y.1.2 Y.2.1 Y.2.2 d top u t t').conv fun n h => ⟨⟨⟨h.x, h.y⟩, h.l, ⟨h.sx.x.sm, h.sx.y.sm, h.sy.x.sm, h.sy.y.sm⟩, by have := h.d1; omega⟩, ?_⟩
  rw [sub_law (csx_rep h.sx) (csx_rep h.sy) h.d1 h.t0]
theorem lh_2 : FnT w 234 [.int 2 u, .ref ax, .ref ay, .int d t, .int top t', .ref al] 24 (fun n => LP w n ax ay al X Y d top) (dLC (lrounded (some (prod3 (cWhole X) (cWhole Y))) d top)) := by
  refine (heard_2 w ax ay al X.1.1 X.1.2 X.2.1 X.2.2 Y.1.1 Y.1.2 Y.2.1 Y.2.2 d top u t t').conv fun n h => ⟨⟨⟨h.x, h.y⟩, h.l, ⟨h.sx.x.sm, h.sx.y.sm, h.sy.x.sm, h.sy.y.sm⟩, by have := h.d1; omega⟩, ?_⟩
  rw [mul_law (csx_rep h.sx) (csx_rep h.sy) h.d1 h.t0]
theorem lh_3 : FnT w 234 [.int 3 u, .ref ax, .ref ay, .int d t, .int top t', .ref al] 24 (fun n => LP w n ax ay al X Y d top) (dLC (lrounded (over3 (cWhole X) (cWhole Y)) d top)) := by
  refine (heard_3 w ax ay al X.1.1 X.1.2 X.2.1 X.2.2 Y.1.1 Y.1.2 Y.2.1 Y.2.2 d top u t t').conv fun n h => ⟨⟨⟨h.x, h.y⟩, h.l, sx_div h.sx h.sy, by have := h.d1; omega, by have := h.d7; omega⟩, ?_⟩
  rw [div_law (csx_rep h.sx) (csx_rep h.sy) h.d1 h.t0]
theorem lh_4 (n0 : Int) (t2 : Tok) : FnT w 234 [.int 4 u, .ref ax, .int n0 t2, .int d t, .int top t', .ref al] 24 (fun n => LP w n ax ay al X Y d top ∧ -16 ≤ n0 ∧ n0 ≤ 16) (dLC (lrounded (dPow (cWhole X) n0) d top)) := by
  refine (heard_4 w ax al X.1.1 X.1.2 X.2.1 X.2.2 n0 d top u t t' t2).conv fun n ⟨h, h2, h3⟩ => ⟨⟨h.x, h.l, ⟨h.sx.x, h.sx.y⟩, ⟨h2, h3⟩, by have := h.d1; omega, by have := h.d7; omega⟩, ?_⟩
  rw [pow_law (csx_rep h.sx) h.d1 h.t0]
theorem lh_5 : FnT w 234 [.int 5 u, .ref ax, .ref ay, .int d t, .int top t', .ref al] 24 (fun n => LP w n ax ay al X Y d top) (.list [.bool (decide (X = Y))]) :=
  (heard_5 w ax ay al X Y d top u t t').conv fun n h => ⟨⟨⟨h.x, h.y⟩, h.l⟩, rfl⟩
theorem lh_5x : FnT w 234 [.int 5 u, .ref ax, .ref ax, .int d t, .int top t', .ref al] 24 (fun n => LP w n ax ay al X Y d top) (.list [.bool true]) :=
  (heard_5 w ax ax al X X d top u t t').conv fun n h => ⟨⟨⟨h.x, h.x⟩, h.l⟩, by simp⟩
theorem lh_6 : FnT w 234 [.int 6 u, .ref ax, .ref ay, .int d t, .int top t', .ref al] 24 (fun n => LP w n ax ay al X Y d top) (.list [.bool (!decide (X = Y))]) :=
  (heard_6 w ax ay al X Y d top u t t').conv fun n h => ⟨⟨⟨h.x, h.y⟩, h.l⟩, by simp⟩
theorem lh_7 : FnT w 234 [.int 7 u, .ref ax, .ref ay, .int d t, .int top t', .ref al] 24 (fun n => LP w n ax ay al X Y d top) (.list []) :=
  (heard_7 w ax ay al X Y d top u t t').conv fun n h => ⟨⟨⟨h.x, h.y⟩, h.l⟩, rfl⟩
end
theorem lrd_v (w : World) (v : Value) (o : Option I3) (d top : Int) (t0 t1 : Tok) : Fn w 262 [v, .int d t0, .int top t1] 12 (fun l => Br w l v (dO o) ∧ (∀ p, o = some p → LrPre p) ∧ 1 ≤ d ∧ d ≤ 7) (some (dLC (lrounded o d top))) := by
  unfold Fn
  intro p loose mean mg mb dp un gd cn cs a' ccd cl outer A₀ base h₀ L m news s Q E B F X N T hk hpre hroom hun hret hexc
  obtain ⟨h1, h2, h3, h4⟩ := hpre
  cases o with
  | none =>
    cases (show Br w news v .none from h1).none_inv
    exact law_rounded_0 w d top t0 t1 p loose mean mg mb dp un gd cn cs a' ccd cl outer A₀ base h₀ L m news s Q E B F X N T hk trivial hroom hun hret hexc
  | some q =>
    obtain ⟨a, e, hb⟩ := (show Br w news v (.tuple _) from h1).tup_inv
    subst e
    have := h2 q rfl
    exact law_rounded_1 w a q d top t0 t1 p loose mean mg mb dp un gd cn cs a' ccd cl outer A₀ base h₀ L m news s Q E B F X N T hk ⟨hb, this.p, ⟨this.x, this.y, this.z⟩, h3, h4⟩ hroom hun hret hexc
theorem pick_bd (ns : List Int) (i : Int) {m : Int} (h : 0 < m) : 0 ≤ pick ns i m ∧ pick ns i m < m := by
  unfold pick
  split
  · rw [Int.fmod_eq_emod_of_nonneg _ (Int.le_of_lt h)]
    exact ⟨Int.emod_nonneg _ (Int.ne_of_gt h), Int.emod_lt_of_pos _ h⟩
  · omega
theorem rl_sx (ns : List Int) (i : Int) {d top : Int} (h1 : 1 ≤ d) (h7 : d ≤ 7) (t0 : 3 ≤ top) (t1 : top ≤ 38) : Sx (rl ns i d top).1 (rl ns i d top).2 := by
  have z : Sx 0 0 := by
    refine ⟨⟨⟨by decide⟩, by decide, by decide⟩, ⟨by decide, ?_⟩, by decide, by decide⟩
    rw [Int.zero_mul]; decide
  obtain ⟨r0, r1, r2⟩ := rlR_in ns i (by omega : 0 ≤ d) h7
  unfold rl
  by_cases hr : rlR ns i d = 0
  · rw [if_pos hr]; exact z
  · rw [if_neg hr]
    obtain ⟨s0, s1⟩ := strip_in (by omega : 0 < rlR ns i d) 0
    obtain ⟨w0, w1⟩ := pick_bd ns (i + 1) (by omega : 0 < 2 * top + 1)
    have hw : ∃ l : Int, l = (if (rlW ns i top).fmod 2 = 1 then (rlW ns i top + 1).fdiv 2 else -(rlW ns i top).fdiv 2) ∧ -top ≤ l ∧ l ≤ top := by
      refine ⟨_, rfl, ?_⟩
      have hW : rlW ns i top = pick ns (i + 1) (2 * top + 1) := rfl
      rw [hW]
      generalize pick ns (i + 1) (2 * top + 1) = W at *
      rw [Int.fmod_eq_emod_of_nonneg _ (by omega), Int.fdiv_eq_ediv_of_nonneg _ (by omega), Int.fdiv_eq_ediv_of_nonneg _ (by omega)]
      split <;> omega
    obtain ⟨l, hl, l0, l1⟩ := hw
    rw [← hl]
    generalize hS : (strip (rlR ns i d) 0).1 = S at *
    have nS : nd S.natAbs ≤ 7 := by
      refine nd_le ?_
      have e7 : tenp 7 = 10000000 := by rw [tenp_eq]; rfl
      have := ten_mono (p := d) (q := 7) (by omega) h7
      have : (10 : Nat) ^ 7 = 10000000 := by decide
      omega
    have nS1 := (nd_le_self (k := S.natAbs) (by omega)).1
    have sg := sgn2 (rlV ns i)
    have eA : ((1 - 2 * (rlV ns i).fmod 2) * S).natAbs = S.natAbs := by
      rcases sg with q | q <;> rw [q] <;> omega
    have lt7 : S.natAbs < 10 ^ 7 := Nat.lt_of_lt_of_le (nd_lt S.natAbs) (Nat.pow_le_pow_right (by decide) nS)
    have hb : Bd ((1 - 2 * (rlV ns i).fmod 2) * S) 8 := bd8 (by rw [eA]; exact lt7)
    have hb' : Bd ((1 - 2 * (rlV ns i).fmod 2) * S) (nd S.natAbs) := ⟨by rw [eA]; exact nd_lt _⟩
    refine ⟨⟨hb, by dsimp only; omega, by dsimp only; omega⟩, ?_, by dsimp only; omega, by dsimp only; omega⟩
    refine (SB.of hb' 44 (by dsimp only; omega)).mono (Nat.pow_le_pow_right (by decide) ?_)
    dsimp only
    omega
theorem csx_of (ns : List Int) (i j : Int) {d top : Int} (h1 : 1 ≤ d) (h7 : d ≤ 7) (t0 : 3 ≤ top) (t1 : top ≤ 38) : CSx (rl ns i d top, rl ns j d top) := ⟨rl_sx ns i h1 h7 t0 t1, rl_sx ns j h1 h7 t0 t1⟩
theorem lt2700 {j : Nat} (h : j < 2700) : (10 : Nat) ^ j < 10 ^ 2700 := Nat.pow_lt_pow_right (by decide) h
section
variable {X Y : C2} (hX : CSx X) (hY : CSx Y)
include hX
theorem pbX : PB (cWhole X) (10 ^ 83) (10 ^ 44) := whole_pb hX.x hX.y
theorem pre_pow (n : Int) (hn : -16 ≤ n ∧ n ≤ 16) : ∀ p, dPow (cWhole X) n = some p → LrPre p := by
  intro p hp
  have hk : (absI n).toNat ≤ 16 := by unfold absI; split <;> omega
  have h := pw_pb (pbX hX) hk
  unfold dPow at hp
  split at hp
  · have one : PB (1, 0, 1) 1 1 := ⟨by decide, by decide, by decide, by decide⟩
    refine (one.dover h hp).pre ?_ ?_
    · generalize hz : (10 : Nat) ^ 1333 = z
      have h2 : z * 10 ^ 704 = 10 ^ 2037 := by rw [← hz, ← Nat.pow_add]
      have h3 : (1 * z + 1 * z) * 10 ^ 704 = 2 * 10 ^ 2037 := by rw [Nat.one_mul, ← Nat.two_mul, Nat.mul_assoc, h2]
      rw [h3]
      exact Nat.lt_trans (by rw [Nat.pow_succ 10 2037]; have := Nat.pow_pos (n := 2037) (show 0 < 10 by decide); omega : 2 * 10 ^ 2037 < 10 ^ 2038) (lt2700 (by decide))
    · have h2 : (10 : Nat) ^ 1333 * 10 ^ 1333 = 10 ^ 2666 := by rw [← Nat.pow_add]
      rw [Nat.one_mul, h2, ← Nat.two_mul]
      exact Nat.lt_trans (by rw [Nat.pow_succ 10 2666]; have := Nat.pow_pos (n := 2666) (show 0 < 10 by decide); omega : 2 * 10 ^ 2666 < 10 ^ 2667) (lt2700 (by decide))
  · cases hp
    exact h.pre (lt2700 (by decide)) (lt2700 (by decide))
include hY
theorem pre_add : ∀ p, some (dAdd (cWhole X) (cWhole Y)) = some p → LrPre p := by
  intro p hp; cases hp
  exact ((pbX hX).dadd (pbX hY)).pre (by decide +kernel) (by decide +kernel)
theorem pre_sub : ∀ p, some (dSub (cWhole X) (cWhole Y)) = some p → LrPre p := by
  intro p hp; cases hp
  exact ((pbX hX).dsub (pbX hY)).pre (by decide +kernel) (by decide +kernel)
theorem pre_mul : ∀ p, some (prod3 (cWhole X) (cWhole Y)) = some p → LrPre p := by
  intro p hp; cases hp
  exact ((pbX hX).prod (pbX hY)).pre (by decide +kernel) (by decide +kernel)
theorem pre_div : ∀ p, over3 (cWhole X) (cWhole Y) = some p → LrPre p := by
  intro p hp
  exact ((pbX hX).dover (pbX hY) hp).pre (by decide +kernel) (by decide +kernel)
end
theorem ok_LC (o : Option C2) : kqdOk 9 (dLC o) = true := by cases o <;> rfl
/-- data that equals itself, as the walk compares it -/
structure Sh (d : Dat) : Prop where
  sh : SeqAt.shaped (kqdP d) = true
  eq : PyData.eqv (kqdP d) (kqdP d) = true
theorem Sh.of {d : Dat} (h : kqdOk 9 d = true) : Sh d := ⟨shaped_of h, eqv_yes h rfl⟩
theorem Sh.lc (o : Option C2) : Sh (dLC o) := .of (ok_LC o)
theorem Sh.b (b : Bool) : Sh (.list [.bool b]) := by cases b <;> exact ⟨rfl, rfl⟩
theorem br_neY {w : World} {A : Around} {E : Value → Shared → Prop} {s : Shared} {h₀ : Heap} {L : Addr} {m : Str → Option Value} {news n₀ n₁ : Led} {v v' : Value} {d : Dat} {Q : Value → Shared → Prop} (F : Fr h₀ L s.heap m) (X : (hd.heap_1 w.params).In h₀) (N : News h₀ L s.heap news)
    (hb : Br w n₀ v d) (hs : ∀ p ∈ n₀, p ∈ news) (hb' : Br w n₁ v' d) (hs' : ∀ p ∈ n₁, p ∈ news) (hd : Sh d) (hu : A.units + 64 < cLine) (h : Q (.bool false) s) : wpAny (model prg w) A (compareOp .NotEq v v') Q E s :=
  br_ne F X N hb hs hb' hs' hd.sh hd.sh hu (by rw [hd.eq]; rfl) h
theorem br_eqZ {w : World} {A : Around} {E : Value → Shared → Prop} {s : Shared} {h₀ : Heap} {L : Addr} {m : Str → Option Value} {news n₀ n₁ : Led} {v v' : Value} {d : Dat} {Q : Value → Shared → Prop} (F : Fr h₀ L s.heap m) (X : (hd.heap_1 w.params).In h₀) (N : News h₀ L s.heap news)
    (hb : Br w n₀ v d) (hs : ∀ p ∈ n₀, p ∈ news) (hb' : Br w n₁ v' d) (hs' : ∀ p ∈ n₁, p ∈ news) (hd : Sh d) (hu : A.units + 64 < cLine) (h : Q (.bool true) s) : wpAny (model prg w) A (compareOp .Eq v v') Q E s :=
  br_eq F X N hb hs hb' hs' hd.sh hd.sh hu hd.eq h
theorem lay_32 : True := by
  (k_with "my call ref" => k_here; (with_reducible show wpAny _ _ (call (Value.ref 234) _) _ _ _); k_dflt (tm_at "lh"); tm_at "got")
  (k_with "tm lh" => first | (refine fnT_use (lh_5x _ _ _ _ _ _ _ _ _ _ _) (by k_asm) (by k_asm) (by k_asm) (by k_asm) (by k_asm) (by exact rfl) (by tm_at "kpT") (by ktr_room) (by ktr_units) ?_) | (refine fnT_use (lh_5 _ _ _ _ _ _ _ _ _ _ _) (by k_asm) (by k_asm) (by k_asm) (by k_asm) (by k_asm) (by exact rfl) (by tm_at "kpT") (by ktr_room) (by ktr_units) ?_) | (refine fnT_use (lh_6 _ _ _ _ _ _ _ _ _ _ _) (by k_asm) (by k_asm) (by k_asm) (by k_asm) (by k_asm) (by exact rfl) (by tm_at "kpT") (by ktr_room) (by ktr_units) ?_) | (refine fnT_use (lh_7 _ _ _ _ _ _ _ _ _ _ _) (by k_asm) (by k_asm) (by k_asm) (by k_asm) (by k_asm) (by exact rfl) (by tm_at "kpT") (by ktr_room) (by ktr_units) ?_) | (refine fnT_use (lh_0 _ _ _ _ _ _ _ _ _ _ _) (by k_asm) (by k_asm) (by k_asm) (by k_asm) (by k_asm) (by exact rfl) (by tm_at "kpT") (by ktr_room) (by ktr_units) ?_) | (refine fnT_use (lh_1 _ _ _ _ _ _ _ _ _ _ _) (by k_asm) (by k_asm) (by k_asm) (by k_asm) (by k_asm) (by exact rfl) (by tm_at "kpT") (by ktr_room) (by ktr_units) ?_) | (refine fnT_use (lh_2 _ _ _ _ _ _ _ _ _ _ _) (by k_asm) (by k_asm) (by k_asm) (by k_asm) (by k_asm) (by exact rfl) (by tm_at "kpT") (by ktr_room) (by ktr_units) ?_) | (refine fnT_use (lh_3 _ _ _ _ _ _ _ _ _ _ _) (by k_asm) (by k_asm) (by k_asm) (by k_asm) (by k_asm) (by exact rfl) (by tm_at "kpT") (by ktr_room) (by ktr_units) ?_) | (refine fnT_use (lh_4 _ _ _ _ _ _ _ _ _ _ _ _ _) (by k_asm) (by k_asm) (by k_asm) (by k_asm) (by k_asm) (by exact rfl) (by tm_at "kpT") (by ktr_room) (by ktr_units) ?_))
  (k_with "tm lp" => apply LP.up; assumption; tm_at "sub")
  (k_with "my compareOp NotEq ref ref" => k_here; k_dflt (refine br_neY (by k_asm) (by k_asm) (by k_asm) (by assumption) (by tm_at "sub") (by tm_at "br") (fun _ h' => h') (by first | exact Sh.lc _ | exact Sh.b _ | exact Sh.of rfl) (by ktr_units) ?_))
  (k_with "my compareOp Eq ref ref" => k_here; k_dflt (refine br_eqZ (by k_asm) (by k_asm) (by k_asm) (by assumption) (by tm_at "sub") (by tm_at "br") (fun _ h' => h') (by first | exact Sh.lc _ | exact Sh.b _ | exact Sh.of rfl) (by ktr_units) ?_))
  (k_with "my call ref" => k_here; (with_reducible show wpAny _ _ (call (Value.ref 262) _) _ _ _); k_dflt (refine fn_use (lrd_v _ _ _ _ _ _ _) (by k_asm) (by k_asm) (by k_asm) (by k_asm) (by k_asm) (by exact rfl) (by refine And.intro (Br.up (by assumption) (by tm_at "sub")) (And.intro (by assumption) (And.intro (by assumption) (by assumption)))) (by ktr_room) (by ktr_units) ?_); tm_at "got")
  (k_with "tm ret" => intro h' m' tk' F'; (try dsimp only); (rename ∀ h' m' tk', Fr _ _ _ _ → _ => hret'); exact hret' _ _ _ F')
  trivial

set_option maxHeartbeats 16000000 in
theorem law_s18 {w : World} {X0 Y0 : C2} {ax ay al : Addr} {d top : Int} {td tt : Tok} {b : Bool}
    {p : Program} {loose : List Str} {mean : ExcName → Option Value} {mg mb : Str → Option Value}
    {g : Heap} {L fa : Addr} {cd : Value} {news : Led} {s : Shared} {m₀ : Str → Option Value}
    {Q : Flow → Shared → Prop} {E1 : Value → Shared → Prop} {env : Env} (he : env = envOf "law" (scopeOf w 269) L fa cd) (hB : Below callerA g [] g) (X : (hd.heap_1 w.params).In g) (N : News g L s.heap news) (T : Top p loose mean mg mb g)
    (F : Fr g L s.heap (fun z => if z = "x" then some (.ref ax) else if z = "y" then some (.ref ay) else if z = "digits" then some (.int d td) else if z = "top" then some (.int top tt) else if z = "limits" then some (.ref al) else if z = "same" then some (.bool b) else m₀ z))
    (hP : LP w news ax ay al X0 Y0 d top) (hS : b = decide (X0 = Y0))
    (hret : ∀ h' m' tk', Fr g L h' m' → Q (.ret (.bool true)) { s with heap := h', toks := tk' }) :
    wpAny (model prg w) (callerA.deeper env) (execs ((bodyOf w 269).drop 18) env) Q
      (fun e s' => wpAny (model prg w) (callerA.deeper env) (leaving env e) (fun _ s'' => E1 e s'') (fun e' s'' => E1 e' s'') s') s := by
  subst he
  (obtain ⟨sc, hsc⟩ : ∃ sc, scopeOf w 269 = sc := ⟨_, rfl⟩)
  rw [hsc]
  (change Scope.mk _ _ _ _ _ = sc at hsc)
  subst hsc
  (show wpAny _ _ (execs (List.cons _ _) _) _ _ _)
  subst hS
  have hx := hP.x
  k_steps
  all_goals (try dsimp only)
  all_goals (refine' hret _ _ _ ?k1; (case k1 => k_asm))
theorem lay_33 : True := by
  (k_with "my execs cons" => k_here; (with_reducible show wpAny _ _ (execs (Stmt.If (Expr.BoolOp _ [Expr.Compare (Expr.Call _ [Expr.Constant (Const.int 5) _ _, Expr.Name (Str.ofString "x") _, Expr.Name (Str.ofString "y") _, _, _, _] _ _) _ _ _, _] _) _ _ _ :: _) _) _ _ _); k_dflt (refine law_s18 (by exact rfl) (by k_asm) (by k_asm) (by k_asm) (by k_asm) (by rename Fr _ _ _ _ => lF'; exact fr_put (fr_put (fr_put (fr_put (fr_put (fr_put lF' rfl) rfl) rfl) rfl) rfl) rfl) (by tm_at "lp") (by tm_at "same") (by tm_at "ret")))
  trivial

section
variable {X Y : C2}
theorem same_t (h1 : X.1.1 = Y.1.1) (h2 : X.1.2 = Y.1.2) (h3 : X.2.1 = Y.2.1) : (X.2.2 == Y.2.2) = decide (X = Y) := by
  by_cases h4 : X.2.2 = Y.2.2
  · have : X = Y := Prod.ext (Prod.ext h1 h2) (Prod.ext h3 h4)
    rw [decide_eq_true this]; simp [h4]
  · have : X ≠ Y := fun e => h4 (by rw [e])
    rw [decide_eq_false this]; simp [h4]
theorem same_1 (h : X.1.1 ≠ Y.1.1) : false = decide (X = Y) := by
  have : X ≠ Y := fun e => h (by rw [e])
  simp [this]
theorem same_2 (h : X.1.2 ≠ Y.1.2) : false = decide (X = Y) := by
  have : X ≠ Y := fun e => h (by rw [e])
  simp [this]
theorem same_3 (h : X.2.1 ≠ Y.2.1) : false = decide (X = Y) := by
  have : X ≠ Y := fun e => h (by rw [e])
  simp [this]
theorem same_1b (h : X.1.1 ≠ Y.1.1) : (X.1.1 == Y.1.1) = decide (X = Y) := by rw [← same_1 h]; simp [h]
theorem same_2b (h : X.1.2 ≠ Y.1.2) : (X.1.2 == Y.1.2) = decide (X = Y) := by rw [← same_2 h]; simp [h]
theorem same_3b (h : X.2.1 ≠ Y.2.1) : (X.2.1 == Y.2.1) = decide (X = Y) := by rw [← same_3 h]; simp [h]
end
theorem lay_34 : True := by
  (k_with "tm same" => first | exact same_t (by assumption) (by assumption) (by assumption) | exact same_1 (by assumption) | exact same_2 (by assumption) | exact same_3 (by assumption) | exact same_1b (by assumption) | exact same_2b (by assumption) | exact same_3b (by assumption))
  trivial

set_option maxHeartbeats 16000000 in
theorem law_s16 {w : World} {X0 Y0 : C2} {ax ay al : Addr} {d top : Int} {td tt : Tok} {n0 : Int} {tn : Tok} {pv : Value}
    {p : Program} {loose : List Str} {mean : ExcName → Option Value} {mg mb : Str → Option Value}
    {g : Heap} {L fa : Addr} {cd : Value} {news : Led} {s : Shared} {m₀ : Str → Option Value}
    {Q : Flow → Shared → Prop} {E1 : Value → Shared → Prop} {env : Env} (he : env = envOf "law" (scopeOf w 269) L fa cd) (hB : Below callerA g [] g) (X : (hd.heap_1 w.params).In g) (N : News g L s.heap news) (T : Top p loose mean mg mb g)
    (F : Fr g L s.heap (fun z => if z = "x" then some (.ref ax) else if z = "y" then some (.ref ay) else if z = "digits" then some (.int d td) else if z = "top" then some (.int top tt) else if z = "limits" then some (.ref al) else if z = "n" then some (.int n0 tn) else if z = "power" then some (pv) else m₀ z))
    (hP : LP w news ax ay al X0 Y0 d top) (hn : -16 ≤ n0 ∧ n0 ≤ 16) (hpw : Br w news pv (dO (dPow (cWhole X0) n0)))
    (hret : ∀ h' m' tk', Fr g L h' m' → Q (.ret (.bool true)) { s with heap := h', toks := tk' }) :
    wpAny (model prg w) (callerA.deeper env) (execs ((bodyOf w 269).drop 16) env) Q
      (fun e s' => wpAny (model prg w) (callerA.deeper env) (leaving env e) (fun _ s'' => E1 e s'') (fun e' s'' => E1 e' s'') s') s := by
  subst he
  (obtain ⟨sc, hsc⟩ : ∃ sc, scopeOf w 269 = sc := ⟨_, rfl⟩)
  rw [hsc]
  (change Scope.mk _ _ _ _ _ = sc at hsc)
  subst hsc
  (show wpAny _ _ (execs (List.cons _ _) _) _ _ _)
  have hx := hP.x
  have hy := hP.y
  have hpp := pre_pow hP.sx n0 hn
  have hd1 := hP.d1
  have hd7 := hP.d7
  k_steps
  all_goals (try dsimp only)
  all_goals (refine' hret _ _ _ ?k1; (case k1 => k_asm))
structure PW (t : I3) : Prop where
  b : ∀ k : Nat, k ≤ 16 → B3 (pw3 t k) 10000
theorem b3_mono {t : I3} {i j : Nat} (h : B3 t i) (hij : i ≤ j) : B3 t j := ⟨h.x.mono hij, h.y.mono hij, h.z.mono hij⟩
theorem pw_of {X : C2} (h : CSx X) : PW (cWhole X) := ⟨fun k hk => (pw_pb (pbX h) hk).b3 (Nat.pow_lt_pow_right (by decide) (by decide)) (Nat.pow_lt_pow_right (by decide) (by decide))⟩
theorem one_b3 : B3 (1, 0, 1) 10000 := ⟨⟨Nat.one_lt_pow (by decide) (by decide)⟩, ⟨Nat.pow_pos (by decide)⟩, ⟨Nat.one_lt_pow (by decide) (by decide)⟩⟩
theorem pow_neg {t : I3} {n : Int} (h : n < 0) : over3 (1, 0, 1) (pw3 t (absI n).toNat) = dPow t n := by unfold dPow; rw [if_pos h]
theorem pow_pos {t : I3} {n : Int} (h : ¬ n < 0) : some (pw3 t (absI n).toNat) = dPow t n := by unfold dPow; rw [if_neg h]
theorem lay_35 : True := by
  (k_with "my execs cons" => k_here; (with_reducible show wpAny _ _ (execs (Stmt.If (Expr.Compare (Expr.Call _ [Expr.Constant (Const.int 4) _ _, _, _, _, _, _] _ _) _ _ _) _ _ _ :: _) _) _ _ _); k_dflt (refine law_s16 (by exact rfl) (by k_asm) (by k_asm) (by k_asm) (by k_asm) (by rename Fr _ _ _ _ => lF'; exact fr_put (fr_put (fr_put (fr_put (fr_put (fr_put (fr_put lF' rfl) rfl) rfl) rfl) rfl) rfl) rfl) (by tm_at "lp") (by assumption) (by tm_at "hpw") (by tm_at "ret")))
  (k_with "tm hpw" => first | (refine Br.up (Br.cast (by assumption) (congrArg dO (pow_neg (by assumption)))) (by tm_at "sub")) | (refine Br.up (Br.cast (by assumption) (congrArg dO (pow_pos (by assumption)))) (by tm_at "sub")))
  (k_with "my call ref" => k_here; (with_reducible show wpAny _ _ (call (Value.ref 255) _) _ _ _); k_dflt (refine fn_use (law_over_c _ _ _ (1, 0, 1) _) (by k_asm) (by k_asm) (by k_asm) (by k_asm) (by k_asm) (by exact rfl) (by refine And.intro (And.intro (by tm_at "br") (by refine Br.up (by assumption) (by tm_at "sub"))) (And.intro one_b3 (by assumption))) (by ktr_room) (by ktr_units) ?_); intro r' n' h' tk' F' N' hs' hb'; (try k_sweep); (try dsimp only); (try k_fold))
  trivial

set_option maxHeartbeats 16000000 in
theorem law_s15 {w : World} {X0 Y0 : C2} {ax ay al : Addr} {d top : Int} {td tt : Tok} {n0 : Int} {tn : Tok} {ap : Addr}
    {p : Program} {loose : List Str} {mean : ExcName → Option Value} {mg mb : Str → Option Value}
    {g : Heap} {L fa : Addr} {cd : Value} {news : Led} {s : Shared} {m₀ : Str → Option Value}
    {Q : Flow → Shared → Prop} {E1 : Value → Shared → Prop} {env : Env} (he : env = envOf "law" (scopeOf w 269) L fa cd) (hB : Below callerA g [] g) (X : (hd.heap_1 w.params).In g) (N : News g L s.heap news) (T : Top p loose mean mg mb g)
    (F : Fr g L s.heap (fun z => if z = "x" then some (.ref ax) else if z = "y" then some (.ref ay) else if z = "digits" then some (.int d td) else if z = "top" then some (.int top tt) else if z = "limits" then some (.ref al) else if z = "n" then some (.int n0 tn) else if z = "power" then some (.ref ap) else m₀ z))
    (hP : LP w news ax ay al X0 Y0 d top) (hn : -16 ≤ n0 ∧ n0 ≤ 16) (hpw : Br w news (.ref ap) (d3 (pw3 (cWhole X0) (absI n0).toNat)))
    (hret : ∀ h' m' tk', Fr g L h' m' → Q (.ret (.bool true)) { s with heap := h', toks := tk' }) :
    wpAny (model prg w) (callerA.deeper env) (execs ((bodyOf w 269).drop 15) env) Q
      (fun e s' => wpAny (model prg w) (callerA.deeper env) (leaving env e) (fun _ s'' => E1 e s'') (fun e' s'' => E1 e' s'') s') s := by
  subst he
  (obtain ⟨sc, hsc⟩ : ∃ sc, scopeOf w 269 = sc := ⟨_, rfl⟩)
  rw [hsc]
  (change Scope.mk _ _ _ _ _ = sc at hsc)
  subst hsc
  (show wpAny _ _ (execs (List.cons _ _) _) _ _ _)
  have hq := (pw_of hP.sx).b (absI n0).toNat (by unfold absI; split <;> omega)
  have hqo : Br w news (.ref ap) (dO (some (pw3 (cWhole X0) (absI n0).toNat))) := hpw
  k_steps
  all_goals (try dsimp only)
  all_goals (refine' hret _ _ _ ?k1; (case k1 => k_asm))
theorem lay_36 : True := by
  (k_with "my execs cons" => k_here; (with_reducible show wpAny _ _ (execs (Stmt.If (Expr.Compare (Expr.Name (Str.ofString "n") _) _ _ _) [Stmt.Assign [Expr.Name (Str.ofString "power") _] _ _] _ _ :: _) _) _ _ _); (try (rename _ = absI _ => hA'; subst hA')); k_dflt (refine law_s15 (by exact rfl) (by k_asm) (by k_asm) (by k_asm) (by k_asm) (by rename Fr _ _ _ _ => lF'; exact fr_put (fr_put (fr_put (fr_put (fr_put (fr_put (fr_put lF' rfl) rfl) rfl) rfl) rfl) rfl) rfl) (by tm_at "lp") (by assumption) (by refine Br.up (by assumption) (by tm_at "sub")) (by tm_at "ret")))
  trivial

abbrev gP {t : I3} (_ : PW t) : Nat → Dat := fun k => d3 (pw3 t k)
theorem lay_37 : True := by
  (k_with "my pyIter ref" => k_here; (rename IsRange _ _ _ _ _ _ _ _ => rgX); (rename PW (cWhole _) => hall); k_dflt (refine br_range (Str.ofString "power") (gP hall) _ (by exact rfl) (by first | exact rgX | assumption) (by omega) (by omega) (by k_asm) (by k_asm) (by decide) (by rfl) (by tm_at "br") ?_ ?_); all_goals (first | (intro i' t' v' nx' u' h' tk' hi' hs' hb' F' N' e'; subst e'; (have hall' := hall.b i' (by omega)); tm_at "inv"; (try k_sweep); (try k_fold)) | (intro v' nx' u' h' tk' hs' hb' F' N'; tm_at "inv"; (try k_sweep); (try k_fold))))
  (k_with "my call ref" => k_here; (with_reducible show wpAny _ _ (call (Value.ref 248) _) _ _ _); k_dflt (refine fn_use (law_product_c _ _ _ (pw3 _ _) (cWhole _)) (by k_asm) (by k_asm) (by k_asm) (by k_asm) (by k_asm) (by exact rfl) (by refine And.intro (And.intro (by refine Br.up (by assumption) (by tm_at "sub")) (by refine Br.up (by assumption) (by tm_at "sub"))) (And.intro (b3_mono (i := 10000) (by assumption) (by decide)) (b3_mono (i := 10000) (by assumption) (by decide)))) (by ktr_room) (by ktr_units) ?_); tm_at "got")
  trivial

set_option maxHeartbeats 16000000 in
theorem law_s13 {w : World} {X0 Y0 : C2} {ax ay al : Addr} {d top : Int} {td tt : Tok} {n0 : Int} {tn : Tok} {aa : Addr}
    {p : Program} {loose : List Str} {mean : ExcName → Option Value} {mg mb : Str → Option Value}
    {g : Heap} {L fa : Addr} {cd : Value} {news : Led} {s : Shared} {m₀ : Str → Option Value}
    {Q : Flow → Shared → Prop} {E1 : Value → Shared → Prop} {env : Env} (he : env = envOf "law" (scopeOf w 269) L fa cd) (hB : Below callerA g [] g) (X : (hd.heap_1 w.params).In g) (N : News g L s.heap news) (T : Top p loose mean mg mb g)
    (F : Fr g L s.heap (fun z => if z = "x" then some (.ref ax) else if z = "y" then some (.ref ay) else if z = "digits" then some (.int d td) else if z = "top" then some (.int top tt) else if z = "limits" then some (.ref al) else if z = "n" then some (.int n0 tn) else if z = "a" then some (.ref aa) else m₀ z))
    (hP : LP w news ax ay al X0 Y0 d top) (hn : -16 ≤ n0 ∧ n0 ≤ 16) (hba : Br w news (.ref aa) (d3 (cWhole X0)))
    (hret : ∀ h' m' tk', Fr g L h' m' → Q (.ret (.bool true)) { s with heap := h', toks := tk' }) :
    wpAny (model prg w) (callerA.deeper env) (execs ((bodyOf w 269).drop 13) env) Q
      (fun e s' => wpAny (model prg w) (callerA.deeper env) (leaving env e) (fun _ s'' => E1 e s'') (fun e' s'' => E1 e' s'') s') s := by
  subst he
  (obtain ⟨sc, hsc⟩ : ∃ sc, scopeOf w 269 = sc := ⟨_, rfl⟩)
  rw [hsc]
  (change Scope.mk _ _ _ _ _ = sc at hsc)
  subst hsc
  (show wpAny _ _ (execs (List.cons _ _) _) _ _ _)
  have hall := pw_of hP.sx
  have hb1 : B3 (cWhole X0) 10000 := hall.b 1 (by decide) |> fun h => by
    have e : pw3 (cWhole X0) 1 = cWhole X0 := by unfold pw3 pw3 prod3; simp
    rw [e] at h; exact h
  obtain ⟨A0, hA0⟩ : ∃ A0, A0 = absI n0 := ⟨_, rfl⟩
  have hA1 : 0 ≤ A0 ∧ A0 ≤ 16 := by rw [hA0]; unfold absI; split <;> omega
  obtain ⟨hA2, hA3⟩ := hA1
  k_steps
  all_goals (try dsimp only)
  all_goals (refine' hret _ _ _ ?k1; (case k1 => k_asm))
theorem nn_1 {n : Int} (h : 0 ≤ n) (h' : n < 33) : -16 ≤ n.fdiv 2 ∧ n.fdiv 2 ≤ 16 := by rw [Int.fdiv_eq_ediv_of_nonneg _ (by decide)]; omega
theorem nn_2 {n : Int} (h : 0 ≤ n) (h' : n < 33) (h2 : n.fmod 2 ≠ 0) : -16 ≤ -(n.fdiv 2) - 1 ∧ -(n.fdiv 2) - 1 ≤ 16 := by
  rw [Int.fmod_eq_emod_of_nonneg _ (by decide)] at h2
  rw [Int.fdiv_eq_ediv_of_nonneg _ (by decide)]; omega
theorem lay_38 : True := by
  (k_with "my execs cons" => k_here; (with_reducible show wpAny _ _ (execs (Stmt.Assign [Expr.Name (Str.ofString "power") _] (Expr.Tuple _ _ _) _ :: _) _) _ _ _); k_dflt (refine law_s13 (by exact rfl) (by k_asm) (by k_asm) (by k_asm) (by k_asm) (by rename Fr _ _ _ _ => lF'; exact fr_put (fr_put (fr_put (fr_put (fr_put (fr_put (fr_put lF' rfl) rfl) rfl) rfl) rfl) rfl) rfl) (by tm_at "lp") (by first | exact nn_1 (by assumption) (by assumption) | exact nn_2 (by assumption) (by assumption) (by assumption)) (by refine Br.up (by assumption) (by tm_at "sub")) (by tm_at "ret")))
  trivial

set_option maxHeartbeats 16000000 in
theorem law_s11 {w : World} {X0 Y0 : C2} {ax ay al : Addr} {d top : Int} {td tt : Tok} {ns : List Int} {an aa : Addr}
    {p : Program} {loose : List Str} {mean : ExcName → Option Value} {mg mb : Str → Option Value}
    {g : Heap} {L fa : Addr} {cd : Value} {news : Led} {s : Shared} {m₀ : Str → Option Value}
    {Q : Flow → Shared → Prop} {E1 : Value → Shared → Prop} {env : Env} (he : env = envOf "law" (scopeOf w 269) L fa cd) (hB : Below callerA g [] g) (X : (hd.heap_1 w.params).In g) (N : News g L s.heap news) (T : Top p loose mean mg mb g)
    (F : Fr g L s.heap (fun z => if z = "x" then some (.ref ax) else if z = "y" then some (.ref ay) else if z = "digits" then some (.int d td) else if z = "top" then some (.int top tt) else if z = "limits" then some (.ref al) else if z = "nums" then some (.ref an) else if z = "a" then some (.ref aa) else m₀ z))
    (hP : LP w news ax ay al X0 Y0 d top) (hba : Br w news (.ref aa) (d3 (cWhole X0))) (hnu : Br w news (.ref an) (dL ns)) (hns : ns.length ≤ 100)
    (hret : ∀ h' m' tk', Fr g L h' m' → Q (.ret (.bool true)) { s with heap := h', toks := tk' }) :
    wpAny (model prg w) (callerA.deeper env) (execs ((bodyOf w 269).drop 11) env) Q
      (fun e s' => wpAny (model prg w) (callerA.deeper env) (leaving env e) (fun _ s'' => E1 e s'') (fun e' s'' => E1 e' s'') s') s := by
  subst he
  (obtain ⟨sc, hsc⟩ : ∃ sc, scopeOf w 269 = sc := ⟨_, rfl⟩)
  rw [hsc]
  (change Scope.mk _ _ _ _ _ = sc at hsc)
  subst hsc
  (show wpAny _ _ (execs (List.cons _ _) _) _ _ _)
  have q1 : (33 : Int).natAbs.log2 < 9000 := by decide
  obtain ⟨hp0, hp1⟩ := pick_bd ns 10 (show (0 : Int) < 33 by decide)
  k_steps
  all_goals (try dsimp only)
  all_goals (refine' hret _ _ _ ?k1; (case k1 => k_asm))
theorem lay_39 : True := by
  (k_with "my execs cons" => k_here; (with_reducible show wpAny _ _ (execs (Stmt.Assign [Expr.Name (Str.ofString "n") _] (Expr.Call _ _ _ _) _ :: _) _) _ _ _); k_dflt (refine law_s11 (by exact rfl) (by k_asm) (by k_asm) (by k_asm) (by k_asm) (by rename Fr _ _ _ _ => lF'; exact fr_put (fr_put (fr_put (fr_put (fr_put (fr_put (fr_put lF' rfl) rfl) rfl) rfl) rfl) rfl) rfl) (by tm_at "lp") (by refine Br.up (by assumption) (by tm_at "sub")) (by refine Br.up (by assumption) (by tm_at "sub")) (by assumption) (by tm_at "ret")))
  trivial

abbrev dDue (X Y : C2) : List Dat := [dO (some (dAdd (cWhole X) (cWhole Y))), dO (some (dSub (cWhole X) (cWhole Y))), dO (some (prod3 (cWhole X) (cWhole Y))), dO (over3 (cWhole X) (cWhole Y))]
theorem lay_40 : True := by
  (k_with "my subscriptTail" => k_here; (with_reducible show wpAny _ _ (subscriptTail _ _ (Value.ref _) (Value.int _ _)) _ _ _); (with_unfolding_all refine br_itemL (ds := dDue _ _) (by k_asm) (by k_asm) (by k_asm) (by assumption) (by tm_at "sub") (by decide) (by decide) (by rfl) ?_ (by with_unfolding_all rfl)); intro v' hb'; (try dsimp only))
  trivial

abbrev gDue {w : World} {n : Led} {ax ay al : Addr} {X Y : C2} {d top : Int} (_ : LP w n ax ay al X Y d top) : Nat → Dat := fun _ => .list (dDue X Y)
theorem lay_41 : True := by
  (k_with "my pyIter ref" => k_here; (rename IsRange _ _ _ _ _ _ _ _ => rgX); (rename LP _ _ _ _ _ _ _ _ _ => hlp'); k_dflt (refine br_range (Str.ofString "due") (gDue hlp') _ (by exact rfl) (by first | exact rgX | assumption) (by decide) (by decide) (by k_asm) (by k_asm) (by decide) (by rfl) (by assumption) ?_ ?_); all_goals (first | (intro i' t' v' nx' u' h' tk' hi' hs' hb' F' N' e'; subst e'; tm_at "inv"; (obtain ⟨k', hk'⟩ : ∃ k' : Int, k' = (i' : Int) := ⟨_, rfl⟩); rw [← hk'] at F'; (rcases (by omega : k' = 0 ∨ k' = 1 ∨ k' = 2 ∨ k' = 3) with q' | q' | q' | q' <;> subst q') <;> (try k_sweep) <;> (try k_fold)) | (intro v' nx' u' h' tk' hs' hb' F' N'; tm_at "inv"; (try k_sweep); (try k_fold))))
  trivial

set_option maxHeartbeats 16000000 in
theorem law_s10 {w : World} {X0 Y0 : C2} {ax ay al : Addr} {d top : Int} {td tt : Tok} {ns : List Int} {an aa : Addr} {ad : Addr}
    {p : Program} {loose : List Str} {mean : ExcName → Option Value} {mg mb : Str → Option Value}
    {g : Heap} {L fa : Addr} {cd : Value} {news : Led} {s : Shared} {m₀ : Str → Option Value}
    {Q : Flow → Shared → Prop} {E1 : Value → Shared → Prop} {env : Env} (he : env = envOf "law" (scopeOf w 269) L fa cd) (hB : Below callerA g [] g) (X : (hd.heap_1 w.params).In g) (N : News g L s.heap news) (T : Top p loose mean mg mb g)
    (F : Fr g L s.heap (fun z => if z = "x" then some (.ref ax) else if z = "y" then some (.ref ay) else if z = "digits" then some (.int d td) else if z = "top" then some (.int top tt) else if z = "limits" then some (.ref al) else if z = "nums" then some (.ref an) else if z = "a" then some (.ref aa) else if z = "due" then some (.ref ad) else m₀ z))
    (hP : LP w news ax ay al X0 Y0 d top) (hba : Br w news (.ref aa) (d3 (cWhole X0))) (hnu : Br w news (.ref an) (dL ns)) (hns : ns.length ≤ 100) (hdu : Br w news (.ref ad) (.list (dDue X0 Y0)))
    (hret : ∀ h' m' tk', Fr g L h' m' → Q (.ret (.bool true)) { s with heap := h', toks := tk' }) :
    wpAny (model prg w) (callerA.deeper env) (execs ((bodyOf w 269).drop 10) env) Q
      (fun e s' => wpAny (model prg w) (callerA.deeper env) (leaving env e) (fun _ s'' => E1 e s'') (fun e' s'' => E1 e' s'') s') s := by
  subst he
  (obtain ⟨sc, hsc⟩ : ∃ sc, scopeOf w 269 = sc := ⟨_, rfl⟩)
  rw [hsc]
  (change Scope.mk _ _ _ _ _ = sc at hsc)
  subst hsc
  (show wpAny _ _ (execs (List.cons _ _) _) _ _ _)
  have pa := pre_add hP.sx hP.sy
  have ps := pre_sub hP.sx hP.sy
  have pm := pre_mul hP.sx hP.sy
  have pd := pre_div hP.sx hP.sy
  have hd1 := hP.d1
  have hd7 := hP.d7
  k_steps
  all_goals (try dsimp only)
  all_goals (refine' hret _ _ _ ?k1; (case k1 => k_asm))
/-! due += [..]: a list grown in place -/
open PySem.W.KIN
theorem noFillI_list : fillsInplaceSlot (.type "list") "add" (Operator.Add == .Add) = pure false := by
  unfold fillsInplaceSlot
  show (typeLookup (.type "list") (dunderI "add") >>= fun fi => pure (fi.isSome && !isSeqSlot fi)) = pure false
  rw [PySem.F.slot_list_iadd.lookup]
  have h : isSeqSlot (some (.builtin "list.__iadd__")) = true := by decide +kernel
  show (pure ((some (Value.builtin "list.__iadd__")).isSome && !isSeqSlot (some (.builtin "list.__iadd__"))) : Sem Bool) = pure false
  rw [h]; rfl
theorem seqI_list : seqSlot? (.type "list") (dunderI "add") = pure (some (.builtin "list.__iadd__")) := PySem.seqSlot_of PySem.F.slot_list_iadd.lookup (by decide +kernel)
theorem iadd_two {M : Model} {A : Around} {E : Value → Shared → Prop} {s : Shared} {a b : Value} {Q : Value → Shared → Prop} (ha : s.TypeIs a "list") (hb : s.TypeIs b "list")
    (hc : wpAny M A (call (.builtin "list.__iadd__") [a, b]) Q E s) : wpAny M A (inplaceOp .Add a b) Q E s := by
  unfold inplaceOp
  refine wpAny_holding ?_
  refine wpAny_bind (wpAny_typeOf ha (wpAny_bind (wpAny_of_eq noFillI_list ?_)))
  show wpAny M A (if false = true then _ else _) Q E s
  rw [if_neg Bool.false_ne_true]
  refine wpAny_bind (wpAny_binaryOp1_none (nm := "add") ha hb noFill_list_add ?_)
  refine wpAny_bind (wpAny_of_eq seqI_list ?_)
  exact wpAny_bind (wpAny_rule hc)
theorem ext_two {prog : Program} {w : World} {A : Around} {s : Shared} {R : Result → Shared → Prop} (S it : Addr) (res : Value) {xs ys : Array Value} {c n : Nat}
    (hS : s.heap.get? S = some (W.listOf xs c)) (ho : s.heap.get? it = some (W.listOf ys n)) (hx : xs.size ≤ 10) (hy : ys.size ≤ 10)
    (hR : R (.ok (.ret res)) { s with heap := s.heap.update S (Obj.mapSeq (· ++ ys)) }) :
    wpAny (model prog w) A.in1 (Builtin.List.listExtendWith (.ref S) (.ref it) res)
      (fun fin s' => match fin with | .done f => R (.ok f) s' | .again c' => c'.quiet = true ∧ codeAny (model prog w) A c' R s') (fun e s' => R (.error e) s') s := by
  have hs1 : xs.size ≤ sizeLine := by rw [sizeLine_eq]; omega
  have hs2 : ys.size ≤ sizeLine := by rw [sizeLine_eq]; omega
  unfold Builtin.List.listExtendWith
  refine wpAny_bind (wpAny_typeOf ⟨_, ho, rfl⟩ ?_)
  have h1 : (Builtin.List.listSameRef (.ref S) (.ref it) || Value.type "list" == Value.type "list" || Value.type "list" == Value.type "tuple") = true := by simp
  simp only [h1, if_true]
  refine wpAny_bind ?_
  unfold Builtin.List.listItems
  refine wpAny_bind (wpAny_seqItems ho rfl (wpAny_pure ?_))
  refine wpAny_bind ?_
  refine wpAny_bind (wpAny_seqItems hS rfl (wpAny_pure ?_))
  have h2 : (!xs.isEmpty && Builtin.List.listTooLong (xs.size + ys.size)) = false := by
    have : Builtin.List.listTooLong (xs.size + ys.size) = false := by
      unfold Builtin.List.listTooLong
      have := sizeLine_eq
      simp
      omega
    rw [this, Bool.and_false]
  simp only [h2, Bool.false_eq_true, if_false]
  show wpAny _ A.in1 (updateSeq S (· ++ ys) >>= fun _ => ret res) _ _ s
  refine wpAny_bind (wpAny_updateSeq hS rfl ?_)
  exact wpAny_pure hR
theorem allLt_get {d : Addr} : ∀ {l : List (Addr × Obj)}, AllLt d l → ∀ p ∈ l, p.1 < d
  | [], _, p, hp => by cases hp
  | q :: r, h, p, hp => by
    rcases List.mem_cons.mp hp with rfl | hp
    · exact h.1
    · exact allLt_get h.2 p hp
section
variable {prog : Program} {w : World} {A : Around} {E : Value → Shared → Prop} {s : Shared} {h₀ : Heap} {L D B : Addr} {m : Str → Option Value} {news n' : Led} {xs ys : Array Value} {k1 k2 : Nat} {Q : Value → Shared → Prop}
theorem iadd_due (F : Fr h₀ L s.heap m) (N : News h₀ L s.heap n') (hD : (D, W.listOf xs k1) ∈ n') (hB : (B, W.listOf ys k2) ∈ n') (hne : ∀ p ∈ news, p.1 ≠ D) (hs : ∀ p ∈ news, p ∈ n') (hx : xs.size ≤ 10) (hy : ys.size ≤ 10)
    (k : ∀ h' n₂ kk, Fr h₀ L h' m → News h₀ L h' n₂ → (∀ p ∈ news, p ∈ n₂) → (D, W.listOf (xs ++ ys) kk) ∈ n₂ → (∀ a vs j, (a, tupO vs j) ∈ n' → (a, tupO vs j) ∈ n₂) → Q (.ref D) { s with heap := h' }) :
    wpAny (model prog w) A (inplaceOp .Add (.ref D) (.ref B)) Q E s := by
  have z := N _ hD
  have hs1 : xs.size ≤ sizeLine := by rw [sizeLine_eq]; omega
  refine iadd_two ⟨_, z.1, rfl⟩ ⟨_, N.get hB, rfl⟩ ?_
  refine wpAny_call (codeAny_call_builtin PySem.F.slot_list_iadd.plain PySem.F.entry_list_iadd (PySem.F.slot_list_iadd.check _ _ _ _ _ _ _ _ ⟨_, z.1, rfl⟩ (PySem.F.args_list_iadd_2 _ _) ?_))
  show wpAny _ _ (Builtin.List.listExtendWith (.ref D) (.ref B) (.ref D)) _ _ _
  refine ext_two (R := wants Q E) D B (.ref D) z.1 (N.get hB) hx hy ?_
  have hself := Heap.get?_update_self (Obj.mapSeq (· ++ ys)) z.1 rfl
  refine k _ ((D, Obj.mapSeq (· ++ ys) (W.listOf xs k1)) :: n'.filter (fun p => p.1 != D)) _ (F.change (Heap.SameBut.update ..) z.2.1 z.2.2) ?_ ?_ (.head _) ?_
  · intro p hp
    rcases List.mem_cons.mp hp with rfl | hp
    · exact ⟨hself, z.2⟩
    · obtain ⟨h1, h2⟩ := List.mem_filter.mp hp
      simp only [bne_iff_ne, ne_eq] at h2
      exact ⟨(Heap.get?_update_other _ _ (Ne.symm h2)).trans (N p h1).1, (N p h1).2⟩
  · intro p hp
    refine .tail _ (List.mem_filter.mpr ⟨hs p hp, ?_⟩)
    simp only [bne_iff_ne, ne_eq]
    exact hne p hp
  · intro a vs j hp
    refine .tail _ (List.mem_filter.mpr ⟨hp, ?_⟩)
    simp only [bne_iff_ne, ne_eq]
    rintro rfl
    have h1 := (N _ hp).1
    rw [z.1] at h1
    injection h1 with h1
    injection h1 with h1
    injection h1 with h1
    exact absurd h1 (by decide)
end
theorem br_off3 {w : World} {n n₂ : Led} {v : Value} {o : Option I3} (hb : Br w n v (dO o)) (hk : ∀ a vs j, (a, tupO vs j) ∈ n → (a, tupO vs j) ∈ n₂) : Br w n₂ v (dO o) := by
  cases o with
  | none => cases (show Br w n v .none from hb).none_inv; exact .none
  | some p =>
    cases (show Br w n v (.tuple [.int p.1, .int p.2.1, .int p.2.2]) from hb) with
    | tuple h r =>
      cases r with
      | cons r1 r => cases r with
        | cons r2 r => cases r with
          | cons r3 r =>
            cases r
            obtain ⟨t1, rfl⟩ := r1.int_inv
            obtain ⟨t2, rfl⟩ := r2.int_inv
            obtain ⟨t3, rfl⟩ := r3.int_inv
            exact .tuple (h.turn (hk _ _ _)) (.cons (.int _ _) (.cons (.int _ _) (.cons (.int _ _) .nil)))
theorem hne_of {D D1 : Addr} {news : Led} (h : D1 < D ∧ AllLt D news) : ∀ p ∈ news, p.1 ≠ D := fun p hp => Nat.ne_of_lt (allLt_get h.2 p hp)
theorem hne_of1 {D : Addr} {news : Led} (h : AllLt D news) : ∀ p ∈ news, p.1 ≠ D := fun p hp => Nat.ne_of_lt (allLt_get h p hp)
theorem hne_of2 {D : Addr} {news : Led} (h : ∀ p ∈ news, p.1 < D) : ∀ p ∈ news, p.1 ≠ D := fun p hp => Nat.ne_of_lt (h p hp)
theorem iadd_lp {prog : Program} {w : World} {A : Around} {E : Value → Shared → Prop} {s : Shared} {h₀ : Heap} {L D B : Addr} {m : Str → Option Value} {news n' : Led} {xs ys : List Value} {k1 k2 : Nat} {Q : Value → Shared → Prop}
    {ax ay al : Addr} {X Y : C2} {d top : Int} (_ : LP w news ax ay al X Y d top)
    (F : Fr h₀ L s.heap m) (N : News h₀ L s.heap n') (hD : (D, W.listOf xs.toArray k1) ∈ n') (hB : (B, W.listOf ys.toArray k2) ∈ n') (hne : ∀ p ∈ news, p.1 ≠ D) (hs : ∀ p ∈ news, p ∈ n') (hx : xs.toArray.size ≤ 10) (hy : ys.toArray.size ≤ 10)
    (k : ∀ h' n₂ kk, Fr h₀ L h' m → News h₀ L h' n₂ → (∀ p ∈ news, p ∈ n₂) → (D, W.listOf (xs ++ ys).toArray kk) ∈ n₂ → (∀ a vs j, (a, tupO vs j) ∈ n' → (a, tupO vs j) ∈ n₂) → Q (.ref D) { s with heap := h' }) :
    wpAny (model prog w) A (inplaceOp .Add (.ref D) (.ref B)) Q E s :=
  iadd_due F N hD hB hne hs hx hy fun h' n₂ kk F' N' hs' hD' ht' => k h' n₂ kk F' N' hs' (by rw [← List.append_toArray]; exact hD') ht'
theorem lay_42 : True := by
  (k_with "my inplaceOp Add ref" => k_here; (with_reducible show wpAny _ _ (inplaceOp Operator.Add (Value.ref _) (Value.ref _)) _ _ _); (rename LP _ _ _ _ _ _ _ _ _ => hlp'); k_dflt (refine iadd_lp hlp' (by k_asm) (by k_asm) (by tm_at "mem") (by tm_at "mem") (by first | exact hne_of (by assumption) | exact hne_of1 (by assumption) | exact hne_of2 (by assumption)) (by tm_at "sub") (by exact Nat.le_of_ble_eq_true rfl) (by exact Nat.le_of_ble_eq_true rfl) ?_); intro h' n2' kk' F' N' hs' hD' ht'; (try k_sweep))
  (k_with "tm duel" => first | exact BrAll.nil | (apply BrAll.cons; tm_at "duee"; tm_at "duel"))
  (k_with "tm duee" => focus (apply br_off3; rotate_left; assumption; tm_at "duef"))
  (k_with "tm duef" => first | (apply Br.up; assumption; tm_at "sub") | (apply Br.tuple; (apply Or.inl; tm_at "mem"); (repeat' (first | exact BrAll.nil | refine BrAll.cons (Br.int _ _) ?_))))
  (k_with "my execs cons" => k_here; (with_reducible show wpAny _ _ (execs (Stmt.For (Expr.Name (Str.ofString "op") _) _ _ _ _ :: _) _) _ _ _); k_dflt (refine law_s10 (by exact rfl) (by k_asm) (by k_asm) (by k_asm) (by k_asm) (by rename Fr _ _ _ _ => lF'; exact fr_put (fr_put (fr_put (fr_put (fr_put (fr_put (fr_put (fr_put lF' rfl) rfl) rfl) rfl) rfl) rfl) rfl) rfl) (by tm_at "lp") (by refine Br.up (by assumption) (by tm_at "sub")) (by refine Br.up (by assumption) (by tm_at "sub")) (by assumption) (by refine Br.list (Or.inl (by assumption)) (by tm_at "duel")) (by tm_at "ret")))
  (k_with "my call ref" => k_here; (with_reducible show wpAny _ _ (call (Value.ref 248) _) _ _ _); k_dflt (refine fn_use (law_product_c _ _ _ (cWhole _) (cWhole _)) (by k_asm) (by k_asm) (by k_asm) (by k_asm) (by k_asm) (by exact rfl) (by refine And.intro (And.intro (by refine Br.up (by assumption) (by tm_at "sub")) (by refine Br.up (by assumption) (by tm_at "sub"))) (And.intro (b3_mono (i := 10000) (by assumption) (by decide)) (b3_mono (i := 10000) (by assumption) (by decide)))) (by ktr_room) (by ktr_units) ?_); tm_at "got")
  (k_with "my call ref" => k_here; (with_reducible show wpAny _ _ (call (Value.ref 255) _) _ _ _); k_dflt (refine fn_use (law_over_c _ _ _ (cWhole _) (cWhole _)) (by k_asm) (by k_asm) (by k_asm) (by k_asm) (by k_asm) (by exact rfl) (by refine And.intro (And.intro (by refine Br.up (by assumption) (by tm_at "sub")) (by refine Br.up (by assumption) (by tm_at "sub"))) (And.intro (by assumption) (by assumption))) (by ktr_room) (by ktr_units) ?_); intro r' n' h' tk' F' N' hs' hb'; (try k_sweep); (try dsimp only); (try k_fold))
  trivial

set_option maxHeartbeats 16000000 in
theorem law_s8 {w : World} {X0 Y0 : C2} {ax ay al : Addr} {d top : Int} {td tt : Tok} {ns : List Int} {an aa : Addr} {ab : Addr}
    {p : Program} {loose : List Str} {mean : ExcName → Option Value} {mg mb : Str → Option Value}
    {g : Heap} {L fa : Addr} {cd : Value} {news : Led} {s : Shared} {m₀ : Str → Option Value}
    {Q : Flow → Shared → Prop} {E1 : Value → Shared → Prop} {env : Env} (he : env = envOf "law" (scopeOf w 269) L fa cd) (hB : Below callerA g [] g) (X : (hd.heap_1 w.params).In g) (N : News g L s.heap news) (T : Top p loose mean mg mb g)
    (F : Fr g L s.heap (fun z => if z = "x" then some (.ref ax) else if z = "y" then some (.ref ay) else if z = "digits" then some (.int d td) else if z = "top" then some (.int top tt) else if z = "limits" then some (.ref al) else if z = "nums" then some (.ref an) else if z = "a" then some (.ref aa) else if z = "b" then some (.ref ab) else m₀ z))
    (hP : LP w news ax ay al X0 Y0 d top) (hba : Br w news (.ref aa) (d3 (cWhole X0))) (hnu : Br w news (.ref an) (dL ns)) (hns : ns.length ≤ 100) (hbb : Br w news (.ref ab) (d3 (cWhole Y0)))
    (hret : ∀ h' m' tk', Fr g L h' m' → Q (.ret (.bool true)) { s with heap := h', toks := tk' }) :
    wpAny (model prg w) (callerA.deeper env) (execs ((bodyOf w 269).drop 8) env) Q
      (fun e s' => wpAny (model prg w) (callerA.deeper env) (leaving env e) (fun _ s'' => E1 e s'') (fun e' s'' => E1 e' s'') s') s := by
  subst he
  (obtain ⟨sc, hsc⟩ : ∃ sc, scopeOf w 269 = sc := ⟨_, rfl⟩)
  rw [hsc]
  (change Scope.mk _ _ _ _ _ = sc at hsc)
  subst hsc
  (show wpAny _ _ (execs (List.cons _ _) _) _ _ _)
  have bx : B3 (cWhole X0) 10000 := (pbX hP.sx).b3 (Nat.pow_lt_pow_right (by decide) (by decide)) (Nat.pow_lt_pow_right (by decide) (by decide))
  have byy : B3 (cWhole Y0) 10000 := (pbX hP.sy).b3 (Nat.pow_lt_pow_right (by decide) (by decide)) (Nat.pow_lt_pow_right (by decide) (by decide))
  have m1 := Bd.ok bx.x byy.z (by decide) (by decide)
  have m2 := Bd.ok byy.x bx.z (by decide) (by decide)
  have m3 := Bd.ok bx.y byy.z (by decide) (by decide)
  have m4 := Bd.ok byy.y bx.z (by decide) (by decide)
  have m5 := Bd.ok bx.z byy.z (by decide) (by decide)
  k_steps
  all_goals (try dsimp only)
  all_goals (refine' hret _ _ _ ?k1; (case k1 => k_asm))
theorem lay_43 : True := by
  (k_with "my execs cons" => k_here; (with_reducible show wpAny _ _ (execs (Stmt.Assign [Expr.Name (Str.ofString "due") _] _ _ :: _) _) _ _ _); k_dflt (refine law_s8 (by exact rfl) (by k_asm) (by k_asm) (by k_asm) (by k_asm) (by rename Fr _ _ _ _ => lF'; exact fr_put (fr_put (fr_put (fr_put (fr_put (fr_put (fr_put (fr_put lF' rfl) rfl) rfl) rfl) rfl) rfl) rfl) rfl) (by tm_at "lp") (by refine Br.up (by assumption) (by tm_at "sub")) (by refine Br.up (by assumption) (by tm_at "sub")) (by assumption) (by refine Br.up (by assumption) (by tm_at "sub")) (by tm_at "ret")))
  (k_with "my call ref" => k_here; (with_reducible show wpAny _ _ (call (Value.ref 241) _) _ _ _); k_dflt (refine fn_use (law_whole_c _ _ _ _ _ _) (by k_asm) (by k_asm) (by k_asm) (by k_asm) (by k_asm) (by first | exact rfl | assumption) (by tm_at "pre") (by ktr_room) (by ktr_units) ?_; tm_at "got"))
  trivial

set_option maxHeartbeats 16000000 in
theorem law_s6 {w : World} {X0 Y0 : C2} {ax ay al : Addr} {d top : Int} {td tt : Tok} {ns : List Int} {an : Addr}
    {p : Program} {loose : List Str} {mean : ExcName → Option Value} {mg mb : Str → Option Value}
    {g : Heap} {L fa : Addr} {cd : Value} {news : Led} {s : Shared} {m₀ : Str → Option Value}
    {Q : Flow → Shared → Prop} {E1 : Value → Shared → Prop} {env : Env} (he : env = envOf "law" (scopeOf w 269) L fa cd) (hB : Below callerA g [] g) (X : (hd.heap_1 w.params).In g) (N : News g L s.heap news) (T : Top p loose mean mg mb g)
    (F : Fr g L s.heap (fun z => if z = "x" then some (.ref ax) else if z = "y" then some (.ref ay) else if z = "digits" then some (.int d td) else if z = "top" then some (.int top tt) else if z = "limits" then some (.ref al) else if z = "nums" then some (.ref an) else m₀ z))
    (hP : LP w news ax ay al X0 Y0 d top) (hnu : Br w news (.ref an) (dL ns)) (hns : ns.length ≤ 100)
    (hret : ∀ h' m' tk', Fr g L h' m' → Q (.ret (.bool true)) { s with heap := h', toks := tk' }) :
    wpAny (model prg w) (callerA.deeper env) (execs ((bodyOf w 269).drop 6) env) Q
      (fun e s' => wpAny (model prg w) (callerA.deeper env) (leaving env e) (fun _ s'' => E1 e s'') (fun e' s'' => E1 e' s'') s') s := by
  subst he
  (obtain ⟨sc, hsc⟩ : ∃ sc, scopeOf w 269 = sc := ⟨_, rfl⟩)
  rw [hsc]
  (change Scope.mk _ _ _ _ _ = sc at hsc)
  subst hsc
  (show wpAny _ _ (execs (List.cons _ _) _) _ _ _)
  have hx := hP.x
  have hy := hP.y
  have s1 := hP.sx.x.sm
  have s2 := hP.sx.y.sm
  have s3 := hP.sy.x.sm
  have s4 := hP.sy.y.sm
  k_steps
  all_goals (try dsimp only)
  all_goals (refine' hret _ _ _ ?k1; (case k1 => k_asm))
theorem lay_44 : True := by
  (k_with "tm px" => refine Br.tuple (Or.inl (by tm_at "mem")) (BrAll.cons (by refine Br.up (by assumption) (by tm_at "sub")) (BrAll.cons (by refine Br.up (by assumption) (by tm_at "sub")) BrAll.nil)))
  (k_with "my execs cons" => k_here; (with_reducible show wpAny _ _ (execs (Stmt.Assign [Expr.Name (Str.ofString "a") _] _ _ :: _) _) _ _ _); k_dflt (refine law_s6 (by exact rfl) (by k_asm) (by k_asm) (by k_asm) (by k_asm) (by rename Fr _ _ _ _ => lF'; exact fr_put (fr_put (fr_put (fr_put (fr_put (fr_put lF' rfl) rfl) rfl) rfl) rfl) rfl) (by refine LP.mk (X := (rl _ 2 _ _, rl _ 4 _ _)) (Y := (rl _ 6 _ _, rl _ 8 _ _)) (by tm_at "px") (by tm_at "px") (by refine LimAt.up (by assumption) (by tm_at "sub")) (csx_of _ 2 4 (by assumption) (by assumption) (by assumption) (by assumption)) (csx_of _ 6 8 (by assumption) (by assumption) (by assumption) (by assumption)) (by assumption) (by assumption) (by omega)) (by refine Br.up (by assumption) (by tm_at "sub")) (by assumption) (by tm_at "ret")))
  (k_with "my call ref" => k_here; (with_reducible show wpAny _ _ (call (Value.ref 227) _) _ _ _); k_dflt (refine fn_use (law_real_c _ _ _ _ _ _ _ _ _) (by k_asm) (by k_asm) (by k_asm) (by k_asm) (by k_asm) (by first | exact rfl | assumption) (by tm_at "pre") (by ktr_room) (by ktr_units) ?_; tm_at "got"))
  trivial

set_option maxHeartbeats 16000000 in
theorem law_s4 {w : World} {al an : Addr} {d top : Int} {td tt : Tok} {ns : List Int}
    {p : Program} {loose : List Str} {mean : ExcName → Option Value} {mg mb : Str → Option Value}
    {g : Heap} {L fa : Addr} {cd : Value} {news : Led} {s : Shared} {m₀ : Str → Option Value}
    {Q : Flow → Shared → Prop} {E1 : Value → Shared → Prop} {env : Env} (he : env = envOf "law" (scopeOf w 269) L fa cd) (hB : Below callerA g [] g) (X : (hd.heap_1 w.params).In g) (N : News g L s.heap news) (T : Top p loose mean mg mb g)
    (F : Fr g L s.heap (fun z => if z = "digits" then some (.int d td) else if z = "top" then some (.int top tt) else if z = "limits" then some (.ref al) else if z = "nums" then some (.ref an) else m₀ z))
    (hL : LimAt w news al d top) (hnu : Br w news (.ref an) (dL ns)) (hns : ns.length ≤ 100) (hd1 : 1 ≤ d) (hd7 : d ≤ 7) (ht0 : 3 ≤ top) (ht1 : top ≤ 38)
    (hret : ∀ h' m' tk', Fr g L h' m' → Q (.ret (.bool true)) { s with heap := h', toks := tk' }) :
    wpAny (model prg w) (callerA.deeper env) (execs ((bodyOf w 269).drop 4) env) Q
      (fun e s' => wpAny (model prg w) (callerA.deeper env) (leaving env e) (fun _ s'' => E1 e s'') (fun e' s'' => E1 e' s'') s') s := by
  subst he
  (obtain ⟨sc, hsc⟩ : ∃ sc, scopeOf w 269 = sc := ⟨_, rfl⟩)
  rw [hsc]
  (change Scope.mk _ _ _ _ _ = sc at hsc)
  subst hsc
  (show wpAny _ _ (execs (List.cons _ _) _) _ _ _)
  have ht2 : top ≤ 100 := by omega
  k_steps
  all_goals (try dsimp only)
  all_goals (refine' hret _ _ _ ?k1; (case k1 => k_asm))
theorem lay_45 : True := by
  (k_with "my execs cons" => k_here; (with_reducible show wpAny _ _ (execs (Stmt.Assign [Expr.Name (Str.ofString "x") _] _ _ :: _) _) _ _ _); k_dflt (refine law_s4 (by exact rfl) (by k_asm) (by k_asm) (by k_asm) (by k_asm) (by rename Fr _ _ _ _ => lF'; exact fr_put (fr_put (fr_put (fr_put lF' rfl) rfl) rfl) rfl) (by exact ⟨⟨_, _, _, _, _, _, _, _, _, _, _, _, _, _, _, _, _, _, (by tm_at "mem"), (by tm_at "mem")⟩⟩) (by refine Br.up (by assumption) (by tm_at "sub")) (by assumption) (by assumption) (by assumption) (by assumption) (by assumption) (by tm_at "ret")))
  trivial

set_option maxHeartbeats 16000000 in
theorem law_s3 {w : World} {an : Addr} {d top : Int} {td tt : Tok} {ns : List Int}
    {p : Program} {loose : List Str} {mean : ExcName → Option Value} {mg mb : Str → Option Value}
    {g : Heap} {L fa : Addr} {cd : Value} {news : Led} {s : Shared} {m₀ : Str → Option Value}
    {Q : Flow → Shared → Prop} {E1 : Value → Shared → Prop} {env : Env} (he : env = envOf "law" (scopeOf w 269) L fa cd) (hB : Below callerA g [] g) (X : (hd.heap_1 w.params).In g) (N : News g L s.heap news) (T : Top p loose mean mg mb g)
    (F : Fr g L s.heap (fun z => if z = "digits" then some (.int d td) else if z = "top" then some (.int top tt) else if z = "nums" then some (.ref an) else m₀ z))
    (hnu : Br w news (.ref an) (dL ns)) (hns : ns.length ≤ 100) (hd1 : 1 ≤ d) (hd7 : d ≤ 7) (ht0 : 3 ≤ top) (ht1 : top ≤ 38)
    (hret : ∀ h' m' tk', Fr g L h' m' → Q (.ret (.bool true)) { s with heap := h', toks := tk' }) :
    wpAny (model prg w) (callerA.deeper env) (execs ((bodyOf w 269).drop 3) env) Q
      (fun e s' => wpAny (model prg w) (callerA.deeper env) (leaving env e) (fun _ s'' => E1 e s'') (fun e' s'' => E1 e' s'') s') s := by
  subst he
  (obtain ⟨sc, hsc⟩ : ∃ sc, scopeOf w 269 = sc := ⟨_, rfl⟩)
  rw [hsc]
  (change Scope.mk _ _ _ _ _ = sc at hsc)
  subst hsc
  (show wpAny _ _ (execs (List.cons _ _) _) _ _ _)
  k_steps
  all_goals (try dsimp only)
  all_goals (refine' hret _ _ _ ?k1; (case k1 => k_asm))
theorem lay_46 : True := by
  (k_with "my execs cons" => k_here; (with_reducible show wpAny _ _ (execs (Stmt.Assign [Expr.Name (Str.ofString "limits") _] _ _ :: _) _) _ _ _); k_dflt (refine law_s3 (by exact rfl) (by k_asm) (by k_asm) (by k_asm) (by k_asm) (by rename Fr _ _ _ _ => lF'; exact fr_put (fr_put (fr_put lF' rfl) rfl) rfl) (by refine Br.up (by assumption) (by tm_at "sub")) (by assumption) (by omega) (by omega) (by omega) (by omega) (by tm_at "ret")))
  trivial

set_option maxHeartbeats 16000000 in
theorem law_s1 {w : World} {ns : List Int} {an : Addr}
    {p : Program} {loose : List Str} {mean : ExcName → Option Value} {mg mb : Str → Option Value}
    {g : Heap} {L fa : Addr} {cd : Value} {news : Led} {s : Shared} {m₀ : Str → Option Value}
    {Q : Flow → Shared → Prop} {E1 : Value → Shared → Prop} {env : Env} (he : env = envOf "law" (scopeOf w 269) L fa cd) (hB : Below callerA g [] g) (X : (hd.heap_1 w.params).In g) (N : News g L s.heap news) (T : Top p loose mean mg mb g)
    (F : Fr g L s.heap (fun z => if z = "nums" then some (.ref an) else m₀ z))
    (hnu : Br w news (.ref an) (dL ns)) (hns : ns.length ≤ 100)
    (hret : ∀ h' m' tk', Fr g L h' m' → Q (.ret (.bool true)) { s with heap := h', toks := tk' }) :
    wpAny (model prg w) (callerA.deeper env) (execs ((bodyOf w 269).drop 1) env) Q
      (fun e s' => wpAny (model prg w) (callerA.deeper env) (leaving env e) (fun _ s'' => E1 e s'') (fun e' s'' => E1 e' s'') s') s := by
  subst he
  (obtain ⟨sc, hsc⟩ : ∃ sc, scopeOf w 269 = sc := ⟨_, rfl⟩)
  rw [hsc]
  (change Scope.mk _ _ _ _ _ = sc at hsc)
  subst hsc
  (show wpAny _ _ (execs (List.cons _ _) _) _ _ _)
  have q1 : (7 : Int).natAbs.log2 < 9000 := by decide
  have q2 : (36 : Int).natAbs.log2 < 9000 := by decide
  obtain ⟨hp0, hp1⟩ := pick_bd ns 0 (show (0 : Int) < 7 by decide)
  obtain ⟨hp2, hp3⟩ := pick_bd ns 1 (show (0 : Int) < 36 by decide)
  k_steps
  all_goals (try dsimp only)
  all_goals (refine' hret _ _ _ ?k1; (case k1 => k_asm))
theorem lay_47 : True := by
  (k_with "my execs cons" => k_here; (with_reducible show wpAny _ _ (execs (Stmt.Assign [Expr.Name (Str.ofString "digits") _] _ _ :: _) _) _ _ _); k_dflt (refine law_s1 (by exact rfl) (by k_asm) (by k_asm) (by k_asm) (by k_asm) (by rename Fr _ _ _ _ => lF'; exact fr_put lF' rfl) (by refine br_ints (by exact List.Mem.head _) (by assumption)) (by first | assumption | omega) (by tm_at "ret")))
  trivial

set_option maxHeartbeats 16000000 in
theorem law_s0 {w : World} {ns : List Int} {vs : List Value} {a0 : Addr}
    {p : Program} {loose : List Str} {mean : ExcName → Option Value} {mg mb : Str → Option Value}
    {g : Heap} {L fa : Addr} {cd : Value} {news : Led} {s : Shared} {m₀ : Str → Option Value}
    {Q : Flow → Shared → Prop} {E1 : Value → Shared → Prop} {env : Env} (he : env = envOf "law" (scopeOf w 269) L fa cd) (hB : Below callerA g [] g) (X : (hd.heap_1 w.params).In g) (N : News g L s.heap news) (T : Top p loose mean mg mb g)
    (F : Fr g L s.heap (fun z => if z = "script" then some (.ref a0) else m₀ z))
    (hl : g.IsList a0 vs.toArray) (hi : IntsAre vs ns) (hn : ns.length ≤ 63)
    (hret : ∀ h' m' tk', Fr g L h' m' → Q (.ret (.bool true)) { s with heap := h', toks := tk' }) :
    wpAny (model prg w) (callerA.deeper env) (execs (bodyOf w 269) env) Q
      (fun e s' => wpAny (model prg w) (callerA.deeper env) (leaving env e) (fun _ s'' => E1 e s'') (fun e' s'' => E1 e' s'') s') s := by
  subst he
  (obtain ⟨sc, hsc⟩ : ∃ sc, scopeOf w 269 = sc := ⟨_, rfl⟩)
  rw [hsc]
  (change Scope.mk _ _ _ _ _ = sc at hsc)
  subst hsc
  (show wpAny _ _ (execs (List.cons _ _) _) _ _ _)
  k_steps
  all_goals (try dsimp only)
  all_goals (refine' hret _ _ _ ?k1; (case k1 => k_asm))
set_option maxHeartbeats 0 in
theorem law_holds : PySem.Challenge.rw_no0236_01.Holds := by
  (w_on; o_law)
  refine holds_open (q := vw) (loose := [PySem.Str.ofString "_law_round"]) (Xt := fun s => xlAt vw [] s && recOk (RowW.records PySem.Challenge.rw_no0236_01.row.toRowW) s) (XP := XL vw []) (Yf := Hook.obs (kHook hd.heap_1 hdas (fun _ => by kernel_rfl))) (Ya := Hook.val (kHook hd.heap_1 hdas (fun _ => by kernel_rfl))) (YP := Hook.says (kHook hd.heap_1 hdas (fun _ => by kernel_rfl))) (N := 3546)
    hl0 (Hook.of (kHook hd.heap_1 hdas (fun _ => by kernel_rfl))) (Hook.keeps (kHook hd.heap_1 hdas (fun _ => by kernel_rfl))) (fun s e => xl_of s (Bool.and_eq_true_iff.mp e).1) XL.keeps (by rfl) (by rfl) (by rfl) (fun s e => recFacts_of (Bool.and_eq_true_iff.mp e).2) (by rfl) (by first | assumption | decide +kernel) (by decide +kernel) ⟨rfl, rfl, rfl, rfl, rfl, by decide +kernel⟩ ?hw ?hc
  case hw => w_witness2
  k_go0
  (all_goals try k_fold)
  k_dflt (refine' law_s0 ?he ?hB ?X ?N ?T ?F ?hl ?hi ?hn ?hret)
  (case he => exact rfl)
  (case hB => assumption)
  (case X => assumption)
  (case N => assumption)
  (case T => assumption)
  (case F => (rename Fr _ _ _ _ => lF'; exact fr_put lF' rfl))
  (case hl => assumption)
  (case hi => assumption)
  (case hn => omega)
  intro h' m' tk' F'
  k_steps
  all_goals (try k_data)
  all_goals w_report
end Mine
theorem PySem.Challenge.cw_no0236_01_holds : PySem.Challenge.rw_no0236_01.Holds :=
  Mine.law_holds
