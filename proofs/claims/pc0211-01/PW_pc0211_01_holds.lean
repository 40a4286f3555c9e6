import PyProof.Rows.All
import Wide.All
import OpenK.AllK
import Wide.FinOn
import Lean
import PySem.Challenge.RW_pc0211_01
open PySem PySem.W PyProof.Rows PySem.Spec PySem.Calls
set_option Elab.async false
set_option maxRecDepth 100000
set_option maxHeartbeats 0
namespace Mine
section
local macro_rules | `(tactic| o_head $_) => `(tactic| assumption)
theorem hk (hh : PySem.Challenge.rw_pc0211_01.row.Holds) : PySem.Challenge.rw_pc0211_01.row.Holds := by k_head
end
noncomputable def V : Program := view PySem.Challenge.pw_pc0211_01 [1, 2, 3, 4, 5, 6, 7, 8, 9, 10, 11, 12, 13, 14, 15, 16, 17, 18, 19, 20, 22, 23, 24, 25, 26, 27, 28, 29, 30, 31, 32, 33, 34, 35, 36, 37, 38, 39, 40, 41, 42, 43, 45, 46, 47, 48, 49, 50, 51, 52]
abbrev loo : List Str := [Str.ofString "LEFT_LEVELS", Str.ofString "MOST_NUMBER", Str.ofString "JOINING", Str.ofString "OCTET_TEXTS"]
abbrev LV : List (Str × WData) := [(Str.ofString "MOST_NUMBER", WData.int 13182040934309431001038897942365913631840191610932727690928034502417569281128344551079752123172122033140940756480716823038446817694240581281731062452512184038544674444386888956328970642771993930036586552924249514488832183389415832375620009284922608946111038578754077913265440918583125586050431647284603636490823850007826811672468900210689104488089485347192152708820119765006125944858397761874669301278745233504796586994514054435217053803732703240283400815926169348364799472716094576894007243168662568886603065832486830606125017643356469732407252874567217733694824236675323341755681839221954693820456072020253884371226826844858636194212875139566587445390068014747975813971748114770439248826688667129237954128555841874460665729630492658600179338272579110020881228767361200603478973120168893997574353727653998969223092798255701666067972698906236921628764772837915526086464389161570534616956703744840502975279094087587298968423516531626090898389351449020056851221079048966718878943309232071978575639877208621237040940126912767610658141079378758043403611425454744180577150855204937163460902512732551260539639221457005977247266676344018155647509515396711351487546062479444592779055555421362722504575706910949376), (Str.ofString "JOINING", WData.tuple [WData.str { cps := #[124, 62] }, WData.str { cps := #[43] }, WData.str { cps := #[45] }, WData.str { cps := #[124] }, WData.str { cps := #[46, 43] }, WData.str { cps := #[46, 45] }, WData.str { cps := #[46, 124] }, WData.str { cps := #[42] }, WData.str { cps := #[47, 47] }, WData.str { cps := #[37] }, WData.str { cps := #[38] }, WData.str { cps := #[46, 42] }, WData.str { cps := #[46, 47, 47] }, WData.str { cps := #[46, 37] }, WData.str { cps := #[46, 38] }, WData.str { cps := #[60, 60] }, WData.str { cps := #[62, 62] }, WData.str { cps := #[46, 60, 60] }, WData.str { cps := #[46, 62, 62] }, WData.str { cps := #[61, 61] }, WData.str { cps := #[33, 61] }, WData.str { cps := #[61, 61, 61] }, WData.str { cps := #[33, 61, 61] }, WData.str { cps := #[60] }, WData.str { cps := #[60, 61] }, WData.str { cps := #[62] }, WData.str { cps := #[62, 61] }, WData.str { cps := #[60, 58] }, WData.str { cps := #[62, 58] }, WData.str { cps := #[94] }, WData.str { cps := #[46, 94] }])]
abbrev ASL : List Addr := [2, 3, 15, 17, 18, 20, 21, 22, 24, 25, 27, 28, 29, 31, 32, 34, 35, 36, 38, 39, 41, 42, 43, 44, 45, 46, 48, 49, 57, 58, 59, 60, 62, 63, 65, 66, 67, 69, 70, 72, 73, 74, 76, 77, 79, 80, 81, 83, 84, 86, 87, 88, 90, 91, 93, 94, 95, 97, 98, 100, 101, 102, 104, 105, 107, 108, 109, 112, 113, 114, 116, 117, 119, 120, 128, 130, 131, 133, 134, 135, 137, 138, 140, 141, 142, 144, 145, 147, 148, 149, 152, 153, 154, 157, 158, 159, 161, 162, 164, 165, 166, 168, 169, 171, 172, 173, 175, 176, 178, 179, 180, 182, 183, 185, 186, 187, 189, 190, 192, 193, 194, 197, 198, 199, 201, 202, 204, 205, 206, 208, 209, 211, 212, 213, 215, 216, 218, 219, 220, 222, 223, 225, 226, 227, 229, 230, 232, 233, 234, 237, 238, 239, 241, 242, 244, 245, 246, 249, 250, 251, 254, 255, 256, 258, 259, 261, 262, 263, 265, 266, 268, 269, 270, 272, 273, 275, 276, 277, 279, 280, 282, 283, 284, 286, 287, 289, 290, 291, 293, 294, 296, 297, 298, 301, 302, 303, 306, 307, 308, 310, 311, 313, 314, 315, 317, 318, 320, 321, 322, 325, 326, 327, 330, 331, 332, 333, 334, 335, 336, 339, 341, 342, 344, 345, 346, 348, 349, 351, 352, 353, 355, 356, 358, 359, 360, 362, 363, 365, 366, 367, 369, 370, 372, 373, 374, 377, 378, 379, 382, 383, 384, 386, 387, 389, 390, 391, 394, 395, 396, 398, 399, 401, 402]
local macro_rules | `(tactic| walk_at $s:str) => `(tactic| k_extra $s)
inductive Hd where
  | call
  | tup
  | vec
  | ref
/-- the trees that the law builds -/
inductive T where
  | sym (s : Str)
  | int (i : Int)
  | dot (t : T)
  | node (h : Hd) (ps : List T)
def Hd.word : Hd → String
  | .call => "call"
  | .tup => "tuple"
  | .vec => "vect"
  | .ref => "ref"
def dots : Str := Str.ofString ".."
def commas (ts : List Str) : Str := Str.join (Str.ofString ", ") ts
/-- the text of a node, of its parts' texts -/
def glue : Hd → List Str → Str
  | .call, t :: ts => t ++ Str.ofString "(" ++ commas ts ++ Str.ofString ")"
  | .ref, t :: ts => t ++ Str.ofString "[" ++ commas ts ++ Str.ofString "]"
  | .tup, ts => Str.ofString "(" ++ commas ts ++ (if ts.length = 1 then Str.ofString "," else Str.ofString "") ++ Str.ofString ")"
  | .vec, ts => Str.ofString "[" ++ commas ts ++ Str.ofString "]"
  | _, [] => Str.ofString ""
mutual
/-- the text and what is left of the room: k levels may be told -/
def txt : T → Nat → Nat → Str × Nat
  | .sym s, k, r => if r = 0 ∨ k = 0 then (dots, r) else (s, r - 1)
  | .int i, k, r => if r = 0 ∨ k = 0 then (dots, r) else (Str.ofString (toString i), r - 1)
  | .dot t, k, r => if r = 0 ∨ k = 0 then (dots, r) else ((txt t (k - 1) (r - 1)).1 ++ Str.ofString "." ++ Str.ofString "u", (txt t (k - 1) (r - 1)).2)
  | .node h ps, k, r => if r = 0 ∨ k = 0 then (dots, r) else (glue h (txts ps (k - 1) (r - 1)).1, (txts ps (k - 1) (r - 1)).2)
def txts : List T → Nat → Nat → List Str × Nat
  | [], _, r => ([], r)
  | t :: ps, k, r => ((txt t k r).1 :: (txts ps k (txt t k r).2).1, (txts ps k (txt t k r).2).2)
end
theorem txts_append (k : Nat) : ∀ (ps qs : List T) (r : Nat), txts (ps ++ qs) k r = ((txts ps k r).1 ++ (txts qs k (txts ps k r).2).1, (txts qs k (txts ps k r).2).2)
  | [], qs, r => by simp [txts]
  | t :: ps, qs, r => by
    rw [List.cons_append, txts, txts_append k ps qs]
    simp [txts]
theorem txts_snoc (k : Nat) (ps : List T) (t : T) (r : Nat) : txts (ps ++ [t]) k r = ((txts ps k r).1 ++ [(txt t k (txts ps k r).2).1], (txt t k (txts ps k r).2).2) := by
  rw [txts_append]; simp [txts]
theorem txts_length (k : Nat) : ∀ (ps : List T) (r : Nat), (txts ps k r).1.length = ps.length
  | [], _ => by simp [txts]
  | t :: ps, r => by simp [txts, txts_length k ps]
mutual
theorem txt_le : ∀ (t : T) (k r : Nat), (txt t k r).2 ≤ r
  | .sym s, k, r => by rw [txt]; split <;> simp
  | .int i, k, r => by rw [txt]; split <;> simp
  | .dot t, k, r => by
    rw [txt]; split
    · simp
    · have := txt_le t (k - 1) (r - 1); simp only; omega
  | .node h ps, k, r => by
    rw [txt]; split
    · simp
    · have := txts_le ps (k - 1) (r - 1); simp only; omega
theorem txts_le : ∀ (ps : List T) (k r : Nat), (txts ps k r).2 ≤ r
  | [], k, r => by simp [txts]
  | t :: ps, k, r => by
    have h1 := txt_le t k r
    have h2 := txts_le ps k (txt t k r).2
    rw [txts]; simp only; omega
end
theorem words1 : True := by
  k_with_none
  trivial
noncomputable abbrev LS : List Str := looseW V [Str.ofString "LEFT_LEVELS", Str.ofString "MOST_NUMBER", Str.ofString "JOINING", Str.ofString "OCTET_TEXTS"]
abbrev tupOf (vs : List Value) (n : Nat) : Obj := { cls := .type "tuple", data := .seq vs.toArray n }
/-- a call of the text's def at f with the arguments vs, from any frame; the ledger is news, afterwards Post tells ledger and value -/
def Calls (w : World) (f : Addr) (vs : List Value) (need ku : Nat) (news : List (Addr × Obj)) (Post : List (Addr × Obj) → Value → Prop) : Prop :=
  ∀ (mean : ExcName → Option Value) (mg mb : Str → Option Value) (dp un : Nat) (gd : Option (List Code)) (cn : Str) (cs : Scope) (a : Addr) (ccd : Value) (cl : List (Str × Addr)) (outer : List Env) (A₀ : Around) (base h₀ : Heap) (L : Addr) (m : Str → Option Value) (s : Shared)
    (R : Result → Shared → Prop),
    Below A₀ base outer h₀ → Fr h₀ L s.heap m → (hk.heap_1 w.params).In h₀ → News h₀ L s.heap news → Top V LS mean mg mb h₀ → cs.kind = .function →
    dp + need < recursionLimit → un + ku < cLine →
    (∀ r nx h' tk', Fr h₀ L h' m → News h₀ L h' nx → Post nx r → R (.ok (.ret r)) { s with heap := h', toks := tk' }) →
    codeAny (model PySem.Challenge.rw_pc0211_01.row.prog w) (ktrTop dp un gd cn cs L a ccd cl outer) (.call (.ref f) ⟨vs, []⟩) R s
theorem Calls.use {w : World} {f : Addr} {vs : List Value} {need ku : Nat} {news : List (Addr × Obj)} {Post : List (Addr × Obj) → Value → Prop}
    {mean : ExcName → Option Value} {mg mb : Str → Option Value} {dp un : Nat} {gd : Option (List Code)} {cn : Str} {cs : Scope} {a : Addr} {ccd : Value} {cl : List (Str × Addr)} {outer : List Env} {A₀ : Around} {base h₀ : Heap} {L : Addr} {m : Str → Option Value} {s : Shared}
    {Q E : Value → Shared → Prop} (C : Calls w f vs need ku news Post)
    (B : Below A₀ base outer h₀) (F : Fr h₀ L s.heap m) (X : (hk.heap_1 w.params).In h₀) (N : News h₀ L s.heap news) (T : Top V LS mean mg mb h₀) (hk : cs.kind = .function) (hd' : dp + need < recursionLimit) (hu : un + ku < cLine)
    (h : ∀ r nx h' tk', Fr h₀ L h' m → News h₀ L h' nx → Post nx r → Q r { s with heap := h', toks := tk' }) :
    wpAny (model PySem.Challenge.rw_pc0211_01.row.prog w) (ktrTop dp un gd cn cs L a ccd cl outer) (call (.ref f) vs) Q E s :=
  wpAny_call (C _ _ _ _ _ _ _ _ _ _ _ _ _ _ _ _ _ _ _ B F X N T hk hd' hu h)
section
variable {prog : Program} {w : World} {A : Around} {E : Value → Shared → Prop} {s : Shared} {K : Frag} {h₀ : Heap} {L t : Addr} {m : Str → Option Value} {items : Array Value} {n : Nat} {ys : List Str} {x : Str} {u : Tok} {Q : Value → Shared → Prop}
theorem in_top (F : Fr h₀ L s.heap m) (X : K.In h₀) (l : K.lookup t = some ⟨.type "tuple", none, .seq items n, #[]⟩) (k : StrsAre items.toList ys) (e : ys.any (· == x) = false) (h : Q (.bool false) s) : wpAny (model prog w) A (compareOp .In (.str x u) (.ref t)) Q E s :=
  in_tuple_strs ⟨_, (X.keeps F.keep) _ _ l, rfl, n, rfl⟩ k (by rw [e]; exact h)
theorem in_topT (F : Fr h₀ L s.heap m) (X : K.In h₀) (l : K.lookup t = some ⟨.type "tuple", none, .seq items n, #[]⟩) (k : StrsAre items.toList ys) (e : ys.any (· == x) = true) (h : Q (.bool true) s) : wpAny (model prog w) A (compareOp .In (.str x u) (.ref t)) Q E s :=
  in_tuple_strs ⟨_, (X.keeps F.keep) _ _ l, rfl, n, rfl⟩ k (by rw [e]; exact h)
end
def PlainName (s : Str) : Prop := s = Str.ofString "a" ∨ s = Str.ofString "bc" ∨ s = Str.ofString "f" ∨ s = Str.ofString "v" ∨ s = Str.ofString "x"
theorem plain_any {s : Str} (h : PlainName s) (ys : List Str) (e : [Str.ofString "a", Str.ofString "bc", Str.ofString "f", Str.ofString "v", Str.ofString "x"].all (fun x => !ys.any (· == x)) = true) : ys.any (· == s) = false := by
  rcases h with rfl | rfl | rfl | rfl | rfl <;> simp_all
theorem plain_ne {s : Str} (h : PlainName s) (y : Str) (e : [Str.ofString "a", Str.ofString "bc", Str.ofString "f", Str.ofString "v", Str.ofString "x"].all (fun x => !(x == y)) = true) : (s == y) = false := by
  rcases h with rfl | rfl | rfl | rfl | rfl <;> simp_all
theorem words2 : True := by
  k_with "compareOp In str ref" => (k_here; k_dflt (first
    | (refine' in_top ?F ?X ?l ?k ?e ?_; (case F => k_asm); (case X => k_asm); (case l => k_is); (case k => (repeat constructor)); (case e => first | decide | exact plain_any (by assumption) _ (by decide)); k_whole)
    | (refine' in_topT ?F ?X ?l ?k ?e ?_; (case F => k_asm); (case X => k_asm); (case l => k_is); (case k => (repeat constructor)); (case e => decide); k_whole)))
  trivial
theorem is_expr_two (w : World) (news : List (Addr × Obj)) (t : Addr) (x y : Str) (v2 : Value) (tk1 tk2 n : Nat) (hy : (y == Str.ofString "expr") = false) (ht : (t, tupOf [.str y tk1, v2] n) ∈ news) :
    Calls w 21 [.ref t, .str x tk2] 1 8 news (fun nx r => nx = news ∧ r = .bool false) := by
  unfold Calls; k_fill
  intro mean mg mb dp un gd cn cs a ccd cl outer A₀ base h₀ L m st R B F X N T hk hdp hun hret
  k_dflt ktr_enter
  k_steps
  all_goals refine hret _ _ _ _ (by k_asm) (by k_asm) ?_
  exact ⟨rfl, by rw [hy]⟩
theorem is_expr_expr (w : World) (news : List (Addr × Obj)) (t : Addr) (tk1 tk2 tk3 n : Nat) (v2 : Value) (x y : Str) (ht : (t, tupOf [.str (Str.ofString "expr") tk1, .str y tk3, v2] n) ∈ news) :
    Calls w 21 [.ref t, .str x tk2] 1 8 news (fun nx r => nx = news ∧ r = .bool (y == x)) := by
  unfold Calls; k_fill
  intro mean mg mb dp un gd cn cs a ccd cl outer A₀ base h₀ L m st R B F X N T hk hdp hun hret
  k_dflt ktr_enter
  k_steps
  all_goals refine hret _ _ _ _ (by k_asm) (by k_asm) ?_
  exact ⟨rfl, rfl⟩
theorem is_sym_ (w : World) (news : List (Addr × Obj)) (t : Addr) (tk1 n : Nat) (v : Value) (x : Str) (ht : (t, tupOf [.str x tk1, v] n) ∈ news) :
    Calls w 35 [.ref t] 1 8 news (fun nx r => nx = news ∧ r = .bool (x == Str.ofString "sym")) := by
  unfold Calls; k_fill
  intro mean mg mb dp un gd cn cs a ccd cl outer A₀ base h₀ L m st R B F X N T hk hdp hun hret
  k_dflt ktr_enter
  k_steps
  refine hret _ _ _ _ (by k_asm) (by k_asm) ?_
  exact ⟨rfl, rfl⟩
theorem parts_of_expr (w : World) (news : List (Addr × Obj)) (t p : Addr) (tk1 tk3 n : Nat) (y : Str) (ht : (t, tupOf [.str (Str.ofString "expr") tk1, .str y tk3, .ref p] n) ∈ news) :
    Calls w 28 [.ref t] 1 8 news (fun nx r => nx = news ∧ r = .ref p) := by
  unfold Calls; k_fill
  intro mean mg mb dp un gd cn cs a ccd cl outer A₀ base h₀ L m st R B F X N T hk hdp hun hret
  k_dflt ktr_enter
  k_steps
  refine hret _ _ _ _ (by k_asm) (by k_asm) ?_
  exact ⟨rfl, rfl⟩
theorem int_text_ (w : World) (news : List (Addr × Obj)) (i : Int) (tk : Nat) (h0 : 0 ≤ i) (h1 : i < 120) :
    Calls w 87 [.int i tk] 1 8 news (fun nx r => nx = news ∧ ∃ tk, r = .str (Str.ofString (toString i)) tk) := by
  unfold Calls; k_fill
  intro mean mg mb dp un gd cn cs a ccd cl outer A₀ base h₀ L m st R B F X N T hk hdp hun hret
  k_dflt ktr_enter
  k_steps
  refine hret _ _ _ _ (by k_asm) (by k_asm) ?_
  exact ⟨rfl, _, rfl⟩
theorem is_joining_ (w : World) (news : List (Addr × Obj)) (s : Str) (tk : Nat) (hs : PlainName s) :
    Calls w 94 [.str s tk] 1 8 news (fun nx r => nx = news ∧ r = .bool false) := by
  unfold Calls; k_fill
  intro mean mg mb dp un gd cn cs a ccd cl outer A₀ base h₀ L m st R B F X N T hk hdp hun hret
  k_dflt ktr_enter
  k_steps
  refine hret _ _ _ _ (by k_asm) (by k_asm) ?_
  exact ⟨rfl, rfl⟩
theorem words3 : True := by
  k_with_none
  k_with "eval Call" => (k_here; (with_reducible show wpAny _ _ (eval (Expr.Call (Expr.Name _ _) _ _ _) _) _ _ _); k_dflt (refine Call_ ?_))
  trivial
local macro_rules | `(tactic| k_mem) => `(tactic| first | exact List.Mem.head _ | assumption | (refine' List.mem_cons_of_mem _ ?_; k_mem))
local macro_rules | `(tactic| k_all) => `(tactic| assumption)
theorem words4 : True := by
  k_with "compareOp In str ref" => (k_here; k_dflt (first
    | (refine' in_top ?F ?X ?l ?k ?e ?_; (case F => k_asm); (case X => k_asm); (case l => k_is); (case k => (repeat constructor)); (case e => first | decide | exact plain_any (by assumption) _ (by decide)); k_whole)
    | (refine' in_topT ?F ?X ?l ?k ?e ?_; (case F => k_asm); (case X => k_asm); (case l => k_is); (case k => (repeat constructor)); (case e => decide); k_whole)))
  k_with "call ref" => (k_here; (with_reducible show wpAny _ _ (call (Value.ref 87) _) _ _ _); k_dflt (first
    | (refine' Calls.use (int_text_ _ _ _ _ ?m1 ?m2) ?k1 ?k2 ?k3 ?k4 ?k5 ?kK ?kd ?ku ?_; (case k1 => k_asm); (case k2 => k_asm); (case k3 => k_asm); (case k4 => k_asm); (case m1 => assumption); (case m2 => assumption); (case k5 => k_asm); (case kK => first | exact rfl | assumption); (case kd => ktr_room); (case ku => ktr_units); intro r9 n9 h9 t9 F9 N9 ho9; (obtain ⟨e1, t9', e2⟩ := ho9; subst e1; subst e2); (try k_sweep))))
  k_with "call ref" => (k_here; (with_reducible show wpAny _ _ (call (Value.ref 94) _) _ _ _); k_dflt (first
    | (refine' Calls.use (is_joining_ _ _ _ _ ?m1) ?k1 ?k2 ?k3 ?k4 ?k5 ?kK ?kd ?ku ?_; (case k1 => k_asm); (case k2 => k_asm); (case k3 => k_asm); (case k4 => k_asm); (case m1 => assumption); (case k5 => k_asm); (case kK => first | exact rfl | assumption); (case kd => ktr_room); (case ku => ktr_units); intro r9 n9 h9 t9 F9 N9 ho9; (obtain ⟨e1, e2⟩ := ho9; subst e1; subst e2); (try k_sweep))))
  trivial
theorem plain_both_sym (w : World) (news : List (Addr × Obj)) (t : Addr) (x : Str) (tk1 tk2 n : Nat) (hx : PlainName x) (ht : (t, tupOf [.str (Str.ofString "sym") tk1, .str x tk2] n) ∈ news) :
    Calls w 345 [.ref t] 2 16 news (fun nx r => ∃ q tk1 tk2, nx = (q, tupOf [.str x tk1, .int 16 tk2] 0) :: news ∧ r = .ref q ∧ ∀ p ∈ news, p.1 < q) := by
  unfold Calls; k_fill
  intro mean mg mb dp un gd cn cs a ccd cl outer A₀ base h₀ L m st R B F X N T hk hdp hun hret
  k_dflt ktr_enter
  k_steps
  refine hret _ _ _ _ (by k_asm) (by k_asm) ⟨_, _, _, rfl, rfl, by assumption⟩
theorem plain_both_int (w : World) (news : List (Addr × Obj)) (t : Addr) (i : Int) (tk1 tk2 n : Nat) (h0 : 0 ≤ i) (h1 : i < 120) (ht : (t, tupOf [.str (Str.ofString "int") tk1, .int i tk2] n) ∈ news) :
    Calls w 345 [.ref t] 2 16 news (fun nx r => ∃ q tk1 tk2, nx = (q, tupOf [.str (Str.ofString (toString i)) tk1, .int 16 tk2] 0) :: news ∧ r = .ref q ∧ ∀ p ∈ news, p.1 < q) := by
  unfold Calls; k_fill
  intro mean mg mb dp un gd cn cs a ccd cl outer A₀ base h₀ L m st R B F X N T hk hdp hun hret
  k_dflt ktr_enter
  k_steps
  refine hret _ _ _ _ (by k_asm) (by k_asm) ⟨_, _, _, rfl, rfl, by assumption⟩
theorem words5 : True := by
  k_with_none
  trivial
structure PC where
  h1 : Int
  h2 : Int
  k1 : Nat
  k2 : Nat
abbrev prt (dx : Addr) : Obj := instObj 334 dx
abbrev pd (c : PC) (l d : Int) (t1 t2 : Nat) : Obj := dictOf [⟨c.h1, .str (Str.ofString "left") c.k1, .int l t1⟩, ⟨c.h2, .str (Str.ofString "deep") c.k2, .int d t2⟩] 2
abbrev pst (c : PC) (x dx : Addr) (l d : Int) (t1 t2 : Nat) (rest : List (Addr × Obj)) : List (Addr × Obj) := (x, prt dx) :: (dx, pd c l d t1 t2) :: rest
def TextPost (c : PC) (x dx : Addr) (l d : Int) (txt : Str) (rest nx : List (Addr × Obj)) (r : Value) : Prop := ∃ t1 t2 tk, nx = pst c x dx l d t1 t2 rest ∧ r = .str txt tk
def PairPost (c : PC) (x dx : Addr) (l d : Int) (txt : Str) (rest nx : List (Addr × Obj)) (r : Value) : Prop := ∃ t1 t2 q lev tk1 tk2, nx = (q, tupOf [.str txt tk1, .int lev tk2] 0) :: pst c x dx l d t1 t2 rest ∧ r = .ref q ∧ 15 ≤ lev ∧ @Ne Nat q dx
def CallsS (w : World) (f : Addr) (vs : List Value) (need ku : Nat) (c : PC) (x dx : Addr) (l d : Int) (rest : List (Addr × Obj)) (Post : List (Addr × Obj) → Value → Prop) : Prop := ∀ t1 t2, Calls w f vs need ku (pst c x dx l d t1 t2 rest) Post
theorem news_tl {h₀ h : Heap} {L : Addr} {p : Addr × Obj} {r : List (Addr × Obj)} (N : News h₀ L h (p :: r)) : News h₀ L h r := fun q hq => N q (.tail _ hq)
theorem news_sub {h₀ h : Heap} {L : Addr} {l r : List (Addr × Obj)} (N : News h₀ L h l) (k : ∀ p ∈ r, p ∈ l) : News h₀ L h r := fun q hq => N q (k q hq)
theorem words6 : True := by
  k_with "eval Call" => (k_here; (with_reducible show wpAny _ _ (eval (Expr.Call (Expr.Name _ _) _ _ _) _) _ _ _); k_dflt (refine Call_ ?_))
  k_with "compareOp In str ref" => (k_here; k_dflt (first
    | (refine' in_top ?F ?X ?l ?k ?e ?_; (case F => k_asm); (case X => k_asm); (case l => k_is); (case k => (repeat constructor)); (case e => first | decide | exact plain_any (by assumption) _ (by decide)); k_whole)
    | (refine' in_topT ?F ?X ?l ?k ?e ?_; (case F => k_asm); (case X => k_asm); (case l => k_is); (case k => (repeat constructor)); (case e => decide); k_whole)))
  k_with "call ref" => (k_here; (with_reducible show wpAny _ _ (call (Value.ref 148) _) _ _ _); k_dflt (first
    | (rename CallsS _ 148 _ _ _ _ _ _ _ _ _ _ => hb9; (refine' Calls.use (hb9 _ _) ?k1 ?k2 ?k3 ?k4 ?k5 ?kK ?kd ?ku ?_; (case k1 => k_asm); (case k2 => k_asm); (case k3 => k_asm); (case k4 => k_asm); (case k5 => k_asm); (case kK => first | exact rfl | assumption); (case kd => ktr_room); (case ku => ktr_units); intro r9 n9 h9 t9 F9 N9 ho9; (obtain ⟨t19, t29, q9, lev9, tk19, tk29, e1, e2, hl9, hq9⟩ := ho9; subst e1; subst e2); (try k_sweep)))))
  k_with "call ref" => (k_here; (with_reducible show wpAny _ _ (call (Value.ref 153) _) _ _ _); k_dflt (first
    | (rename CallsS _ 153 _ _ _ _ _ _ _ _ _ _ => hb9; (refine' Calls.use (hb9 _ _) ?k1 ?k2 ?k3 ?k4 ?k5 ?kK ?kd ?ku ?_; (case k1 => k_asm); (case k2 => k_asm); (case k3 => k_asm); (case k4 => k_asm); (case k5 => k_asm); (case kK => first | exact rfl | assumption); (case kd => ktr_room); (case ku => ktr_units); intro r9 n9 h9 t9 F9 N9 ho9; (obtain ⟨t19, t29, q9, lev9, tk19, tk29, e1, e2, hl9, hq9⟩ := ho9; subst e1; subst e2); (try k_sweep)))))
  k_with "call ref" => (k_here; (with_reducible show wpAny _ _ (call (Value.ref 345) _) _ _ _); k_dflt (first
    | (refine' Calls.use (plain_both_sym _ _ _ _ _ _ _ ?m2 ?m1) ?k1 ?k2 ?k3 ?k4 ?k5 ?kK ?kd ?ku ?_; (case k1 => k_asm); (case k2 => k_asm); (case k3 => k_asm); (case k4 => k_asm); (case m1 => k_mem); (case m2 => assumption); (case k5 => k_asm); (case kK => first | exact rfl | assumption); (case kd => ktr_room); (case ku => ktr_units); intro r9 n9 h9 t9 F9 N9 ho9; (obtain ⟨q9, tk19, tk29, e1, e2, hl9⟩ := ho9; subst e1; subst e2; (try k_lt hl9)); (try k_sweep))
    | (refine' Calls.use (plain_both_int _ _ _ _ _ _ _ ?m2 ?m3 ?m1) ?k1 ?k2 ?k3 ?k4 ?k5 ?kK ?kd ?ku ?_; (case k1 => k_asm); (case k2 => k_asm); (case k3 => k_asm); (case k4 => k_asm); (case m1 => k_mem); (case m2 => assumption); (case m3 => assumption); (case k5 => k_asm); (case kK => first | exact rfl | assumption); (case kd => ktr_room); (case ku => ktr_units); intro r9 n9 h9 t9 F9 N9 ho9; (obtain ⟨q9, tk19, tk29, e1, e2, hl9⟩ := ho9; subst e1; subst e2; (try k_lt hl9)); (try k_sweep))))
  trivial
theorem at_of (w : World) (c : PC) (x dx : Addr) (l d : Int) (t1 t2 : Nat) (rest : List (Addr × Obj)) (hne : x ≠ dx) (hall : ∀ p ∈ rest, p.1 ≠ dx) (l' : Int) (v : Value) (txt : Str) (least : Int) (tk : Nat) (need ku : Nat) (hl : least ≤ 15) (hb : CallsS w 148 [.ref x, v] need ku c x dx l d rest (PairPost c x dx l' d txt rest)) :
    Calls w 141 [.ref x, v, .int least tk] (need + 1) (ku + 4) (pst c x dx l d t1 t2 rest) (TextPost c x dx l' d txt rest) := by
  unfold Calls; k_fill
  intro mean mg mb dp un gd cn cs a ccd cl outer A₀ base h₀ L m st R B F X N T hk hdp hun hret
  k_dflt ktr_enter
  k_steps
  refine hret _ _ _ _ (by k_asm) (news_tl (by k_asm)) ⟨_, _, _, rfl, rfl⟩
theorem both_dots (w : World) (c : PC) (x dx : Addr) (l d : Int) (t1 t2 : Nat) (rest : List (Addr × Obj)) (hne : x ≠ dx) (hall : ∀ p ∈ rest, p.1 ≠ dx) (v : Value) (h : l ≤ 0 ∨ 80 ≤ d) :
    Calls w 148 [.ref x, v] 1 8 (pst c x dx l d t1 t2 rest) (PairPost c x dx l d dots rest) := by
  unfold Calls; k_fill
  intro mean mg mb dp un gd cn cs a ccd cl outer A₀ base h₀ L m st R B F X N T hk hdp hun hret
  k_dflt ktr_enter
  k_steps
  all_goals exact hret _ _ _ _ (by k_asm) (by k_asm) ⟨_, _, _, _, _, _, rfl, rfl, by decide, neN (by omega)⟩
theorem both_sym (w : World) (c : PC) (x dx : Addr) (l d : Int) (t1 t2 : Nat) (rest : List (Addr × Obj)) (hne : x ≠ dx) (hall : ∀ p ∈ rest, p.1 ≠ dx) (t : Addr) (y : Str) (tk1 tk2 n : Nat) (hx : PlainName y) (ht : (t, tupOf [.str (Str.ofString "sym") tk1, .str y tk2] n) ∈ rest) (hl0 : 0 < l) (hd0 : d < 80) :
    Calls w 148 [.ref x, .ref t] 3 24 (pst c x dx l d t1 t2 rest) (PairPost c x dx (l - 1) d y rest) := by
  unfold Calls; k_fill
  intro mean mg mb dp un gd cn cs a ccd cl outer A₀ base h₀ L m st R B F X N T hk hdp hun hret
  k_dflt ktr_enter
  k_steps
  all_goals exact hret _ _ _ _ (by k_asm) (by k_asm) ⟨_, _, _, _, _, _, rfl, rfl, by decide, neN (by omega)⟩
theorem both_expr (w : World) (c : PC) (x dx : Addr) (l d : Int) (t1 t2 : Nat) (rest : List (Addr × Obj)) (hne : x ≠ dx) (hall : ∀ p ∈ rest, p.1 ≠ dx) (l' : Int) (txt y : Str) (need ku : Nat) (t p : Addr) (tk1 tk2 n : Nat) (ht : (t, tupOf [.str (Str.ofString "expr") tk1, .str y tk2, .ref p] n) ∈ rest) (hl0 : 0 < l) (hd0 : d < 80) (hb : CallsS w 153 [.ref x, .str y tk2, .ref t] need ku c x dx (l - 1) (d + 1) rest (PairPost c x dx l' (d + 1) txt rest)) :
    Calls w 148 [.ref x, .ref t] (need + 1) (ku + 4) (pst c x dx l d t1 t2 rest) (PairPost c x dx l' d txt rest) := by
  unfold Calls; k_fill
  intro mean mg mb dp un gd cn cs a ccd cl outer A₀ base h₀ L m st R B F X N T hk hdp hun hret
  k_dflt ktr_enter
  k_steps
  have e1 : d + 1 - 1 = d := by omega
  all_goals exact hret _ _ _ _ (by k_asm) (by k_asm) ⟨_, _, _, _, _, _, by rw [e1], rfl, by omega, by assumption⟩
theorem words7 : True := by
  k_with_none
  k_with "eval Call" => (k_here; (with_reducible show wpAny _ _ (eval (Expr.Call (Expr.Name _ _) _ _ _) _) _ _ _); k_dflt (refine Call_ ?_))
  k_with "compareOp In str ref" => (k_here; k_dflt (first
    | (refine' in_top ?F ?X ?l ?k ?e ?_; (case F => k_asm); (case X => k_asm); (case l => k_is); (case k => (repeat constructor)); (case e => first | decide | exact plain_any (by assumption) _ (by decide)); k_whole)
    | (refine' in_topT ?F ?X ?l ?k ?e ?_; (case F => k_asm); (case X => k_asm); (case l => k_is); (case k => (repeat constructor)); (case e => decide); k_whole)))
  k_with "call ref" => (k_here; (with_reducible show wpAny _ _ (call (Value.ref 345) _) _ _ _); k_dflt (first
    | (refine' Calls.use (plain_both_sym _ _ _ _ _ _ _ ?m2 ?m1) ?k1 ?k2 ?k3 ?k4 ?k5 ?kK ?kd ?ku ?_; (case k1 => k_asm); (case k2 => k_asm); (case k3 => k_asm); (case k4 => k_asm); (case m1 => k_mem); (case m2 => assumption); (case k5 => k_asm); (case kK => first | exact rfl | assumption); (case kd => ktr_room); (case ku => ktr_units); intro r9 n9 h9 t9 F9 N9 ho9; (obtain ⟨q9, tk19, tk29, e1, e2, hl9⟩ := ho9; subst e1; subst e2; (try k_lt hl9)); (try k_sweep))
    | (refine' Calls.use (plain_both_int _ _ _ _ _ _ _ ?m2 ?m3 ?m1) ?k1 ?k2 ?k3 ?k4 ?k5 ?kK ?kd ?ku ?_; (case k1 => k_asm); (case k2 => k_asm); (case k3 => k_asm); (case k4 => k_asm); (case m1 => k_mem); (case m2 => assumption); (case m3 => assumption); (case k5 => k_asm); (case kK => first | exact rfl | assumption); (case kd => ktr_room); (case ku => ktr_units); intro r9 n9 h9 t9 F9 N9 ho9; (obtain ⟨q9, tk19, tk29, e1, e2, hl9⟩ := ho9; subst e1; subst e2; (try k_lt hl9)); (try k_sweep))))
  trivial
theorem both_int (w : World) (c : PC) (x dx : Addr) (l d : Int) (t1 t2 : Nat) (rest : List (Addr × Obj)) (hne : x ≠ dx) (hall : ∀ p ∈ rest, p.1 ≠ dx) (t : Addr) (i : Int) (tk1 tk2 n : Nat) (h0 : 0 ≤ i) (h1 : i < 120) (ht : (t, tupOf [.str (Str.ofString "int") tk1, .int i tk2] n) ∈ rest) (hl0 : 0 < l) (hd0 : d < 80) :
    Calls w 148 [.ref x, .ref t] 3 24 (pst c x dx l d t1 t2 rest) (PairPost c x dx (l - 1) d (Str.ofString (toString i)) rest) := by
  unfold Calls; k_fill
  intro mean mg mb dp un gd cn cs a ccd cl outer A₀ base h₀ L m st R B F X N T hk hdp hun hret
  k_dflt ktr_enter
  k_steps
  all_goals exact hret _ _ _ _ (by k_asm) (by k_asm) ⟨_, _, _, _, _, _, rfl, rfl, by decide, neN (by omega)⟩
mutual
/-- the tree t lies at the value v in the ledger -/
def TreeIn (news : List (Addr × Obj)) : T → Value → Prop
  | .sym s, v => ∃ a tk1 tk2 n, v = .ref a ∧ (a, tupOf [.str (Str.ofString "sym") tk1, .str s tk2] n) ∈ news
  | .int i, v => ∃ a tk1 tk2 n, v = .ref a ∧ (a, tupOf [.str (Str.ofString "int") tk1, .int i tk2] n) ∈ news
  | .dot t, v => ∃ a tk1 tk2 n p n2 v1 b tk3 tk4 n3, v = .ref a ∧ (a, tupOf [.str (Str.ofString "expr") tk1, .str (Str.ofString ".") tk2, .ref p] n) ∈ news ∧ (p, tupOf [v1, .ref b] n2) ∈ news ∧
      (b, tupOf [.str (Str.ofString "sym") tk3, .str (Str.ofString "u") tk4] n3) ∈ news ∧ TreeIn news t v1
  | .node h ps, v => ∃ a tk1 tk2 n p n2 vs, v = .ref a ∧ (a, tupOf [.str (Str.ofString "expr") tk1, .str (Str.ofString h.word) tk2, .ref p] n) ∈ news ∧ (p, tupOf vs n2) ∈ news ∧ ForestIn news ps vs
def ForestIn (news : List (Addr × Obj)) : List T → List Value → Prop
  | [], vs => vs = []
  | t :: ps, vs => ∃ v vs', vs = v :: vs' ∧ TreeIn news t v ∧ ForestIn news ps vs'
end
mutual
theorem TreeIn.mono {news news' : List (Addr × Obj)} (k : ∀ p ∈ news, p ∈ news') : ∀ (t : T) (v : Value), TreeIn news t v → TreeIn news' t v
  | .sym s, v, h => by rw [TreeIn] at h ⊢; obtain ⟨a, tk1, tk2, n, e, m⟩ := h; exact ⟨a, tk1, tk2, n, e, k _ m⟩
  | .int i, v, h => by rw [TreeIn] at h ⊢; obtain ⟨a, tk1, tk2, n, e, m⟩ := h; exact ⟨a, tk1, tk2, n, e, k _ m⟩
  | .dot t, v, h => by
    rw [TreeIn] at h ⊢
    obtain ⟨a, tk1, tk2, n, p, n2, v1, b, tk3, tk4, n3, e, m1, m2, m3, z⟩ := h
    exact ⟨a, tk1, tk2, n, p, n2, v1, b, tk3, tk4, n3, e, k _ m1, k _ m2, k _ m3, TreeIn.mono k t v1 z⟩
  | .node h ps, v, z => by
    rw [TreeIn] at z ⊢
    obtain ⟨a, tk1, tk2, n, p, n2, vs, e, m1, m2, z⟩ := z
    exact ⟨a, tk1, tk2, n, p, n2, vs, e, k _ m1, k _ m2, ForestIn.mono k ps vs z⟩
theorem ForestIn.mono {news news' : List (Addr × Obj)} (k : ∀ p ∈ news, p ∈ news') : ∀ (ps : List T) (vs : List Value), ForestIn news ps vs → ForestIn news' ps vs
  | [], vs, h => by rw [ForestIn] at h ⊢; exact h
  | t :: ps, vs, h => by
    rw [ForestIn] at h ⊢
    obtain ⟨v, vs', e, z, z'⟩ := h
    exact ⟨v, vs', e, TreeIn.mono k t v z, ForestIn.mono k ps vs' z'⟩
end
theorem ForestIn.length {news : List (Addr × Obj)} : ∀ {ps : List T} {vs : List Value}, ForestIn news ps vs → vs.length = ps.length
  | [], vs, h => by rw [ForestIn] at h; rw [h]; rfl
  | t :: ps, vs, h => by
    rw [ForestIn] at h
    obtain ⟨v, vs', rfl, _, z'⟩ := h
    rw [List.length_cons, List.length_cons, ForestIn.length z']
theorem ForestIn.get {news : List (Addr × Obj)} : ∀ {ps : List T} {vs : List Value}, ForestIn news ps vs → ∀ {i : Nat} {v : Value}, vs[i]? = some v → ∃ t, ps[i]? = some t ∧ TreeIn news t v
  | [], vs, h, i, v, e => by rw [ForestIn] at h; subst h; simp at e
  | t :: ps, vs, h, i, v, e => by
    rw [ForestIn] at h
    obtain ⟨v0, vs', rfl, z, z'⟩ := h
    cases i with
    | zero => simp at e; subst e; exact ⟨t, rfl, z⟩
    | succ i => simpa using ForestIn.get z' (by simpa using e)
def headOk : Hd → List T → Prop
  | .call, ps => ∃ qs, ps = .sym (Str.ofString "f") :: qs
  | .ref, ps => ∃ qs, ps = .sym (Str.ofString "v") :: qs
  | .tup, _ => True
  | .vec, _ => True
mutual
/-- what the law's own trees keep -/
def WF : T → Prop
  | .sym s => PlainName s
  | .int i => 0 ≤ i ∧ i < 120
  | .dot t => WF t
  | .node h ps => ps.length ≤ 4 ∧ headOk h ps ∧ WFs ps
def WFs : List T → Prop
  | [] => True
  | t :: ps => WF t ∧ WFs ps
end
theorem WFs.get : ∀ {ps : List T}, WFs ps → ∀ {i : Nat} {t : T}, ps[i]? = some t → WF t
  | [], _, i, t, e => by simp at e
  | p :: ps, h, i, t, e => by
    rw [WFs] at h
    cases i with
    | zero => simp at e; subst e; exact h.1
    | succ i => exact WFs.get h.2 (by simpa using e)
/-- the lengths of texts -/
theorem join_length (sep : Str) : ∀ ts : List Str, (Str.join sep ts).length ≤ (ts.map fun t => t.length + sep.length).sum
  | [] => by simp [Str.join, Str.empty, Str.length]
  | [x] => by simp [Str.join]
  | x :: y :: ts => by
    have := join_length sep (y :: ts)
    show (x ++ sep ++ Str.join sep (y :: ts)).length ≤ _
    rw [Str.length_append, Str.length_append, List.map_cons, List.sum_cons]
    omega
theorem plain_length {s : Str} (h : PlainName s) : s.length ≤ 2 := by
  rcases h with rfl | rfl | rfl | rfl | rfl <;> decide
theorem int_length {i : Int} (h0 : 0 ≤ i) (h1 : i < 120) : (Str.ofString (toString i)).length ≤ 3 := by
  have : ∀ k : Fin 120, (Str.ofString (toString ((k.val : Nat) : Int))).length ≤ 3 := by decide +kernel
  have e : i = ((i.toNat : Nat) : Int) := by omega
  rw [e]
  exact this ⟨i.toNat, by omega⟩
theorem glue_length (h : Hd) (ts : List Str) (hn : ts.length ≤ 4) : (glue h ts).length ≤ (ts.map fun t => t.length).sum + 12 := by
  have hc : ∀ us : List Str, us.length ≤ 4 → (commas us).length ≤ (us.map fun t => t.length).sum + 8 := by
    intro us hu
    have h1 := join_length (Str.ofString ", ") us
    have h2 : (us.map fun t => t.length + (Str.ofString ", ").length).sum = (us.map fun t => t.length).sum + us.length * 2 := by
      have e2 : (Str.ofString ", ").length = 2 := by decide
      rw [e2]
      clear h1 hu
      induction us with
      | nil => rfl
      | cons a r ih => simp only [List.map_cons, List.sum_cons, List.length_cons, ih]; omega
    have e : commas us = Str.join (Str.ofString ", ") us := rfl
    rw [e]; omega
  have l1 : (Str.ofString "(").length = 1 := by decide
  have l2 : (Str.ofString ")").length = 1 := by decide
  have l3 : (Str.ofString "[").length = 1 := by decide
  have l4 : (Str.ofString "]").length = 1 := by decide
  have l5 : (Str.ofString ",").length = 1 := by decide
  have l6 : (Str.ofString "").length = 0 := by decide
  cases h with
  | call =>
    cases ts with
    | nil => simp only [glue]; omega
    | cons t ts =>
      have := hc ts (by simp at hn; omega)
      simp only [glue, Str.length_append, List.map_cons, List.sum_cons]; omega
  | ref =>
    cases ts with
    | nil => simp only [glue]; omega
    | cons t ts =>
      have := hc ts (by simp at hn; omega)
      simp only [glue, Str.length_append, List.map_cons, List.sum_cons]; omega
  | tup =>
    have := hc ts hn
    simp only [glue, Str.length_append]
    split <;> omega
  | vec =>
    have := hc ts hn
    simp only [glue, Str.length_append]; omega
mutual
theorem txt_length : ∀ (t : T) (k r : Nat), WF t → (txt t k r).1.length + 30 * (txt t k r).2 ≤ 30 * r + 2
  | .sym s, k, r, h => by
    rw [WF] at h
    have := plain_length h
    have hd : dots.length = 2 := by decide
    rw [txt]; split
    · simp only; omega
    · simp only; omega
  | .int i, k, r, h => by
    rw [WF] at h
    have := int_length h.1 h.2
    have hd : dots.length = 2 := by decide
    rw [txt]; split
    · simp only; omega
    · simp only; omega
  | .dot t, k, r, h => by
    rw [WF] at h
    have hd : dots.length = 2 := by decide
    have l1 : (Str.ofString ".").length = 1 := by decide
    have l2 : (Str.ofString "u").length = 1 := by decide
    rw [txt]; split
    · simp only; omega
    · have := txt_length t (k - 1) (r - 1) h
      simp only [Str.length_append]; omega
  | .node h ps, k, r, z => by
    rw [WF] at z
    have hd : dots.length = 2 := by decide
    rw [txt]; split
    · simp only; omega
    · have h1 := txts_sum ps (k - 1) (r - 1) z.2.2
      have h2 := glue_length h (txts ps (k - 1) (r - 1)).1 (by rw [txts_length]; exact z.1)
      simp only; omega
theorem txts_sum : ∀ (ps : List T) (k r : Nat), WFs ps → ((txts ps k r).1.map fun t => t.length).sum + 30 * (txts ps k r).2 ≤ 30 * r + 2 * ps.length
  | [], k, r, _ => by simp [txts]
  | t :: ps, k, r, h => by
    rw [WFs] at h
    have h1 := txt_length t k r h.1
    have h2 := txts_sum ps k (txt t k r).2 h.2
    rw [txts]
    simp only [List.map_cons, List.sum_cons, List.length_cons]; omega
end
/-- the printer's text of a tree: the contract of at -/
def AtSpec (w : World) (t : T) : Prop := ∀ (c : PC) (x dx : Addr) (rest : List (Addr × Obj)) (v : Value) (l d : Nat) (least : Int) (tk t1 t2 : Nat), TreeIn rest t v → WF t → l ≤ 10000 → d ≤ 80 → x ≠ dx → (∀ p ∈ rest, p.1 ≠ dx) → least ≤ 15 →
  Calls w 141 [.ref x, v, .int least tk] (7 * (80 - d) + 8) (40 * (80 - d) + 60) (pst c x dx l d t1 t2 rest) (TextPost c x dx ((txt t (80 - d) l).2 : Nat) d (txt t (80 - d) l).1 rest)
section
variable {prog : Program} {w : World} {A : Around} {E : Value → Shared → Prop} {s : Shared} {h₀ : Heap} {L a b : Addr} {news : List (Addr × Obj)} {Q : Value → Shared → Prop} {n n2 : Nat}
theorem isTuple_of (N : News h₀ L s.heap news) {vs : List Value} (h : (a, tupOf vs n) ∈ news) : s.heap.IsTuple a vs.toArray := ⟨_, (N _ h).1, rfl, _, rfl⟩
/-- two tuples that begin with texts -/
theorem eq_tups {x y x2 y2 : Str} {t1 t2 t3 t4 : Nat} {v : Value} (N : News h₀ L s.heap news) (hu : A.units < cLine)
    (ha : (a, tupOf [.str x t1, .str x2 t2, v] n) ∈ news) (hb : (b, tupOf [.str y t3, .str y2 t4] n2) ∈ news) (h : Q (.bool false) s) : wpAny (model prog w) A (compareOp .Eq (.ref a) (.ref b)) Q E s := by
  refine PySem.SeqAt.eq_tupleAt (e := fun j => if j = 0 then x == y else x2 == y2) (isTuple_of N ha) (isTuple_of N hb) hu ?_ ?_
  · intro j h1 h2
    simp at h2
    match j, h2 with
    | 0, _ => exact (eqGives_str x y t1 t3).at _ _
    | 1, _ => exact (eqGives_str x2 y2 t2 t4).at _ _
  · simpa using h
theorem eq_syms {x y x2 y2 : Str} {t1 t2 t3 t4 : Nat} (N : News h₀ L s.heap news) (hu : A.units < cLine)
    (ha : (a, tupOf [.str x t1, .str x2 t2] n) ∈ news) (hb : (b, tupOf [.str y t3, .str y2 t4] n2) ∈ news) (e : (x2 == y2) = false) (h : Q (.bool false) s) : wpAny (model prog w) A (compareOp .Eq (.ref a) (.ref b)) Q E s := by
  refine PySem.SeqAt.eq_tupleAt (e := fun j => if j = 0 then x == y else x2 == y2) (isTuple_of N ha) (isTuple_of N hb) hu ?_ ?_
  · intro j h1 h2
    simp at h2
    match j, h2 with
    | 0, _ => exact (eqGives_str x y t1 t3).at _ _
    | 1, _ => exact (eqGives_str x2 y2 t2 t4).at _ _
  · have : ((List.range (min (List.toArray [Value.str x t1, .str x2 t2]).size (List.toArray [Value.str y t3, .str y2 t4]).size)).all (fun j => if j = 0 then x == y else x2 == y2) && (List.toArray [Value.str x t1, .str x2 t2]).size == (List.toArray [Value.str y t3, .str y2 t4]).size) = false := by
      simp [List.range, List.range.loop, e]
    rw [this]; exact h
theorem eq_int_sym {x y y2 : Str} {i : Int} {t1 t2 t3 t4 : Nat} (N : News h₀ L s.heap news) (hu : A.units < cLine)
    (ha : (a, tupOf [.str x t1, .int i t2] n) ∈ news) (hb : (b, tupOf [.str y t3, .str y2 t4] n2) ∈ news) (h : Q (.bool false) s) : wpAny (model prog w) A (compareOp .Eq (.ref a) (.ref b)) Q E s := by
  refine PySem.SeqAt.eq_tupleAt (e := fun j => if j = 0 then x == y else false) (isTuple_of N ha) (isTuple_of N hb) hu ?_ ?_
  · intro j h1 h2
    simp at h2
    match j, h2 with
    | 0, _ => exact (eqGives_str x y t1 t3).at _ _
    | 1, _ => exact PySem.SeqAt.EqAt.int_str i t2 y2 t4
  · have : ((List.range (min (List.toArray [Value.str x t1, .int i t2]).size (List.toArray [Value.str y t3, .str y2 t4]).size)).all (fun j => if j = 0 then x == y else false) && (List.toArray [Value.str x t1, .int i t2]).size == (List.toArray [Value.str y t3, .str y2 t4]).size) = false := by
      simp [List.range, List.range.loop]
    rw [this]; exact h
/-- a tuple beside the empty one -/
theorem ne_nil {vs : List Value} (N : News h₀ L s.heap news) (hu : A.units < cLine) (ha : (a, tupOf vs n) ∈ news) (hb : s.heap.IsTuple b (List.toArray [])) (h : Q (.bool (!(vs.length == 0))) s) : wpAny (model prog w) A (compareOp .NotEq (.ref a) (.ref b)) Q E s := by
  refine PySem.SeqAt.RcNeAt.tuples (e := fun _ => true) (isTuple_of N ha) hb hu ?_ prog w E Q ?_
  · intro j h1 h2
    simp at h2
  · simpa using h
theorem ne_nil0 (N : News h₀ L s.heap news) (hu : A.units < cLine) (ha : (a, tupOf [] n) ∈ news) (hb : s.heap.IsTuple b (List.toArray [])) (h : Q (.bool false) s) : wpAny (model prog w) A (compareOp .NotEq (.ref a) (.ref b)) Q E s := ne_nil N hu ha hb h
theorem ne_cons {v : Value} {vs : List Value} (N : News h₀ L s.heap news) (hu : A.units < cLine) (ha : (a, tupOf (v :: vs) n) ∈ news) (hb : s.heap.IsTuple b (List.toArray [])) (h : Q (.bool true) s) : wpAny (model prog w) A (compareOp .NotEq (.ref a) (.ref b)) Q E s := ne_nil N hu ha hb (by simpa using h)
theorem seqIndex_nat {j n : Nat} (h : j < n) : seqIndex? (j : Int) n = some j := by
  unfold seqIndex?
  simp only [] at *
  (repeat' split) <;> first | omega | (simp; omega) | simp_all
theorem item_first {value slice : Expr} {v : Value} {vs : List Value} {u : Nat} (N : News h₀ L s.heap news) (hm : (a, tupOf (v :: vs) n) ∈ news) (h : Q v s)
    (hs : subscripted slice false (.ref a) (.int 0 u) = operate [.ref a, .int 0 u] (getItem (.ref a) (.int 0 u)) := by with_unfolding_all rfl) :
    wpAny (model prog w) A (subscriptTail value slice (.ref a) (.int 0 u)) Q E s :=
  item_tupleT (N.isTup hm) (by decide) (by decide) (seqIndex_nat (j := 0) (by simp)) rfl h hs
theorem item_second {value slice : Expr} {v v2 : Value} {vs : List Value} {u : Nat} (N : News h₀ L s.heap news) (hm : (a, tupOf (v :: v2 :: vs) n) ∈ news) (h : Q v2 s)
    (hs : subscripted slice false (.ref a) (.int 1 u) = operate [.ref a, .int 1 u] (getItem (.ref a) (.int 1 u)) := by with_unfolding_all rfl) :
    wpAny (model prog w) A (subscriptTail value slice (.ref a) (.int 1 u)) Q E s :=
  item_tupleT (N.isTup hm) (by decide) (by decide) (seqIndex_nat (j := 1) (by simp)) rfl h hs
theorem eq_lists0 {e1 e2 : Nat} (N : News h₀ L s.heap news) (hu : A.units < cLine) (ha : (a, listOf (List.toArray []) e1) ∈ news) (hb : (b, listOf (List.toArray []) e2) ∈ news) (h : Q (.bool true) s) : wpAny (model prog w) A (compareOp .Eq (.ref a) (.ref b)) Q E s := by
  refine PySem.SeqAt.eq_listAt (e := fun _ => true) (N.isList ha) (N.isList hb) rfl hu ?_ ?_
  · intro j h1 h2
    simp at h2
  · simpa using h
theorem len_tup {vs : List Value} {k : Nat} (N : News h₀ L s.heap news) (hm : (a, tupOf vs n) ∈ news) (hz : vs.length ≤ 1000) (e : vs.length = k) (h : Q (.int (k : Int) (s.toks + 1)) { s with toks := s.toks + 1 + 1 }) : wpAny (model prog w) A (call (.builtin "len") [.ref a]) Q E s :=
  len_tuple (N.isTup hm) (by rw [List.size_toArray]; omega) (by subst e; simpa using h)
/-- a tuple from its second place on -/
theorem slice1 {value slice : Expr} {m : Str → Option Value} {v : Value} {vs : List Value} {u : Nat} (F : Fr h₀ L s.heap m) (N : News h₀ L s.heap news) (ht : (a, tupOf (v :: vs) n) ∈ news) (hz : vs.length ≤ 1000)
    (h : ∀ q h', Fr h₀ L h' m → News h₀ L h' ((q, tupOf vs 0) :: news) → (∀ p ∈ news, @LT.lt Nat _ p.1 q) → Q (.ref q) { s with heap := h' })
    (hs : subscripted slice false (.ref a) (.ref s.heap.objs.size) = operate [.ref s.heap.objs.size, .ref a] (getItem (.ref a) (.ref s.heap.objs.size)) := by with_unfolding_all rfl)
    (hg : ∀ r, letTemporaryGo value (.ref a) r = pure () := by intro _; with_unfolding_all rfl) :
    wpAny (model prog w) A (subscriptTail value slice (.ref a) (.ref s.heap.objs.size)) Q E { s with heap := s.heap.push { cls := .type "slice", data := .fields #[.int 1 u, .none, .none] } } := by
  have hz' : (v :: vs).toArray.size ≤ sizeLine := by rw [List.size_toArray, sizeLine_eq, List.length_cons]; omega
  refine slice_tuple_from (a := 1) F N (N.isTup ht) (Nat.le_refl _) (by simp) (fun h' F' N' => ?_) hs hg hz'
  exact h _ h' F' N' fun p hp => Nat.lt_succ_of_lt (Heap.lt_size (N p hp).1)
end
section
variable {prog : Program} {w : World} {A : Around} {E : Value → Shared → Prop} {s : Shared} {env : Env}
/-- the end of a comprehension's turn -/
def CEnd (h₀ : Heap) (L : Addr) (m : Str → Option Value) (s₀ : Shared) (J : List (Addr × Obj) → Prop) (own : List (Addr × Obj)) (s' : Shared) : Prop :=
  ∃ h' tk nx, s' = { s₀ with heap := h', toks := tk } ∧ Fr h₀ L h' m ∧ News h₀ L h' (nx ++ own) ∧ (∀ p ∈ nx, ∀ q ∈ own, p.1 ≠ q.1) ∧ J nx
/-- what the source of a comprehension gives -/
def CSrc (prog : Program) (w : World) (A : Around) (env : Env) (scope : Scope) (cl : List (Str × Addr)) (x : Str) (ifs : List Expr) (elt : Expr) (Q : Value → Shared → Prop) (it : Value) (s₂ : Shared) : Prop :=
  ∃ (h₀ : Heap) (L : Addr) (m : Str → Option Value) (I : Addr) (fp wr : List Addr) (n : Nat) (P : Nat → Value → Prop) (St : Nat → Heap → Prop) (nx₀ : List (Addr × Obj)) (J : Nat → List Value → List (Addr × Obj) → Prop),
    it = .ref I ∧ Walks prog w A I fp wr n P St ∧ n ≤ sizeLine ∧ St 0 s₂.heap ∧ (∀ i h, St i h → ∀ b ∈ wr, ∃ o, h.get? b = some o) ∧ (∀ b ∈ fp, ∃ o, s₂.heap.get? b = some o) ∧ (∀ b ∈ wr, h₀.get? b = none ∧ b ≠ L) ∧ Fr h₀ L s₂.heap m ∧ News h₀ L s₂.heap nx₀ ∧ (∀ p ∈ nx₀, p.1 ∉ wr) ∧ J 0 [] nx₀ ∧
    (∀ i ys nx, J i ys nx → ∀ b ∈ fp, b ∉ wr → ∀ o, s₂.heap.get? b = some o → (b, o) ∈ nx) ∧
    (∀ i v ys nx own C h tk E', i < n → P i v → J i ys nx → (∀ p ∈ nx, ∀ q ∈ own, p.1 ≠ q.1) → Fr h₀ L h m → News h₀ L h (nx ++ own) → (∃ mC, h.Ns C mC ∧ mC x = some v) →
      wpAny (model prog w) A (forIn ifs true fun c r => if r = true then do let ok ← isTrue c (compEnvC scope cl C env) (eval c (compEnvC scope cl C env)); pure (ForInStep.yield ok) else pure (ForInStep.yield r)) (fun ok s₃ =>
        if ok = true then wpAny (model prog w) A (eval elt (compEnvC scope cl C env)) (fun y s₄ => CEnd h₀ L m s₂ (J (i + 1) (ys ++ [y])) own s₄) E' s₃ else CEnd h₀ L m s₂ (J (i + 1) ys) own s₃) E' { s₂ with heap := h, toks := tk }) ∧
    (∀ ys nx D e h tk, J n ys nx → Fr h₀ L h m → News h₀ L h ((D, listOf ys.toArray e) :: nx) → (∀ p ∈ nx, p.1 ≠ D) → ys.length ≤ n → Q (.ref D) { s₂ with heap := h, toks := tk })
theorem fr_of {h₀ h h' : Heap} {L : Addr} {m : Str → Option Value} (F : Fr h₀ L h m) {W : List Addr} (hL : L ∉ W) (h0 : ∀ b ∈ W, h₀.get? b = none) (k : ∀ b o, b ∉ W → h.get? b = some o → h'.get? b = some o) : Fr h₀ L h' m :=
  ⟨F.ns.at' fun o e => k L o hL e, fun b o e => k b o (fun hb => by rw [h0 b hb] at e; cases e) (F.keep b o e), F.above⟩
theorem news_of {h₀ h h' : Heap} {L : Addr} {nx : List (Addr × Obj)} (N : News h₀ L h nx) {W : List Addr} (hW : ∀ p ∈ nx, p.1 ∉ W) (k : ∀ b o, b ∉ W → h.get? b = some o → h'.get? b = some o) : News h₀ L h' nx :=
  fun p hp => ⟨k _ _ (hW p hp) (N p hp).1, (N p hp).2⟩
theorem comp_inv {elt iter : Expr} {x : Str} {px : Pos} {ifs : List Expr} {scope : Scope} {cl : List (Str × Addr)} {pos : Pos} {Q : Value → Shared → Prop}
    (hclos : closureFor scope env = pure cl) (hcell : ∀ y ∈ scope.names, y.2 ≠ .cell) (hkind : scope.kind = .function)
    (hnames : ∀ y ∈ scope.names, y.2 = .local → scope.names.lookup y.1 = some .local) (hx : scope.names.lookup x = some .local)
    (h : wpAny (model prog w) A (eval iter env) (fun xv s₁ => wpAny (model prog w) A (pyIter xv) (fun it s₂ => CSrc prog w A env scope cl x ifs elt Q it s₂) E s₁) E s)
    (hs : ∀ x, foldedSetIterable iter env x = pure x := by intro _; rfl) :
    wpAny (model prog w) A (eval (.ListComp elt [⟨.Name x px, iter, ifs, 0⟩] scope pos) env) Q E s := by
  rw [eval_ListComp]
  refine wpAny_comprehension_free (use := none) rfl hs hclos hkind hnames (wpAny_mono h (fun xv s₁ h₁ => wpAny_mono h₁ (fun it s₂ h₂ => ?_) fun _ _ e => e) fun _ _ e => e)
  obtain ⟨h₀, L, m, I, fp, wr, n, P, St, nx₀, J, rfl, W, hsz, hst, hob, hfp, hwr, F, N, hnw, hJ, hro, turn, done⟩ := h₂
  refine wpAny_newObj_type (wpAny_newFunctionEnv hcell (by intro y hy; simp at hy) (fun h₁ hns₁ hsb₁ => ?_) hkind)
  dsimp only at hns₁ hsb₁ ⊢
  generalize hH2 : s₂.heap.push { cls := .type "list", dict := none, data := .seq ([] : List Value).toArray } = H2 at hns₁ hsb₁ ⊢
  have hC : H2.objs.size = s₂.heap.objs.size + 1 := by rw [← hH2, Heap.size_push]
  generalize hD : s₂.heap.objs.size = D at hC
  generalize hCC : H2.objs.size = C at hns₁ hsb₁ hC
  have hDC : D ≠ C := by omega
  have lt : ∀ (b : Nat) o, s₂.heap.get? b = some o → @LT.lt Nat _ b D := fun b o e => hD ▸ Heap.lt_size e
  have old : ∀ b o, s₂.heap.get? b = some o → h₁.get? b = some o := fun b o e => hsb₁.extBut b o (Nat.ne_of_lt (by have := lt b o e; omega)) (Heap.get?_push_of_some _ (hH2 ▸ Heap.get?_push_of_some _ e))
  have hacc : h₁.PlainList D #[] := ⟨_, hsb₁.extBut _ _ hDC (Heap.get?_push_of_some _ (hH2 ▸ hD ▸ Heap.get?_push_size _ rfl))⟩
  have hst₁ : St 0 h₁ := W.frame _ _ _ hst fun b _ o e => old b o e
  have fpD : D ∉ fp := fun hb => by obtain ⟨o, e⟩ := hfp D hb; have := lt _ _ e; omega
  have fpC : C ∉ fp := fun hb => by obtain ⟨o, e⟩ := hfp C hb; have := lt _ _ e; omega
  have none0 : ∀ (b : Nat), D ≤ b → h₀.get? b = none := fun b hb => by
    cases e : h₀.get? b with
    | none => rfl
    | some o => have := lt _ _ (F.keep b o e); omega
  have LD : @LT.lt Nat _ L D := by obtain ⟨o, es, ep, e, _⟩ := F.ns; exact lt _ _ e
  have F₁ : Fr h₀ L h₁ m := ⟨F.ns.at' fun o e => old L o e, fun b o e => old b o (F.keep b o e), F.above⟩
  have N₁ : News h₀ L h₁ nx₀ := fun p hp => ⟨old _ _ (N p hp).1, (N p hp).2⟩
  have nlt : ∀ p ∈ nx₀, @LT.lt Nat _ p.1 D := fun p hp => lt _ _ (N p hp).1
  have ro₁ : ∀ b ∈ fp, b ∉ wr → ∀ o, s₂.heap.get? b = some o → (b, o) ∈ nx₀ := hro 0 [] nx₀ hJ
  have loop : ∀ s₃ : Shared, s₃ = { s₂ with heap := h₁, toks := s₂.toks + ([] : List (Str × Value)).length } →
      codeAny (model prog w) A (.compLoop (.ListComp elt [⟨.Name x px, iter, ifs, 0⟩] scope pos) 0 (.ref I) (.ref D) (compEnvC scope cl C env))
        (compPost (model prog w) A E none Q (.ref D) C) s₃ := by
    rintro s₃ rfl
    refine codeAny_compLoop_tests
      (fun k s' => ∃ i h' tk mC ys nx, s' = { s₂ with heap := h', toks := tk } ∧ i ≤ n ∧ k = n + 1 - i ∧ St i h' ∧ h'.PlainList D (List.toArray ys) ∧ h'.Ns C mC ∧ Fr h₀ L h' m ∧ News h₀ L h' nx ∧
        (∀ p ∈ nx, p.1 ≠ D ∧ p.1 ≠ C ∧ p.1 ∉ wr) ∧ J i ys nx ∧ ys.length ≤ i) ?_ (n + 1)
      ⟨0, h₁, _, _, [], nx₀, rfl, Nat.zero_le _, rfl, hst₁, hacc, hns₁, F₁, N₁, fun p hp => ⟨Nat.ne_of_lt (nlt p hp), Nat.ne_of_lt (by have := nlt p hp; omega), hnw p hp⟩, hJ, Nat.le_refl _⟩
    rintro k s' ⟨i, H, tk, mC, ys, nx, rfl, hi, rfl, hst', hacc', hn', F', N', hoff, hJ', hlen⟩
    have hLw : L ∉ wr := fun hb => (hwr L hb).2 rfl
    have hCw : C ∉ wr := fun hb => fpC (W.sub _ hb)
    have hDw : D ∉ wr := fun hb => fpD (W.sub _ hb)
    by_cases hlt : i < n
    · refine W.item i _ _ _ hlt hst' fun v h₂ tk₂ hPv hst₂ hk₂ => ?_
      refine wpAny_assign_Name (wpAny_storeName_local (by exact lookup_relabel_local hx) (hn'.at' fun o e => hk₂ _ o hCw e) (fun h₃ hn₃ hs₃ => ?_) (by simp [compEnvC, relabel, hkind]))
      change h₃.Ns C _ at hn₃
      change Heap.SameBut C h₂ h₃ at hs₃
      have up : ∀ b o, b ∉ C :: wr → H.get? b = some o → h₃.get? b = some o := fun b o hb e => hs₃.extBut b o (fun z => hb (z ▸ .head _)) (hk₂ b o (fun z => hb (.tail _ z)) e)
      have nW : ∀ b ∈ C :: wr, h₀.get? b = none := fun b hb => by
        rcases List.mem_cons.mp hb with rfl | hb
        · exact none0 _ (by omega)
        · exact (hwr b hb).1
      have hLW : L ∉ C :: wr := fun hb => by
        rcases List.mem_cons.mp hb with e | hb
        · exact absurd e (Nat.ne_of_lt (by omega))
        · exact hLw hb
      have F₃ := fr_of F' hLW nW up
      have N₃ : News h₀ L h₃ nx := news_of N' (fun p hp hb => by
        rcases List.mem_cons.mp hb with e | hb
        · exact (hoff p hp).2.1 e
        · exact (hoff p hp).2.2 hb) up
      have hst₃ : St (i + 1) h₃ := W.frame _ _ _ hst₂ fun b hb o e => hs₃.extBut b o (fun z => fpC (z ▸ hb)) e
      obtain ⟨ep, hacc₃⟩ : h₃.PlainList D (List.toArray ys) := hacc'.at fun o e => up D o (fun hb => by
        rcases List.mem_cons.mp hb with e | hb
        · exact hDC e
        · exact hDw hb) e
      obtain ⟨oC, esC, epC, hoC, hrC⟩ := id hn₃
      let own : List (Addr × Obj) := (D, listOf ys.toArray ep) :: (C, oC) :: wr.filterMap fun b => (h₃.get? b).map fun o => (b, o)
      have own_at : ∀ q ∈ own, h₃.get? q.1 = some q.2 ∧ (q.1 = D ∨ q.1 = C ∨ q.1 ∈ wr) := by
        intro q hq
        rcases List.mem_cons.mp hq with rfl | hq
        · exact ⟨hacc₃, .inl rfl⟩
        · rcases List.mem_cons.mp hq with rfl | hq
          · exact ⟨hoC, .inr (.inl rfl)⟩
          · obtain ⟨b, hb, e⟩ := List.mem_filterMap.mp hq
            obtain ⟨o, ho, rfl⟩ := Option.map_eq_some_iff.mp e
            exact ⟨ho, .inr (.inr hb)⟩
      have own_in : ∀ b, (b = D ∨ b = C ∨ b ∈ wr) → ∀ o, h₃.get? b = some o → (b, o) ∈ own := by
        rintro b hb o e
        rcases hb with rfl | rfl | hb
        · rw [hacc₃] at e; cases e; exact .head _
        · rw [hoC] at e; cases e; exact .tail _ (.head _)
        · exact .tail _ (.tail _ (List.mem_filterMap.mpr ⟨b, hb, by rw [e]; rfl⟩))
      have Nown : News h₀ L h₃ own := fun q hq => by
        refine ⟨(own_at q hq).1, ?_, ?_⟩
        · rcases (own_at q hq).2 with e | e | e
          · rw [e]; exact Nat.ne_of_gt LD
          · rw [e]; exact Nat.ne_of_gt (by omega)
          · exact (hwr _ e).2
        · rcases (own_at q hq).2 with e | e | e
          · rw [e]; exact none0 _ (Nat.le_refl _)
          · rw [e]; exact none0 _ (by omega)
          · exact (hwr _ e).1
      have offs : ∀ p ∈ nx, ∀ q ∈ own, p.1 ≠ q.1 := fun p hp q hq e => by
        rcases (own_at q hq).2 with z | z | z
        · exact (hoff p hp).1 (e.trans z)
        · exact (hoff p hp).2.1 (e.trans z)
        · exact (hoff p hp).2.2 (e ▸ z)
      have N₄ : News h₀ L h₃ (nx ++ own) := fun p hp => (List.mem_append.mp hp).elim (N₃ p) (Nown p)
      have roH : ∀ b ∈ fp, b ∉ wr → ∀ o, h₃.get? b = some o → s₂.heap.get? b = some o := fun b hb hw o e => by
        obtain ⟨o', e'⟩ := hfp b hb
        have := (N₃ _ (hro i ys nx hJ' b hb hw o' e')).1
        rw [e] at this
        cases this
        exact e'
      refine wpAny_mono (turn i v ys nx own C h₃ _ _ hlt hPv hJ' offs F₃ N₄ ⟨_, hn₃, by simp⟩) (fun ok s₃ hok => ?_) fun _ _ e => e
      -- what holds behind the turn's tests and element
      have after : ∀ (ys' : List Value) (s' : Shared), CEnd h₀ L m s₂ (J (i + 1) ys') own s' → ∃ h' tk' nx', s' = { s₂ with heap := h', toks := tk' } ∧ St (i + 1) h' ∧ h'.PlainList D (List.toArray ys) ∧ (∃ mC, h'.Ns C mC) ∧ Fr h₀ L h' m ∧ News h₀ L h' nx' ∧
          (∀ p ∈ nx', p.1 ≠ D ∧ p.1 ≠ C ∧ p.1 ∉ wr) ∧ J (i + 1) ys' nx' := by
        rintro ys' s' ⟨h', tk', nx', rfl, F₅, N₅, off₅, J₅⟩
        have at_own : ∀ q ∈ own, h'.get? q.1 = some q.2 := fun q hq => (N₅ q (List.mem_append.mpr (.inr hq))).1
        have keep : ∀ b ∈ fp, ∀ o, h₃.get? b = some o → h'.get? b = some o := fun b hb o e => by
          by_cases hw : b ∈ wr
          · exact at_own _ (own_in b (.inr (.inr hw)) o e)
          · exact (N₅ _ (List.mem_append.mpr (.inl (hro _ _ _ J₅ b hb hw o (roH b hb hw o e))))).1
        refine ⟨h', tk', nx', rfl, W.frame _ _ _ hst₃ keep, ⟨ep, at_own _ (own_in D (.inl rfl) _ hacc₃)⟩, ⟨_, hn₃.at' fun o e => at_own _ (own_in C (.inr (.inl rfl)) _ e)⟩, F₅, fun p hp => N₅ p (List.mem_append.mpr (.inl hp)), fun p hp => ⟨fun e => ?_, fun e => ?_, fun e => ?_⟩, J₅⟩
        · exact off₅ p hp _ (own_in D (.inl rfl) _ hacc₃) e
        · exact off₅ p hp _ (own_in C (.inr (.inl rfl)) _ hoC) e
        · obtain ⟨o, ho⟩ := hob _ _ hst₃ p.1 e
          exact off₅ p hp _ (own_in p.1 (.inr (.inr e)) o ho) rfl
      cases ok with
      | false =>
        simp only [Bool.false_eq_true, if_false] at hok ⊢
        obtain ⟨h', tk', nx', rfl, st', pl', ⟨mC', nC'⟩, F₅, N₅, off₅, J₅⟩ := after ys _ hok
        exact ⟨n + 1 - (i + 1), by omega, i + 1, h', tk', mC', ys, nx', rfl, hlt, rfl, st', pl', nC', F₅, N₅, off₅, J₅, by omega⟩
      | true =>
        simp only [if_true] at hok ⊢
        refine wpAny_mono hok (fun y s₄ hy => ?_) fun _ _ e => e
        obtain ⟨h', tk', nx', rfl, st', pl', ⟨mC', nC'⟩, F₅, N₅, off₅, J₅⟩ := after (ys ++ [y]) _ hy
        have hys : (List.toArray ys).size ≤ sizeLine := by rw [List.size_toArray]; omega
        refine wpAny_list_append_plain (hsz := hys) pl' fun h₅ hl₅ hs₅ => ?_
        have kk : ∀ b o, b ∉ [D] → h'.get? b = some o → h₅.get? b = some o := fun b o hb e => hs₅.extBut b o (fun z => hb (z ▸ .head _)) e
        refine ⟨n + 1 - (i + 1), by omega, i + 1, h₅, tk', mC', ys ++ [y], nx', rfl, hlt, rfl, W.frame _ _ _ st' (fun b hb o e => kk b o (fun z => fpD (List.mem_singleton.mp z ▸ hb)) e), by simpa using hl₅, nC'.at' (fun o e => kk C o (fun z => hDC (List.mem_singleton.mp z).symm) e), ?_, ?_, off₅, J₅, by rw [List.length_append, List.length_singleton]; omega⟩
        · exact fr_of F₅ (fun z => absurd (List.mem_singleton.mp z) (Nat.ne_of_lt LD)) (fun b hb => by rw [List.mem_singleton.mp hb]; exact none0 _ (Nat.le_refl _)) kk
        · exact news_of N₅ (fun p hp z => (off₅ p hp).1 (List.mem_singleton.mp z)) kk
    · have hin : i = n := by omega
      subst hin
      refine W.done _ _ _ hst' fun h₂ tk₂ hk₂ => ?_
      refine ⟨mC, hn'.at' (fun o e => hk₂ _ o hCw e), fun h₃ hs₃ => ?_⟩
      have up : ∀ b o, b ∉ C :: wr → H.get? b = some o → h₃.get? b = some o := fun b o hb e => hs₃.extBut b o (fun z => hb (z ▸ .head _)) (hk₂ b o (fun z => hb (.tail _ z)) e)
      have nW : ∀ b ∈ C :: wr, h₀.get? b = none := fun b hb => by
        rcases List.mem_cons.mp hb with rfl | hb
        · exact none0 _ (by omega)
        · exact (hwr b hb).1
      have hLW : L ∉ C :: wr := fun hb => by
        rcases List.mem_cons.mp hb with e | hb
        · exact absurd e (Nat.ne_of_lt (by omega))
        · exact hLw hb
      have hDW : D ∉ C :: wr := fun hb => by
        rcases List.mem_cons.mp hb with e | hb
        · exact hDC e
        · exact hDw hb
      have F₃ := fr_of F' hLW nW up
      have N₃ : News h₀ L h₃ nx := news_of N' (fun p hp hb => by
        rcases List.mem_cons.mp hb with e | hb
        · exact (hoff p hp).2.1 e
        · exact (hoff p hp).2.2 hb) up
      obtain ⟨ep, hacc₃⟩ : h₃.PlainList D (List.toArray ys) := hacc'.at fun o e => up D o hDW e
      refine done ys nx D ep h₃ tk₂ hJ' F₃ (fun p hp => ?_) (fun p hp => (hoff p hp).1) hlen
      rcases List.mem_cons.mp hp with rfl | hp
      · exact ⟨hacc₃, Nat.ne_of_gt LD, none0 _ (Nat.le_refl _)⟩
      · exact N₃ p hp
  exact codeAny_compStart_list (loop _ rfl) (W.self 0 _ _ _ hst₁ (loop _ rfl))
theorem comp_tupG {elt : Expr} {ifs : List Expr} {x : Str} {scope : Scope} {cl : List (Str × Addr)} {Q : Value → Shared → Prop} {h₀ : Heap} {L : Addr} {m : Str → Option Value} {nx₀ : List (Addr × Obj)} {t : Addr} {vs : List Value} {e0 : Nat}
    (hh : A.handled = none) (F : Fr h₀ L s.heap m) (N : News h₀ L s.heap nx₀) (hT : (t, tupOf vs e0) ∈ nx₀) (hz : vs.length ≤ 1000) (J : Nat → List Value → List (Addr × Obj) → Prop) (hJ : J 0 [] nx₀)
    (hro : ∀ i ys nx, J i ys nx → (t, tupOf vs e0) ∈ nx)
    (turn : ∀ i v ys nx own C h tk E', vs[i]? = some v → J i ys nx → (∀ p ∈ nx, ∀ q ∈ own, p.1 ≠ q.1) → Fr h₀ L h m → News h₀ L h (nx ++ own) → (∃ mC, h.Ns C mC ∧ mC x = some v) →
      wpAny (model prog w) A (forIn ifs true fun c r => if r = true then do let ok ← isTrue c (compEnvC scope cl C env) (eval c (compEnvC scope cl C env)); pure (ForInStep.yield ok) else pure (ForInStep.yield r)) (fun ok s₃ =>
        if ok = true then wpAny (model prog w) A (eval elt (compEnvC scope cl C env)) (fun y s₄ => CEnd h₀ L m s (J (i + 1) (ys ++ [y])) own s₄) E' s₃ else CEnd h₀ L m s (J (i + 1) ys) own s₃) E' { s with heap := h, toks := tk })
    (done : ∀ ys nx D e h tk, J vs.length ys nx → Fr h₀ L h m → News h₀ L h ((D, listOf ys.toArray e) :: nx) → (∀ p ∈ nx, p.1 ≠ D) → Q (.ref D) { s with heap := h, toks := tk }) :
    wpAny (model prog w) A (pyIter (.ref t)) (fun it s₂ => CSrc prog w A env scope cl x ifs elt Q it s₂) E s := by
  have ht : s.heap.IsTuple t vs.toArray := ⟨_, (N _ hT).1, rfl, _, rfl⟩
  have htn : t ≠ s.heap.objs.size := Nat.ne_of_lt (Heap.lt_size (N _ hT).1)
  have hn0 : ∀ (b : Addr) (o : Obj), s.heap.get? b = some o → b ≠ s.heap.objs.size := fun b o e => Nat.ne_of_lt (Heap.lt_size e)
  have LI : L ≠ s.heap.objs.size := by obtain ⟨o, es, ep, e, _⟩ := F.ns; exact hn0 _ _ e
  refine wpAny_pyIter_tuple ht ?_
  have W := Walks.tuple (prog := prog) (w := w) hh s.heap.objs.size t htn vs.toArray
  refine ⟨h₀, L, m, _, _, _, _, _, _, nx₀, J, rfl, W, ?_, ⟨?_, ?_⟩, ?_, ?_, ?_, F.push _, fun p hp => ⟨Heap.get?_push_of_some _ (N p hp).1, (N p hp).2⟩, ?_, hJ, ?_, ?_, ?_⟩
  · rw [List.size_toArray, sizeLine_eq]; omega
  · exact ⟨_, Heap.get?_push_size _ rfl, rfl, rfl⟩
  · exact ⟨_, Heap.get?_push_of_some _ (N _ hT).1, rfl, _, rfl⟩
  · rintro i h ⟨hi, _⟩ b hb
    rw [List.mem_singleton.mp hb]; obtain ⟨o, ho, _⟩ := hi; exact ⟨o, ho⟩
  · intro b hb
    rcases List.mem_cons.mp hb with rfl | hb
    · exact ⟨_, Heap.get?_push_size _ rfl⟩
    · rw [List.mem_singleton.mp hb]; exact ⟨_, Heap.get?_push_of_some _ (N _ hT).1⟩
  · intro b hb
    rw [List.mem_singleton.mp hb]
    refine ⟨?_, Ne.symm LI⟩
    cases e : h₀.get? s.heap.objs.size with
    | none => rfl
    | some o => exact absurd rfl (hn0 _ _ (F.keep _ _ e))
  · intro p hp hb
    exact hn0 _ _ (N p hp).1 (List.mem_singleton.mp hb)
  · intro i ys nx j b hb hw o e
    rcases List.mem_cons.mp hb with rfl | hb
    · exact absurd (.head _) hw
    · rw [List.mem_singleton.mp hb] at e ⊢
      rw [Heap.get?_push_of_some _ (N _ hT).1] at e
      cases e
      exact hro i ys nx j
  · intro i v ys nx own C h tk E' hi hP j off F' N' hC
    exact turn i v ys nx own C h tk E' (by simpa using hP) j off F' N' hC
  · intro ys nx D e h tk j F' N' off _
    exact done ys nx D e h tk (by simpa using j) F' N' off
theorem comp_tup {elt : Expr} {x : Str} {scope : Scope} {cl : List (Str × Addr)} {Q : Value → Shared → Prop} {h₀ : Heap} {L : Addr} {m : Str → Option Value} {nx₀ : List (Addr × Obj)} {t : Addr} {vs : List Value} {e0 : Nat}
    (hh : A.handled = none) (F : Fr h₀ L s.heap m) (N : News h₀ L s.heap nx₀) (hT : (t, tupOf vs e0) ∈ nx₀) (hz : vs.length ≤ 1000) (J : Nat → List Value → List (Addr × Obj) → Prop) (hJ : J 0 [] nx₀)
    (hro : ∀ i ys nx, J i ys nx → (t, tupOf vs e0) ∈ nx)
    (turn : ∀ i v ys nx own C h tk E', vs[i]? = some v → J i ys nx → (∀ p ∈ nx, ∀ q ∈ own, p.1 ≠ q.1) → Fr h₀ L h m → News h₀ L h (nx ++ own) → (∃ mC, h.Ns C mC ∧ mC x = some v) →
      wpAny (model prog w) A (eval elt (compEnvC scope cl C env)) (fun y s₄ => CEnd h₀ L m s (J (i + 1) (ys ++ [y])) own s₄) E' { s with heap := h, toks := tk })
    (done : ∀ ys nx D e h tk, J vs.length ys nx → Fr h₀ L h m → News h₀ L h ((D, listOf ys.toArray e) :: nx) → (∀ p ∈ nx, p.1 ≠ D) → Q (.ref D) { s with heap := h, toks := tk }) :
    wpAny (model prog w) A (pyIter (.ref t)) (fun it s₂ => CSrc prog w A env scope cl x [] elt Q it s₂) E s :=
  comp_tupG hh F N hT hz J hJ hro (fun i v ys nx own C h tk E' hi j off F' N' hC => wpAny_pure (by simpa using turn i v ys nx own C h tk E' hi j off F' N' hC)) done
theorem forIn_one {M : Model} {c : Expr} {f : Expr → Sem Bool} {Q : Bool → Shared → Prop} (h : wpAny M A (f c) Q E s) :
    wpAny M A (forIn [c] true fun c r => if r = true then do let ok ← f c; pure (ForInStep.yield ok) else pure (ForInStep.yield r)) Q E s := by
  rw [List.forIn_cons]
  refine wpAny_bind ?_
  simp only [if_true]
  refine wpAny_bind (wpAny_mono h (fun ok s' hq => wpAny_pure ?_) fun _ _ e => e)
  exact wpAny_pure hq
/-- the end of a turn that leaves the ledger as it was -/
def CSame (h₀ : Heap) (L : Addr) (m : Str → Option Value) (s₀ : Shared) (l : List (Addr × Obj)) (P : Prop) (s' : Shared) : Prop :=
  ∃ h' tk, s' = { s₀ with heap := h', toks := tk } ∧ Fr h₀ L h' m ∧ News h₀ L h' l ∧ P
theorem comp_same {elt : Expr} {ifs : List Expr} {x : Str} {scope : Scope} {cl : List (Str × Addr)} {Q : Value → Shared → Prop} {h₀ : Heap} {L : Addr} {m : Str → Option Value} {nx₀ : List (Addr × Obj)} {t : Addr} {vs : List Value} {e0 : Nat}
    (hh : A.handled = none) (F : Fr h₀ L s.heap m) (N : News h₀ L s.heap nx₀) (hT : (t, tupOf vs e0) ∈ nx₀) (hz : vs.length ≤ 1000) (P : Nat → List Value → Prop) (hP : P 0 [])
    (turn : ∀ i v ys own C h tk E', vs[i]? = some v → P i ys → Fr h₀ L h m → News h₀ L h (nx₀ ++ own) → (∃ mC, h.Ns C mC ∧ mC x = some v) →
      wpAny (model prog w) A (forIn ifs true fun c r => if r = true then do let ok ← isTrue c (compEnvC scope cl C env) (eval c (compEnvC scope cl C env)); pure (ForInStep.yield ok) else pure (ForInStep.yield r)) (fun ok s₃ =>
        if ok = true then wpAny (model prog w) A (eval elt (compEnvC scope cl C env)) (fun y s₄ => CSame h₀ L m s (nx₀ ++ own) (P (i + 1) (ys ++ [y])) s₄) E' s₃ else CSame h₀ L m s (nx₀ ++ own) (P (i + 1) ys) s₃) E' { s with heap := h, toks := tk })
    (done : ∀ ys D e h tk, P vs.length ys → Fr h₀ L h m → News h₀ L h ((D, listOf ys.toArray e) :: nx₀) → (∀ p ∈ nx₀, p.1 ≠ D) → Q (.ref D) { s with heap := h, toks := tk }) :
    wpAny (model prog w) A (pyIter (.ref t)) (fun it s₂ => CSrc prog w A env scope cl x ifs elt Q it s₂) E s := by
  refine comp_tupG hh F N hT hz (fun i ys nx => P i ys ∧ nx = nx₀) ⟨hP, rfl⟩ ?_ ?_ ?_
  · rintro i ys nx ⟨_, rfl⟩; exact hT
  · rintro i v ys nx own C h tk E' hi ⟨p, rfl⟩ off F' N' hC
    have up : ∀ ys' s', CSame h₀ L m s (nx ++ own) (P (i + 1) ys') s' → CEnd h₀ L m s (fun l => P (i + 1) ys' ∧ l = nx) own s' := by
      rintro ys' s' ⟨h', tk', rfl, F2, N2, p2⟩
      exact ⟨h', tk', nx, rfl, F2, N2, off, p2, rfl⟩
    refine wpAny_mono (turn i v ys own C h tk E' hi p F' N' hC) (fun ok s₃ q => ?_) fun _ _ e => e
    cases ok with
    | false => simp only [Bool.false_eq_true, if_false] at q ⊢; exact up _ _ q
    | true => simp only [if_true] at q ⊢; exact wpAny_mono q (fun y s₄ q => up _ _ q) fun _ _ e => e
  · rintro ys nx D e h tk ⟨p, rfl⟩ F' N' off
    exact done ys D e h tk p F' N' off
end
section
variable {prog : Program} {w : World} {A : Around} {E : Value → Shared → Prop} {s : Shared} {env : Env}
theorem comp_range1 {elt : Expr} {x : Str} {scope : Scope} {cl : List (Str × Addr)} {Q : Value → Shared → Prop} {h₀ : Heap} {L : Addr} {m : Str → Option Value} {nx₀ : List (Addr × Obj)} {r : Int} {t0 : Tok}
    (hh : A.handled = none) (F : Fr h₀ L s.heap m) (N : News h₀ L s.heap nx₀) (hr0 : 0 ≤ r) (hr1 : r < 4) (J : Nat → List Value → List (Addr × Obj) → Prop) (hJ : J 0 [] nx₀)
    (turn : ∀ (i : Nat) v ys nx own C h tk E', i < r.toNat → J i ys nx → (∀ p ∈ nx, ∀ q ∈ own, p.1 ≠ q.1) → Fr h₀ L h m → News h₀ L h (nx ++ own) → (∃ mC, h.Ns C mC ∧ mC x = some v) →
      wpAny (model prog w) A (eval elt (compEnvC scope cl C env)) (fun y s₄ => CEnd h₀ L m s (J (i + 1) (ys ++ [y])) own s₄) E' { s with heap := h, toks := tk })
    (done : ∀ ys nx D e h tk, J r.toNat ys nx → Fr h₀ L h m → News h₀ L h ((D, listOf ys.toArray e) :: nx) → (∀ p ∈ nx, p.1 ≠ D) → Q (.ref D) { s with heap := h, toks := tk }) :
    wpAny (model prog w) A (call (.type "range") [.int r t0]) (fun xv s₁ => wpAny (model prog w) A (pyIter xv) (fun it s₂ => CSrc prog w A env scope cl x [] elt Q it s₂) E s₁) E s := by
  have hsz : Builtin.Range.rangeSize 0 r 1 = ((r.toNat : Nat) : Int) := by rw [rangeSize_nat]; simp
  have hsm : Builtin.Range.small 0 r 1 = true := by
    have : r = 0 ∨ r = 1 ∨ r = 2 ∨ r = 3 := by omega
    rcases this with rfl | rfl | rfl | rfl <;> decide
  have hn0 : ∀ (b : Addr) (o : Obj), s.heap.get? b = some o → @LT.lt Nat _ b s.heap.objs.size := fun b o e => Heap.lt_size e
  refine call_range_1 ?_
  have hr : IsRange (s.heap.push { cls := .type "range", data := .fields #[.int 0 s.toks, .int r t0, .int 1 (s.toks + 1)] }) s.heap.objs.size 0 r 1 s.toks t0 (s.toks + 1) := IsRange.new _ _ _ _ _ _ _
  refine wpAny_pyIter_range hr hsm ?_
  rw [hsz]
  generalize hH : s.heap.push { cls := .type "range", data := .fields #[.int 0 s.toks, .int r t0, .int 1 (s.toks + 1)] } = H
  have up : ∀ b o, s.heap.get? b = some o → H.get? b = some o := fun b o e => hH ▸ Heap.get?_push_of_some _ e
  have hI : H.objs.size = s.heap.objs.size + 1 := by rw [← hH, Heap.size_push]
  have F1 : Fr h₀ L H m := hH ▸ F.push _
  have N1 : News h₀ L H nx₀ := fun p hp => ⟨up _ _ (N p hp).1, (N p hp).2⟩
  have LI : L ≠ H.objs.size := by
    obtain ⟨o, es, ep, e, _⟩ := F.ns
    have := hn0 _ _ e
    rw [hI]; exact Nat.ne_of_lt (by omega)
  have W := Walks.range (prog := prog) (w := w) hh H.objs.size 0 1 r.toNat
  refine ⟨h₀, L, m, _, _, _, _, _, _, nx₀, J, rfl, W, ?_, ?_, ?_, ?_, ?_, F1.push _, fun p hp => ⟨Heap.get?_push_of_some _ (N1 p hp).1, (N1 p hp).2⟩, ?_, hJ, ?_, ?_, ?_⟩
  · rw [sizeLine_eq]; omega
  · have := Heap.get?_push_size H (o := { cls := .type "range_iterator", data := .fields #[rawInt 0, rawInt ((r.toNat : Nat) : Int), rawInt 1] }) rfl
    simpa [IsRangeIter] using this
  · rintro i h hi b hb
    rw [List.mem_singleton.mp hb]; exact ⟨_, hi⟩
  · intro b hb
    rw [List.mem_singleton.mp hb]
    exact ⟨_, Heap.get?_push_size _ rfl⟩
  · intro b hb
    rw [List.mem_singleton.mp hb]
    refine ⟨?_, Ne.symm LI⟩
    cases e : h₀.get? H.objs.size with
    | none => rfl
    | some o => have := hn0 _ _ (F.keep _ _ e); omega
  · intro p hp hb
    have := hn0 _ _ (N p hp).1
    have e := List.mem_singleton.mp hb
    rw [e] at this; omega
  · intro i ys nx j b hb hw o e
    exact absurd hb hw
  · intro i v ys nx own C h tk E' hi hP j off F' N' hC
    refine wpAny_pure ?_
    rw [if_pos rfl]
    exact turn i v ys nx own C h tk E' hi j off F' N' hC
  · intro ys nx D e h tk j F' N' off _
    exact done ys nx D e h tk j F' N' off
end
section
variable {prog : Program} {w : World} {A : Around} {E : Value → Shared → Prop} {s : Shared} {env : Env}
/-- what the source of a comprehension gives -/
def CSrcA (prog : Program) (w : World) (A : Around) (env : Env) (scope : Scope) (cl : List (Str × Addr)) (x : Str) (ifs : List Expr) (elt : Expr) (y : Str) (Q : Flow → Shared → Prop) (it : Value) (s₂ : Shared) : Prop :=
  ∃ (h₀ : Heap) (L : Addr) (m : Str → Option Value) (I : Addr) (fp wr : List Addr) (n : Nat) (P : Nat → Value → Prop) (St : Nat → Heap → Prop) (nx₀ : List (Addr × Obj)) (J : Nat → List Value → List (Addr × Obj) → Prop),
    env.locals = L ∧ it = .ref I ∧ Walks prog w A I fp wr n P St ∧ n ≤ sizeLine ∧ St 0 s₂.heap ∧ (∀ i h, St i h → ∀ b ∈ wr, ∃ o, h.get? b = some o) ∧ (∀ b ∈ fp, ∃ o, s₂.heap.get? b = some o) ∧ (∀ b ∈ wr, h₀.get? b = none ∧ b ≠ L) ∧ Fr h₀ L s₂.heap m ∧ News h₀ L s₂.heap nx₀ ∧ (∀ p ∈ nx₀, p.1 ∉ wr) ∧ J 0 [] nx₀ ∧
    (∀ i ys nx, J i ys nx → ∀ b ∈ fp, b ∉ wr → ∀ o, s₂.heap.get? b = some o → (b, o) ∈ nx) ∧
    (∀ i v ys nx own C h tk E', i < n → P i v → J i ys nx → (∀ p ∈ nx, ∀ q ∈ own, p.1 ≠ q.1) → Fr h₀ L h m → News h₀ L h (nx ++ own) → (∃ mC, h.Ns C mC ∧ mC x = some v) →
      wpAny (model prog w) A (forIn ifs true fun c r => if r = true then do let ok ← isTrue c (compEnvC scope cl C env) (eval c (compEnvC scope cl C env)); pure (ForInStep.yield ok) else pure (ForInStep.yield r)) (fun ok s₃ =>
        if ok = true then wpAny (model prog w) A (eval elt (compEnvC scope cl C env)) (fun y s₄ => CEnd h₀ L m s₂ (J (i + 1) (ys ++ [y])) own s₄) E' s₃ else CEnd h₀ L m s₂ (J (i + 1) ys) own s₃) E' { s₂ with heap := h, toks := tk }) ∧
    (∀ ys nx D e h tk, J n ys nx → Fr h₀ L h (fun z => if z = y then some (.ref D) else m z) → News h₀ L h ((D, listOf ys.toArray e) :: nx) → (∀ p ∈ nx, p.1 ≠ D) → ys.length ≤ n → Q .next { s₂ with heap := h, toks := tk })
theorem comp_invA {elt iter : Expr} {x y : Str} {px py : Pos} {scope : Scope} {cl : List (Str × Addr)} {pos spos : Pos} {Q : Flow → Shared → Prop}
    (hsw : swapsWith (.ListComp elt [⟨.Name x px, iter, [], 0⟩] scope pos) (some (.Name y py)) spos.line env = pure true) (hy : env.kindOf y = some .local) (hp : (env.scope.kind == .class || (env.scope.kind == .module && env.locals != env.globals)) = false)
    (hclos : closureFor scope env = pure cl) (hcell : ∀ y ∈ scope.names, y.2 ≠ .cell) (hkind : scope.kind = .function)
    (hnames : ∀ y ∈ scope.names, y.2 = .local → scope.names.lookup y.1 = some .local) (hx : scope.names.lookup x = some .local)
    (h : wpAny (model prog w) A (eval iter env) (fun xv s₁ => wpAny (model prog w) A (pyIter xv) (fun it s₂ => CSrcA prog w A env scope cl x [] elt y Q it s₂) E s₁) E s)
    (hs : ∀ x, foldedSetIterable iter env x = pure x := by intro _; rfl) :
    wpAny (model prog w) A (exec (.Assign [.Name y py] (.ListComp elt [⟨.Name x px, iter, [], 0⟩] scope pos) spos) env) Q E s := by
  rw [exec_Assign_Name_used _ _ _ _ hsw]
  refine wpAny_bind (wpAny_standAt (wpAny_bind ?_))
  show wpAny _ A (do let _ ← comprehension (.ListComp elt [⟨.Name x px, iter, [], 0⟩] scope pos) scope env _ (newList []) false (eval iter env) (some (assign (.Name y py) env))) _ _ s
  refine wpAny_bind (wpAny_mono (wpAny_comprehension_free (use := some (assign (.Name y py) env)) (Q := fun _ s' => Q .next s') rfl hs hclos hkind hnames
    (wpAny_mono h (fun xv s₁ h₁ => wpAny_mono h₁ (fun it s₂ h₂ => ?_) fun _ _ e => e) fun _ _ e => e)) (fun _ s' hq => wpAny_pure (wpAny_pure hq)) fun _ _ e => e)
  obtain ⟨h₀, L, m, I, fp, wr, n, P, St, nx₀, J, hLe, rfl, W, hsz, hst, hob, hfp, hwr, F, N, hnw, hJ, hro, turn, done⟩ := h₂
  refine wpAny_newObj_type (wpAny_newFunctionEnv hcell (by intro y hy; simp at hy) (fun h₁ hns₁ hsb₁ => ?_) hkind)
  dsimp only at hns₁ hsb₁ ⊢
  generalize hH2 : s₂.heap.push { cls := .type "list", dict := none, data := .seq ([] : List Value).toArray } = H2 at hns₁ hsb₁ ⊢
  have hC : H2.objs.size = s₂.heap.objs.size + 1 := by rw [← hH2, Heap.size_push]
  generalize hD : s₂.heap.objs.size = D at hC
  generalize hCC : H2.objs.size = C at hns₁ hsb₁ hC
  have hDC : D ≠ C := by omega
  have lt : ∀ (b : Nat) o, s₂.heap.get? b = some o → @LT.lt Nat _ b D := fun b o e => hD ▸ Heap.lt_size e
  have old : ∀ b o, s₂.heap.get? b = some o → h₁.get? b = some o := fun b o e => hsb₁.extBut b o (Nat.ne_of_lt (by have := lt b o e; omega)) (Heap.get?_push_of_some _ (hH2 ▸ Heap.get?_push_of_some _ e))
  have hacc : h₁.PlainList D #[] := ⟨_, hsb₁.extBut _ _ hDC (Heap.get?_push_of_some _ (hH2 ▸ hD ▸ Heap.get?_push_size _ rfl))⟩
  have hst₁ : St 0 h₁ := W.frame _ _ _ hst fun b _ o e => old b o e
  have fpD : D ∉ fp := fun hb => by obtain ⟨o, e⟩ := hfp D hb; have := lt _ _ e; omega
  have fpC : C ∉ fp := fun hb => by obtain ⟨o, e⟩ := hfp C hb; have := lt _ _ e; omega
  have none0 : ∀ (b : Nat), D ≤ b → h₀.get? b = none := fun b hb => by
    cases e : h₀.get? b with
    | none => rfl
    | some o => have := lt _ _ (F.keep b o e); omega
  have LD : @LT.lt Nat _ L D := by obtain ⟨o, es, ep, e, _⟩ := F.ns; exact lt _ _ e
  have F₁ : Fr h₀ L h₁ m := ⟨F.ns.at' fun o e => old L o e, fun b o e => old b o (F.keep b o e), F.above⟩
  have N₁ : News h₀ L h₁ nx₀ := fun p hp => ⟨old _ _ (N p hp).1, (N p hp).2⟩
  have nlt : ∀ p ∈ nx₀, @LT.lt Nat _ p.1 D := fun p hp => lt _ _ (N p hp).1
  have ro₁ : ∀ b ∈ fp, b ∉ wr → ∀ o, s₂.heap.get? b = some o → (b, o) ∈ nx₀ := hro 0 [] nx₀ hJ
  have loop : ∀ s₃ : Shared, s₃ = { s₂ with heap := h₁, toks := s₂.toks + ([] : List (Str × Value)).length } →
      codeAny (model prog w) A (.compLoop (.ListComp elt [⟨.Name x px, iter, [], 0⟩] scope pos) 0 (.ref I) (.ref D) (compEnvC scope cl C env))
        (compPost (model prog w) A E (some (assign (.Name y py) env)) (fun _ s' => Q .next s') (.ref D) C) s₃ := by
    rintro s₃ rfl
    refine codeAny_compLoop_tests
      (fun k s' => ∃ i h' tk mC ys nx, s' = { s₂ with heap := h', toks := tk } ∧ i ≤ n ∧ k = n + 1 - i ∧ St i h' ∧ h'.PlainList D (List.toArray ys) ∧ h'.Ns C mC ∧ Fr h₀ L h' m ∧ News h₀ L h' nx ∧
        (∀ p ∈ nx, p.1 ≠ D ∧ p.1 ≠ C ∧ p.1 ∉ wr) ∧ J i ys nx ∧ ys.length ≤ i) ?_ (n + 1)
      ⟨0, h₁, _, _, [], nx₀, rfl, Nat.zero_le _, rfl, hst₁, hacc, hns₁, F₁, N₁, fun p hp => ⟨Nat.ne_of_lt (nlt p hp), Nat.ne_of_lt (by have := nlt p hp; omega), hnw p hp⟩, hJ, Nat.le_refl _⟩
    rintro k s' ⟨i, H, tk, mC, ys, nx, rfl, hi, rfl, hst', hacc', hn', F', N', hoff, hJ', hlen⟩
    have hLw : L ∉ wr := fun hb => (hwr L hb).2 rfl
    have hCw : C ∉ wr := fun hb => fpC (W.sub _ hb)
    have hDw : D ∉ wr := fun hb => fpD (W.sub _ hb)
    by_cases hlt : i < n
    · refine W.item i _ _ _ hlt hst' fun v h₂ tk₂ hPv hst₂ hk₂ => ?_
      refine wpAny_assign_Name (wpAny_storeName_local (by exact lookup_relabel_local hx) (hn'.at' fun o e => hk₂ _ o hCw e) (fun h₃ hn₃ hs₃ => ?_) (by simp [compEnvC, relabel, hkind]))
      change h₃.Ns C _ at hn₃
      change Heap.SameBut C h₂ h₃ at hs₃
      have up : ∀ b o, b ∉ C :: wr → H.get? b = some o → h₃.get? b = some o := fun b o hb e => hs₃.extBut b o (fun z => hb (z ▸ .head _)) (hk₂ b o (fun z => hb (.tail _ z)) e)
      have nW : ∀ b ∈ C :: wr, h₀.get? b = none := fun b hb => by
        rcases List.mem_cons.mp hb with rfl | hb
        · exact none0 _ (by omega)
        · exact (hwr b hb).1
      have hLW : L ∉ C :: wr := fun hb => by
        rcases List.mem_cons.mp hb with e | hb
        · exact absurd e (Nat.ne_of_lt (by omega))
        · exact hLw hb
      have F₃ := fr_of F' hLW nW up
      have N₃ : News h₀ L h₃ nx := news_of N' (fun p hp hb => by
        rcases List.mem_cons.mp hb with e | hb
        · exact (hoff p hp).2.1 e
        · exact (hoff p hp).2.2 hb) up
      have hst₃ : St (i + 1) h₃ := W.frame _ _ _ hst₂ fun b hb o e => hs₃.extBut b o (fun z => fpC (z ▸ hb)) e
      obtain ⟨ep, hacc₃⟩ : h₃.PlainList D (List.toArray ys) := hacc'.at fun o e => up D o (fun hb => by
        rcases List.mem_cons.mp hb with e | hb
        · exact hDC e
        · exact hDw hb) e
      obtain ⟨oC, esC, epC, hoC, hrC⟩ := id hn₃
      let own : List (Addr × Obj) := (D, listOf ys.toArray ep) :: (C, oC) :: wr.filterMap fun b => (h₃.get? b).map fun o => (b, o)
      have own_at : ∀ q ∈ own, h₃.get? q.1 = some q.2 ∧ (q.1 = D ∨ q.1 = C ∨ q.1 ∈ wr) := by
        intro q hq
        rcases List.mem_cons.mp hq with rfl | hq
        · exact ⟨hacc₃, .inl rfl⟩
        · rcases List.mem_cons.mp hq with rfl | hq
          · exact ⟨hoC, .inr (.inl rfl)⟩
          · obtain ⟨b, hb, e⟩ := List.mem_filterMap.mp hq
            obtain ⟨o, ho, rfl⟩ := Option.map_eq_some_iff.mp e
            exact ⟨ho, .inr (.inr hb)⟩
      have own_in : ∀ b, (b = D ∨ b = C ∨ b ∈ wr) → ∀ o, h₃.get? b = some o → (b, o) ∈ own := by
        rintro b hb o e
        rcases hb with rfl | rfl | hb
        · rw [hacc₃] at e; cases e; exact .head _
        · rw [hoC] at e; cases e; exact .tail _ (.head _)
        · exact .tail _ (.tail _ (List.mem_filterMap.mpr ⟨b, hb, by rw [e]; rfl⟩))
      have Nown : News h₀ L h₃ own := fun q hq => by
        refine ⟨(own_at q hq).1, ?_, ?_⟩
        · rcases (own_at q hq).2 with e | e | e
          · rw [e]; exact Nat.ne_of_gt LD
          · rw [e]; exact Nat.ne_of_gt (by omega)
          · exact (hwr _ e).2
        · rcases (own_at q hq).2 with e | e | e
          · rw [e]; exact none0 _ (Nat.le_refl _)
          · rw [e]; exact none0 _ (by omega)
          · exact (hwr _ e).1
      have offs : ∀ p ∈ nx, ∀ q ∈ own, p.1 ≠ q.1 := fun p hp q hq e => by
        rcases (own_at q hq).2 with z | z | z
        · exact (hoff p hp).1 (e.trans z)
        · exact (hoff p hp).2.1 (e.trans z)
        · exact (hoff p hp).2.2 (e ▸ z)
      have N₄ : News h₀ L h₃ (nx ++ own) := fun p hp => (List.mem_append.mp hp).elim (N₃ p) (Nown p)
      have roH : ∀ b ∈ fp, b ∉ wr → ∀ o, h₃.get? b = some o → s₂.heap.get? b = some o := fun b hb hw o e => by
        obtain ⟨o', e'⟩ := hfp b hb
        have := (N₃ _ (hro i ys nx hJ' b hb hw o' e')).1
        rw [e] at this
        cases this
        exact e'
      refine wpAny_mono (turn i v ys nx own C h₃ _ _ hlt hPv hJ' offs F₃ N₄ ⟨_, hn₃, by simp⟩) (fun ok s₃ hok => ?_) fun _ _ e => e
      -- what holds behind the turn's tests and element
      have after : ∀ (ys' : List Value) (s' : Shared), CEnd h₀ L m s₂ (J (i + 1) ys') own s' → ∃ h' tk' nx', s' = { s₂ with heap := h', toks := tk' } ∧ St (i + 1) h' ∧ h'.PlainList D (List.toArray ys) ∧ (∃ mC, h'.Ns C mC) ∧ Fr h₀ L h' m ∧ News h₀ L h' nx' ∧
          (∀ p ∈ nx', p.1 ≠ D ∧ p.1 ≠ C ∧ p.1 ∉ wr) ∧ J (i + 1) ys' nx' := by
        rintro ys' s' ⟨h', tk', nx', rfl, F₅, N₅, off₅, J₅⟩
        have at_own : ∀ q ∈ own, h'.get? q.1 = some q.2 := fun q hq => (N₅ q (List.mem_append.mpr (.inr hq))).1
        have keep : ∀ b ∈ fp, ∀ o, h₃.get? b = some o → h'.get? b = some o := fun b hb o e => by
          by_cases hw : b ∈ wr
          · exact at_own _ (own_in b (.inr (.inr hw)) o e)
          · exact (N₅ _ (List.mem_append.mpr (.inl (hro _ _ _ J₅ b hb hw o (roH b hb hw o e))))).1
        refine ⟨h', tk', nx', rfl, W.frame _ _ _ hst₃ keep, ⟨ep, at_own _ (own_in D (.inl rfl) _ hacc₃)⟩, ⟨_, hn₃.at' fun o e => at_own _ (own_in C (.inr (.inl rfl)) _ e)⟩, F₅, fun p hp => N₅ p (List.mem_append.mpr (.inl hp)), fun p hp => ⟨fun e => ?_, fun e => ?_, fun e => ?_⟩, J₅⟩
        · exact off₅ p hp _ (own_in D (.inl rfl) _ hacc₃) e
        · exact off₅ p hp _ (own_in C (.inr (.inl rfl)) _ hoC) e
        · obtain ⟨o, ho⟩ := hob _ _ hst₃ p.1 e
          exact off₅ p hp _ (own_in p.1 (.inr (.inr e)) o ho) rfl
      cases ok with
      | false =>
        simp only [Bool.false_eq_true, if_false] at hok ⊢
        obtain ⟨h', tk', nx', rfl, st', pl', ⟨mC', nC'⟩, F₅, N₅, off₅, J₅⟩ := after ys _ hok
        exact ⟨n + 1 - (i + 1), by omega, i + 1, h', tk', mC', ys, nx', rfl, hlt, rfl, st', pl', nC', F₅, N₅, off₅, J₅, by omega⟩
      | true =>
        simp only [if_true] at hok ⊢
        refine wpAny_mono hok (fun y s₄ hy => ?_) fun _ _ e => e
        obtain ⟨h', tk', nx', rfl, st', pl', ⟨mC', nC'⟩, F₅, N₅, off₅, J₅⟩ := after (ys ++ [y]) _ hy
        have hys : (List.toArray ys).size ≤ sizeLine := by rw [List.size_toArray]; omega
        refine wpAny_list_append_plain (hsz := hys) pl' fun h₅ hl₅ hs₅ => ?_
        have kk : ∀ b o, b ∉ [D] → h'.get? b = some o → h₅.get? b = some o := fun b o hb e => hs₅.extBut b o (fun z => hb (z ▸ .head _)) e
        refine ⟨n + 1 - (i + 1), by omega, i + 1, h₅, tk', mC', ys ++ [y], nx', rfl, hlt, rfl, W.frame _ _ _ st' (fun b hb o e => kk b o (fun z => fpD (List.mem_singleton.mp z ▸ hb)) e), by simpa using hl₅, nC'.at' (fun o e => kk C o (fun z => hDC (List.mem_singleton.mp z).symm) e), ?_, ?_, off₅, J₅, by rw [List.length_append, List.length_singleton]; omega⟩
        · exact fr_of F₅ (fun z => absurd (List.mem_singleton.mp z) (Nat.ne_of_lt LD)) (fun b hb => by rw [List.mem_singleton.mp hb]; exact none0 _ (Nat.le_refl _)) kk
        · exact news_of N₅ (fun p hp z => (off₅ p hp).1 (List.mem_singleton.mp z)) kk
    · have hin : i = n := by omega
      subst hin
      refine W.done _ _ _ hst' fun h₂ tk₂ hk₂ => ?_
      show wpAny _ A (assign (.Name y py) env (.ref D)) _ _ _
      have F₂ : Fr h₀ L h₂ m := fr_of F' hLw (fun b hb => (hwr b hb).1) hk₂
      have N₂ : News h₀ L h₂ nx := news_of N' (fun p hp => (hoff p hp).2.2) hk₂
      subst hLe
      have hL₀ : h₀.get? env.locals = none := Heap.get?_none_of_le F₂.above
      have hCL : C ≠ env.locals := Nat.ne_of_gt (by omega)
      have hC₀ : h₀.get? C = none := none0 _ (by omega)
      refine wpAny_assign_Name (wpAny_storeName_local hy F₂.ns (fun h₃ hn₃ hs₃ => ?_) hp)
      have F₃ : Fr h₀ env.locals h₃ (fun z => if z = y then some (.ref D) else m z) := ⟨hn₃, fun b o e => hs₃.extBut b o (fun q => by rw [q, hL₀] at e; cases e) (F₂.keep b o e), F₂.above⟩
      refine ⟨mC, (hn'.at' fun o e => hk₂ _ o hCw e).sameBut hs₃ hCL, fun h₄ hs₄ => ?_⟩
      have up : ∀ b o, b ≠ env.locals → b ≠ C → h₂.get? b = some o → h₄.get? b = some o := fun b o h1 h2 e => hs₄.extBut b o h2 (hs₃.extBut b o h1 e)
      obtain ⟨ep, hacc₃⟩ : h₄.PlainList D (List.toArray ys) := hacc'.at fun o e => up D o (Nat.ne_of_gt LD) hDC (hk₂ D o hDw e)
      refine done ys nx D ep h₄ _ hJ' (F₃.change hs₄ hCL hC₀) (fun p hp => ?_) (fun p hp => (hoff p hp).1) hlen
      rcases List.mem_cons.mp hp with rfl | hp
      · exact ⟨hacc₃, Nat.ne_of_gt LD, none0 _ (Nat.le_refl _)⟩
      · exact ⟨up _ _ (N₂ p hp).2.1 (hoff p hp).2.1 (N₂ p hp).1, (N₂ p hp).2⟩
  exact codeAny_compStart_list (loop _ rfl) (W.self 0 _ _ _ hst₁ (loop _ rfl))
theorem comp_range1A {elt : Expr} {x y : Str} {scope : Scope} {cl : List (Str × Addr)} {Q : Flow → Shared → Prop} {h₀ : Heap} {L : Addr} {m : Str → Option Value} {nx₀ : List (Addr × Obj)} {r : Int} {t0 : Tok}
    (hLe : env.locals = L) (hh : A.handled = none) (F : Fr h₀ L s.heap m) (N : News h₀ L s.heap nx₀) (hr0 : 0 ≤ r) (hr1 : r < 4) (J : Nat → List Value → List (Addr × Obj) → Prop) (hJ : J 0 [] nx₀)
    (turn : ∀ (i : Nat) v ys nx own C h tk E', i < r.toNat → J i ys nx → (∀ p ∈ nx, ∀ q ∈ own, p.1 ≠ q.1) → Fr h₀ L h m → News h₀ L h (nx ++ own) → (∃ mC, h.Ns C mC ∧ mC x = some v) →
      wpAny (model prog w) A (eval elt (compEnvC scope cl C env)) (fun y s₄ => CEnd h₀ L m s (J (i + 1) (ys ++ [y])) own s₄) E' { s with heap := h, toks := tk })
    (done : ∀ ys nx D e h tk, J r.toNat ys nx → Fr h₀ L h (fun z => if z = y then some (.ref D) else m z) → News h₀ L h ((D, listOf ys.toArray e) :: nx) → (∀ p ∈ nx, p.1 ≠ D) → Q .next { s with heap := h, toks := tk }) :
    wpAny (model prog w) A (call (.type "range") [.int r t0]) (fun xv s₁ => wpAny (model prog w) A (pyIter xv) (fun it s₂ => CSrcA prog w A env scope cl x [] elt y Q it s₂) E s₁) E s := by
  have hsz : Builtin.Range.rangeSize 0 r 1 = ((r.toNat : Nat) : Int) := by rw [rangeSize_nat]; simp
  have hsm : Builtin.Range.small 0 r 1 = true := by
    have : r = 0 ∨ r = 1 ∨ r = 2 ∨ r = 3 := by omega
    rcases this with rfl | rfl | rfl | rfl <;> decide
  have hn0 : ∀ (b : Addr) (o : Obj), s.heap.get? b = some o → @LT.lt Nat _ b s.heap.objs.size := fun b o e => Heap.lt_size e
  refine call_range_1 ?_
  have hr : IsRange (s.heap.push { cls := .type "range", data := .fields #[.int 0 s.toks, .int r t0, .int 1 (s.toks + 1)] }) s.heap.objs.size 0 r 1 s.toks t0 (s.toks + 1) := IsRange.new _ _ _ _ _ _ _
  refine wpAny_pyIter_range hr hsm ?_
  rw [hsz]
  generalize hH : s.heap.push { cls := .type "range", data := .fields #[.int 0 s.toks, .int r t0, .int 1 (s.toks + 1)] } = H
  have up : ∀ b o, s.heap.get? b = some o → H.get? b = some o := fun b o e => hH ▸ Heap.get?_push_of_some _ e
  have hI : H.objs.size = s.heap.objs.size + 1 := by rw [← hH, Heap.size_push]
  have F1 : Fr h₀ L H m := hH ▸ F.push _
  have N1 : News h₀ L H nx₀ := fun p hp => ⟨up _ _ (N p hp).1, (N p hp).2⟩
  have LI : L ≠ H.objs.size := by
    obtain ⟨o, es, ep, e, _⟩ := F.ns
    have := hn0 _ _ e
    rw [hI]; exact Nat.ne_of_lt (by omega)
  have W := Walks.range (prog := prog) (w := w) hh H.objs.size 0 1 r.toNat
  refine ⟨h₀, L, m, _, _, _, _, _, _, nx₀, J, hLe, rfl, W, ?_, ?_, ?_, ?_, ?_, F1.push _, fun p hp => ⟨Heap.get?_push_of_some _ (N1 p hp).1, (N1 p hp).2⟩, ?_, hJ, ?_, ?_, ?_⟩
  · rw [sizeLine_eq]; omega
  · have := Heap.get?_push_size H (o := { cls := .type "range_iterator", data := .fields #[rawInt 0, rawInt ((r.toNat : Nat) : Int), rawInt 1] }) rfl
    simpa [IsRangeIter] using this
  · rintro i h hi b hb
    rw [List.mem_singleton.mp hb]; exact ⟨_, hi⟩
  · intro b hb
    rw [List.mem_singleton.mp hb]
    exact ⟨_, Heap.get?_push_size _ rfl⟩
  · intro b hb
    rw [List.mem_singleton.mp hb]
    refine ⟨?_, Ne.symm LI⟩
    cases e : h₀.get? H.objs.size with
    | none => rfl
    | some o => have := hn0 _ _ (F.keep _ _ e); omega
  · intro p hp hb
    have := hn0 _ _ (N p hp).1
    have e := List.mem_singleton.mp hb
    rw [e] at this; omega
  · intro i ys nx j b hb hw o e
    exact absurd hb hw
  · intro i v ys nx own C h tk E' hi hP j off F' N' hC
    refine wpAny_pure ?_
    rw [if_pos rfl]
    exact turn i v ys nx own C h tk E' hi j off F' N' hC
  · intro ys nx D e h tk j F' N' off _
    exact done ys nx D e h tk j F' N' off
end
theorem words8 : True := by
  k_with_none
  trivial
section
variable {h₀ h : Heap} {L : Addr} {a b q1 q2 q3 q4 q5 q6 q7 q8 q9 : Addr × Obj} {r : List (Addr × Obj)}
theorem rot1 (N : News h₀ L h (q1 :: a :: b :: r)) : News h₀ L h (a :: b :: q1 :: r) := fun p hp => N p (by
  simp only [List.mem_cons] at hp ⊢; rcases hp with h | h | h | h <;> simp [h])
theorem drop1 (N : News h₀ L h (a :: b :: q1 :: r)) : News h₀ L h (a :: b :: r) := fun p hp => N p (by
  simp only [List.mem_cons] at hp ⊢; rcases hp with h | h | h <;> simp [h])
theorem rot2 (N : News h₀ L h (q1 :: q2 :: a :: b :: r)) : News h₀ L h (a :: b :: q1 :: q2 :: r) := fun p hp => N p (by
  simp only [List.mem_cons] at hp ⊢; rcases hp with h | h | h | h | h <;> simp [h])
theorem drop2 (N : News h₀ L h (a :: b :: q1 :: q2 :: r)) : News h₀ L h (a :: b :: r) := fun p hp => N p (by
  simp only [List.mem_cons] at hp ⊢; rcases hp with h | h | h <;> simp [h])
theorem rot3 (N : News h₀ L h (q1 :: q2 :: q3 :: a :: b :: r)) : News h₀ L h (a :: b :: q1 :: q2 :: q3 :: r) := fun p hp => N p (by
  simp only [List.mem_cons] at hp ⊢; rcases hp with h | h | h | h | h | h <;> simp [h])
theorem drop3 (N : News h₀ L h (a :: b :: q1 :: q2 :: q3 :: r)) : News h₀ L h (a :: b :: r) := fun p hp => N p (by
  simp only [List.mem_cons] at hp ⊢; rcases hp with h | h | h <;> simp [h])
theorem rot4 (N : News h₀ L h (q1 :: q2 :: q3 :: q4 :: a :: b :: r)) : News h₀ L h (a :: b :: q1 :: q2 :: q3 :: q4 :: r) := fun p hp => N p (by
  simp only [List.mem_cons] at hp ⊢; rcases hp with h | h | h | h | h | h | h <;> simp [h])
theorem drop4 (N : News h₀ L h (a :: b :: q1 :: q2 :: q3 :: q4 :: r)) : News h₀ L h (a :: b :: r) := fun p hp => N p (by
  simp only [List.mem_cons] at hp ⊢; rcases hp with h | h | h <;> simp [h])
theorem rot5 (N : News h₀ L h (q1 :: q2 :: q3 :: q4 :: q5 :: a :: b :: r)) : News h₀ L h (a :: b :: q1 :: q2 :: q3 :: q4 :: q5 :: r) := fun p hp => N p (by
  simp only [List.mem_cons] at hp ⊢; rcases hp with h | h | h | h | h | h | h | h <;> simp [h])
theorem drop5 (N : News h₀ L h (a :: b :: q1 :: q2 :: q3 :: q4 :: q5 :: r)) : News h₀ L h (a :: b :: r) := fun p hp => N p (by
  simp only [List.mem_cons] at hp ⊢; rcases hp with h | h | h <;> simp [h])
theorem rot6 (N : News h₀ L h (q1 :: q2 :: q3 :: q4 :: q5 :: q6 :: a :: b :: r)) : News h₀ L h (a :: b :: q1 :: q2 :: q3 :: q4 :: q5 :: q6 :: r) := fun p hp => N p (by
  simp only [List.mem_cons] at hp ⊢; rcases hp with h | h | h | h | h | h | h | h | h <;> simp [h])
theorem drop6 (N : News h₀ L h (a :: b :: q1 :: q2 :: q3 :: q4 :: q5 :: q6 :: r)) : News h₀ L h (a :: b :: r) := fun p hp => N p (by
  simp only [List.mem_cons] at hp ⊢; rcases hp with h | h | h <;> simp [h])
theorem rot7 (N : News h₀ L h (q1 :: q2 :: q3 :: q4 :: q5 :: q6 :: q7 :: a :: b :: r)) : News h₀ L h (a :: b :: q1 :: q2 :: q3 :: q4 :: q5 :: q6 :: q7 :: r) := fun p hp => N p (by
  simp only [List.mem_cons] at hp ⊢; rcases hp with h | h | h | h | h | h | h | h | h | h <;> simp [h])
theorem drop7 (N : News h₀ L h (a :: b :: q1 :: q2 :: q3 :: q4 :: q5 :: q6 :: q7 :: r)) : News h₀ L h (a :: b :: r) := fun p hp => N p (by
  simp only [List.mem_cons] at hp ⊢; rcases hp with h | h | h <;> simp [h])
theorem rot8 (N : News h₀ L h (q1 :: q2 :: q3 :: q4 :: q5 :: q6 :: q7 :: q8 :: a :: b :: r)) : News h₀ L h (a :: b :: q1 :: q2 :: q3 :: q4 :: q5 :: q6 :: q7 :: q8 :: r) := fun p hp => N p (by
  simp only [List.mem_cons] at hp ⊢; rcases hp with h | h | h | h | h | h | h | h | h | h | h <;> simp [h])
theorem drop8 (N : News h₀ L h (a :: b :: q1 :: q2 :: q3 :: q4 :: q5 :: q6 :: q7 :: q8 :: r)) : News h₀ L h (a :: b :: r) := fun p hp => N p (by
  simp only [List.mem_cons] at hp ⊢; rcases hp with h | h | h <;> simp [h])
theorem rot9 (N : News h₀ L h (q1 :: q2 :: q3 :: q4 :: q5 :: q6 :: q7 :: q8 :: q9 :: a :: b :: r)) : News h₀ L h (a :: b :: q1 :: q2 :: q3 :: q4 :: q5 :: q6 :: q7 :: q8 :: q9 :: r) := fun p hp => N p (by
  simp only [List.mem_cons] at hp ⊢; rcases hp with h | h | h | h | h | h | h | h | h | h | h | h <;> simp [h])
theorem drop9 (N : News h₀ L h (a :: b :: q1 :: q2 :: q3 :: q4 :: q5 :: q6 :: q7 :: q8 :: q9 :: r)) : News h₀ L h (a :: b :: r) := fun p hp => N p (by
  simp only [List.mem_cons] at hp ⊢; rcases hp with h | h | h <;> simp [h])
end
theorem all_cons1 {dx : Addr} {q : Addr × Obj} {r : List (Addr × Obj)} (h : q.1 ≠ dx) (k : ∀ p ∈ r, p.1 ≠ dx) : ∀ p ∈ q :: r, p.1 ≠ dx := fun p hp => by
  rcases List.mem_cons.mp hp with rfl | hp
  · exact h
  · exact k p hp
theorem all_cons2 {dx : Addr} {q q2 : Addr × Obj} {r : List (Addr × Obj)} (h : q.1 ≠ dx) (h2 : q2.1 ≠ dx) (k : ∀ p ∈ r, p.1 ≠ dx) : ∀ p ∈ q :: q2 :: r, p.1 ≠ dx := all_cons1 h (all_cons1 h2 k)
theorem words9 : True := by
  k_with "eval Call" => (k_here; (with_reducible show wpAny _ _ (eval (Expr.Call (Expr.Name _ _) _ _ _) _) _ _ _); k_dflt (refine Call_ ?_))
  k_with "compareOp In str ref" => (k_here; k_dflt (first
    | (refine' in_top ?F ?X ?l ?k ?e ?_; (case F => k_asm); (case X => k_asm); (case l => k_is); (case k => (repeat constructor)); (case e => first | decide | exact plain_any (by assumption) _ (by decide)); k_whole)
    | (refine' in_topT ?F ?X ?l ?k ?e ?_; (case F => k_asm); (case X => k_asm); (case l => k_is); (case k => (repeat constructor)); (case e => decide); k_whole)))
  trivial
theorem is_expr_ne (w : World) (news : List (Addr × Obj)) (t : Addr) (tk1 tk2 tk3 n : Nat) (v2 : Value) (x y : Str) (hy : (y == x) = false) (ht : (t, tupOf [.str (Str.ofString "expr") tk1, .str y tk3, v2] n) ∈ news) :
    Calls w 21 [.ref t, .str x tk2] 1 8 news (fun nx r => nx = news ∧ r = .bool false) := by
  rw [← hy]; exact is_expr_expr w news t tk1 tk2 tk3 n v2 x y ht
theorem words10 : True := by
  k_with "call ref" => (k_here; (with_reducible show wpAny _ _ (call (Value.ref 21) _) _ _ _); k_dflt (first
    | (refine' Calls.use (is_expr_two _ _ _ _ _ _ _ _ _ ?m2 ?m1) ?k1 ?k2 ?k3 ?k4 ?k5 ?kK ?kd ?ku ?_; (case k1 => k_asm); (case k2 => k_asm); (case k3 => k_asm); (case k4 => k_asm); (case m1 => k_mem); (case m2 => decide); (case k5 => k_asm); (case kK => first | exact rfl | assumption); (case kd => ktr_room); (case ku => ktr_units); intro r9 n9 h9 t9 F9 N9 ho9; (obtain ⟨e1, e2⟩ := ho9; subst e1; subst e2); (try k_sweep))
    | (refine' Calls.use (is_expr_ne _ _ _ _ _ _ _ _ _ _ ?m2 ?m1) ?k1 ?k2 ?k3 ?k4 ?k5 ?kK ?kd ?ku ?_; (case k1 => k_asm); (case k2 => k_asm); (case k3 => k_asm); (case k4 => k_asm); (case m1 => k_mem); (case m2 => first | assumption | decide); (case k5 => k_asm); (case kK => first | exact rfl | assumption); (case kd => ktr_room); (case ku => ktr_units); intro r9 n9 h9 t9 F9 N9 ho9; (obtain ⟨e1, e2⟩ := ho9; subst e1; subst e2); (try k_sweep))
    | (refine' Calls.use (is_expr_expr _ _ _ _ _ _ _ _ _ _ ?m1) ?k1 ?k2 ?k3 ?k4 ?k5 ?kK ?kd ?ku ?_; (case k1 => k_asm); (case k2 => k_asm); (case k3 => k_asm); (case k4 => k_asm); (case m1 => k_mem); (case k5 => k_asm); (case kK => first | exact rfl | assumption); (case kd => ktr_room); (case ku => ktr_units); intro r9 n9 h9 t9 F9 N9 ho9; (obtain ⟨e1, e2⟩ := ho9; subst e1; subst e2); (try k_sweep))))
  k_with "call ref" => (k_here; (with_reducible show wpAny _ _ (call (Value.ref 28) _) _ _ _); k_dflt (first
    | (refine' Calls.use (parts_of_expr _ _ _ _ _ _ _ _ ?m1) ?k1 ?k2 ?k3 ?k4 ?k5 ?kK ?kd ?ku ?_; (case k1 => k_asm); (case k2 => k_asm); (case k3 => k_asm); (case k4 => k_asm); (case m1 => k_mem); (case k5 => k_asm); (case kK => first | exact rfl | assumption); (case kd => ktr_room); (case ku => ktr_units); intro r9 n9 h9 t9 F9 N9 ho9; (obtain ⟨e1, e2⟩ := ho9; subst e1; subst e2); (try k_sweep))))
  k_with "call ref" => (k_here; (with_reducible show wpAny _ _ (call (Value.ref 35) _) _ _ _); k_dflt (first
    | (refine' Calls.use (is_sym_ _ _ _ _ _ _ _ ?m1) ?k1 ?k2 ?k3 ?k4 ?k5 ?kK ?kd ?ku ?_; (case k1 => k_asm); (case k2 => k_asm); (case k3 => k_asm); (case k4 => k_asm); (case m1 => k_mem); (case k5 => k_asm); (case kK => first | exact rfl | assumption); (case kd => ktr_room); (case ku => ktr_units); intro r9 n9 h9 t9 F9 N9 ho9; (obtain ⟨e1, e2⟩ := ho9; subst e1; subst e2); (try k_sweep))))
  k_with "call ref" => (k_here; (with_reducible show wpAny _ _ (call (Value.ref 141) _) _ _ _); k_dflt (first
    | (rename AtSpec _ _ => hA9; (refine' Calls.use (hA9 _ _ _ _ _ _ _ _ _ _ _ ?m1 ?m2 ?m3 ?m4 ?m5 ?m6 ?m7) ?k1 ?k2 ?k3 ?k4 ?k5 ?kK ?kd ?ku ?_; (case k1 => k_asm); (case k2 => k_asm); (case k3 => k_asm); (case k4 => (first | k_asm | exact rot1 (by k_asm) | exact rot2 (by k_asm) | exact rot3 (by k_asm) | exact rot4 (by k_asm) | exact rot5 (by k_asm) | exact rot6 (by k_asm) | exact rot7 (by k_asm) | exact rot8 (by k_asm) | exact rot9 (by k_asm))); (case m1 => (first | assumption | exact TreeIn.mono (fun _ h => .tail _ h) _ _ (by assumption) | exact TreeIn.mono (fun _ h => .tail _ (.tail _ h)) _ _ (by assumption) | exact TreeIn.mono (fun _ h => .tail _ (.tail _ (.tail _ h))) _ _ (by assumption) | exact TreeIn.mono (fun _ h => .tail _ (.tail _ (.tail _ (.tail _ h)))) _ _ (by assumption) | exact TreeIn.mono (fun _ h => .tail _ (.tail _ (.tail _ (.tail _ (.tail _ h))))) _ _ (by assumption) | exact TreeIn.mono (fun _ h => .tail _ (.tail _ (.tail _ (.tail _ (.tail _ (.tail _ h)))))) _ _ (by assumption) | exact TreeIn.mono (fun _ h => .tail _ (.tail _ (.tail _ (.tail _ (.tail _ (.tail _ (.tail _ h))))))) _ _ (by assumption) | exact TreeIn.mono (fun _ h => .tail _ (.tail _ (.tail _ (.tail _ (.tail _ (.tail _ (.tail _ (.tail _ h)))))))) _ _ (by assumption) | exact TreeIn.mono (fun _ h => .tail _ (.tail _ (.tail _ (.tail _ (.tail _ (.tail _ (.tail _ (.tail _ (.tail _ h))))))))) _ _ (by assumption))); (case m2 => assumption); (case m3 => assumption); (case m4 => assumption); (case m5 => assumption); (case m6 => (first | assumption | exact all_cons1 (neN (by omega)) (by assumption) | exact all_cons1 (neN (by omega)) (all_cons1 (neN (by omega)) (by assumption)) | exact all_cons1 (neN (by omega)) (all_cons1 (neN (by omega)) (all_cons1 (neN (by omega)) (by assumption))) | exact all_cons1 (neN (by omega)) (all_cons1 (neN (by omega)) (all_cons1 (neN (by omega)) (all_cons1 (neN (by omega)) (by assumption)))) | exact all_cons1 (neN (by omega)) (all_cons1 (neN (by omega)) (all_cons1 (neN (by omega)) (all_cons1 (neN (by omega)) (all_cons1 (neN (by omega)) (by assumption))))) | exact all_cons1 (neN (by omega)) (all_cons1 (neN (by omega)) (all_cons1 (neN (by omega)) (all_cons1 (neN (by omega)) (all_cons1 (neN (by omega)) (all_cons1 (neN (by omega)) (by assumption)))))) | exact all_cons1 (neN (by omega)) (all_cons1 (neN (by omega)) (all_cons1 (neN (by omega)) (all_cons1 (neN (by omega)) (all_cons1 (neN (by omega)) (all_cons1 (neN (by omega)) (all_cons1 (neN (by omega)) (by assumption))))))) | exact all_cons1 (neN (by omega)) (all_cons1 (neN (by omega)) (all_cons1 (neN (by omega)) (all_cons1 (neN (by omega)) (all_cons1 (neN (by omega)) (all_cons1 (neN (by omega)) (all_cons1 (neN (by omega)) (all_cons1 (neN (by omega)) (by assumption)))))))) | exact all_cons1 (neN (by omega)) (all_cons1 (neN (by omega)) (all_cons1 (neN (by omega)) (all_cons1 (neN (by omega)) (all_cons1 (neN (by omega)) (all_cons1 (neN (by omega)) (all_cons1 (neN (by omega)) (all_cons1 (neN (by omega)) (all_cons1 (neN (by omega)) (by assumption))))))))))); (case m7 => decide); (case k5 => k_asm); (case kK => first | exact rfl | assumption); (case kd => ktr_room); (case ku => ktr_units); intro r9 n9 h9 t9 F9 N9 ho9; (obtain ⟨t19, t29, tk9, e1, e2⟩ := ho9; subst e1; subst e2); (try k_sweep)))))
  k_with "compareOp Eq ref ref" => (k_here; k_dflt (first
    | (refine' eq_tups ?N ?u ?m1 ?m2 ?_; (case N => k_asm); (case u => ktr_units); (case m1 => k_mem); (case m2 => k_mem); k_whole)
    | (refine' eq_syms ?N ?u ?m1 ?m2 ?e ?_; (case N => k_asm); (case u => ktr_units); (case m1 => k_mem); (case m2 => k_mem); (case e => first | decide | exact plain_ne (by assumption) _ (by decide)); k_whole)
    | (refine' eq_int_sym ?N ?u ?m1 ?m2 ?_; (case N => k_asm); (case u => ktr_units); (case m1 => k_mem); (case m2 => k_mem); k_whole)))
  k_with "compareOp NotEq ref ref" => (k_here; k_dflt (first
    | (refine' ne_nil0 ?N ?u ?m1 ?m2 ?_; (case N => k_asm); (case u => ktr_units); (case m1 => k_mem); (case m2 => first | exact isTuple_of (by k_asm) (by k_mem)); k_whole)
    | (refine' ne_cons ?N ?u ?m1 ?m2 ?_; (case N => k_asm); (case u => ktr_units); (case m1 => k_mem); (case m2 => first | exact isTuple_of (by k_asm) (by k_mem)); k_whole)))
  trivial
def ItemSpec (w : World) (t : T) : Prop := ∀ (c : PC) (x dx : Addr) (rest : List (Addr × Obj)) (v : Value) (l d : Nat) (t1 t2 : Nat), TreeIn rest t v → WF t → l ≤ 10000 → d ≤ 80 → x ≠ dx → (∀ p ∈ rest, p.1 ≠ dx) →
  Calls w 205 [.ref x, v] (7 * (80 - d) + 9) (40 * (80 - d) + 64) (pst c x dx l d t1 t2 rest) (TextPost c x dx ((txt t (80 - d) l).2 : Nat) d (txt t (80 - d) l).1 rest)
theorem item_sym (w : World) (y : Str) (hA : AtSpec w (.sym y)) : ItemSpec w (.sym y) := by
  intro c x dx rest v l d t1 t2 hT hW hl hd8 hne hall
  have hT' := hT
  rw [TreeIn] at hT'
  obtain ⟨a1, tk1, tk2, n1, e1, hm⟩ := hT'
  subst e1
  have hy : PlainName y := by rw [WF] at hW; exact hW
  unfold Calls; k_fill
  intro mean mg mb dp un gd cn cs a ccd cl outer A₀ base h₀ L m st R B F X N T hk hdp hun hret
  k_dflt ktr_enter
  k_steps
  exact hret _ _ _ _ (by k_asm) (by first | k_asm | exact drop1 (by k_asm) | exact drop2 (by k_asm) | exact drop3 (by k_asm) | exact drop4 (by k_asm) | exact drop5 (by k_asm) | exact drop6 (by k_asm) | exact drop7 (by k_asm) | exact drop8 (by k_asm) | exact drop9 (by k_asm) | exact news_tl (by k_asm) | exact news_tl (news_tl (by k_asm)) | exact news_tl (news_tl (news_tl (by k_asm))) | exact news_tl (news_tl (news_tl (news_tl (by k_asm))))) ⟨_, _, _, rfl, rfl⟩
theorem item_int (w : World) (i : Int) (hA : AtSpec w (.int i)) : ItemSpec w (.int i) := by
  intro c x dx rest v l d t1 t2 hT hW hl hd8 hne hall
  have hT' := hT
  rw [TreeIn] at hT'
  obtain ⟨a1, tk1, tk2, n1, e1, hm⟩ := hT'
  subst e1
  unfold Calls; k_fill
  intro mean mg mb dp un gd cn cs a ccd cl outer A₀ base h₀ L m st R B F X N T hk hdp hun hret
  k_dflt ktr_enter
  k_steps
  exact hret _ _ _ _ (by k_asm) (by first | k_asm | exact drop1 (by k_asm) | exact drop2 (by k_asm) | exact drop3 (by k_asm) | exact drop4 (by k_asm) | exact drop5 (by k_asm) | exact drop6 (by k_asm) | exact drop7 (by k_asm) | exact drop8 (by k_asm) | exact drop9 (by k_asm) | exact news_tl (by k_asm) | exact news_tl (news_tl (by k_asm)) | exact news_tl (news_tl (news_tl (by k_asm))) | exact news_tl (news_tl (news_tl (news_tl (by k_asm))))) ⟨_, _, _, rfl, rfl⟩
theorem item_dot (w : World) (t : T) (hA : AtSpec w (.dot t)) : ItemSpec w (.dot t) := by
  intro c x dx rest v l d t1 t2 hT hW hl hd8 hne hall
  have hT' := hT
  rw [TreeIn] at hT'
  obtain ⟨a1, tk1, tk2, n1, p1, n2, v1, b1, tk3, tk4, n3, e1, hm, hm2, hm3, hT2⟩ := hT'
  subst e1
  unfold Calls; k_fill
  intro mean mg mb dp un gd cn cs a ccd cl outer A₀ base h₀ L m st R B F X N T hk hdp hun hret
  k_dflt ktr_enter
  k_steps
  exact hret _ _ _ _ (by k_asm) (by first | k_asm | exact drop1 (by k_asm) | exact drop2 (by k_asm) | exact drop3 (by k_asm) | exact drop4 (by k_asm) | exact drop5 (by k_asm) | exact drop6 (by k_asm) | exact drop7 (by k_asm) | exact drop8 (by k_asm) | exact drop9 (by k_asm) | exact news_tl (by k_asm) | exact news_tl (news_tl (by k_asm)) | exact news_tl (news_tl (news_tl (by k_asm))) | exact news_tl (news_tl (news_tl (news_tl (by k_asm))))) ⟨_, _, _, rfl, rfl⟩
theorem item_node (w : World) (h : Hd) (ps : List T) (hA : AtSpec w (.node h ps)) : ItemSpec w (.node h ps) := by
  intro c x dx rest v l d t1 t2 hT hW hl hd8 hne hall
  have hT' := hT
  rw [TreeIn] at hT'
  obtain ⟨a1, tk1, tk2, n1, p1, n2, vs1, e1, hm, hm2, hF2⟩ := hT'
  subst e1
  have hy1 : (Str.ofString h.word == Str.ofString "kw") = false := by cases h <;> decide
  have hy2 : (Str.ofString h.word == Str.ofString "...") = false := by cases h <;> decide
  unfold Calls; k_fill
  intro mean mg mb dp un gd cn cs a ccd cl outer A₀ base h₀ L m st R B F X N T hk hdp hun hret
  k_dflt ktr_enter
  k_steps
  exact hret _ _ _ _ (by k_asm) (by first | k_asm | exact drop1 (by k_asm) | exact drop2 (by k_asm) | exact drop3 (by k_asm) | exact drop4 (by k_asm) | exact drop5 (by k_asm) | exact drop6 (by k_asm) | exact drop7 (by k_asm) | exact drop8 (by k_asm) | exact drop9 (by k_asm) | exact news_tl (by k_asm) | exact news_tl (news_tl (by k_asm)) | exact news_tl (news_tl (news_tl (by k_asm))) | exact news_tl (news_tl (news_tl (news_tl (by k_asm))))) ⟨_, _, _, rfl, rfl⟩
theorem item_ (w : World) : ∀ t : T, AtSpec w t → ItemSpec w t
  | .sym y, h => item_sym w y h
  | .int i, h => item_int w i h
  | .dot t, h => item_dot w t h
  | .node h ps, k => item_node w h ps k
theorem words11 : True := by
  k_with_none
  k_with "eval Call" => (k_here; (with_reducible show wpAny _ _ (eval (Expr.Call (Expr.Name _ _) _ _ _) _) _ _ _); k_dflt (refine Call_ ?_))
  k_with "compareOp In str ref" => (k_here; k_dflt (first
    | (refine' in_top ?F ?X ?l ?k ?e ?_; (case F => k_asm); (case X => k_asm); (case l => k_is); (case k => (repeat constructor)); (case e => first | decide | exact plain_any (by assumption) _ (by decide)); k_whole)
    | (refine' in_topT ?F ?X ?l ?k ?e ?_; (case F => k_asm); (case X => k_asm); (case l => k_is); (case k => (repeat constructor)); (case e => decide); k_whole)))
  trivial
section
variable {M : Model} {A : Around} {E : Value → Shared → Prop} {s : Shared} {scope : Scope} {cl : List (Str × Addr)} {C : Addr} {env : Env} {x : Str} {pos : Pos} {v : Value} {Q : Value → Shared → Prop} {h₀ : Heap} {L c : Addr} {news : List (Addr × Obj)} {o : Obj}
theorem comp_local {mC : Str → Option Value} (hn : s.heap.Ns C mC) (hv : mC x = some v) (h : Q v s) (hk : scope.kind = .function) (hl : (compEnvC scope cl C env).kindOf x = some .local) (hd : (x == ("__debug__" : Str)) = false) :
    wpAny M A (eval (.Name x pos) (compEnvC scope cl C env)) Q E s := wpAny_Name (wpAny_loadName_local hk hl hn hv h) hd
theorem comp_cell (N : News h₀ L s.heap news) (hc : cl.lookup x = some c) (hm : (c, o) ∈ news) (hd : o.data = .cell (some v)) (h : Q v s) (hk : scope.kind = .function) (hx : (compEnvC scope cl C env).kindOf x = some .cell) (hb : (x == ("__debug__" : Str)) = false) :
    wpAny M A (eval (.Name x pos) (compEnvC scope cl C env)) Q E s := wpAny_Name (wpAny_loadName_cell hk hx hc ⟨o, N.get hm, hd⟩ h) hb
end
theorem StrsAre.snoc {vs : List Value} {ys : List Str} (h : StrsAre vs ys) (y : Str) (t : Nat) : StrsAre (vs ++ [.str y t]) (ys ++ [y]) := by
  induction h with
  | nil => exact .cons _ _ .nil
  | cons z u _ ih => exact .cons z u ih
theorem unrot1 {h₀ h : Heap} {L : Addr} {a b q1 : Addr × Obj} {r : List (Addr × Obj)} (N : News h₀ L h (a :: b :: q1 :: r)) : News h₀ L h (q1 :: a :: b :: r) := fun p hp => N p (by
  simp only [List.mem_cons] at hp ⊢; rcases hp with h | h | h | h <;> simp [h])
theorem join_mine {prog : Program} {w : World} {A : Around} {E : Value → Shared → Prop} {s : Shared} {x : Str} {t : Tok} {Q : Value → Shared → Prop} {D : Addr} {items : Array Value} {ys : List Str} (hl : s.heap.IsList D items) (hi : StrsAre items.toList ys) (hok : (ys.map (·.length)).sum + ys.length * x.length ≤ 16777216)
    (h : ∀ t' k, Q (.str (Str.join x ys) t') { s with toks := k }) : wpAny (model prog w) A (call (.builtin "str.join") [.str x t, .ref D]) Q E s :=
  join_list hl hi hok fun t' k => by rw [eq_of_beq (join_plain_closes x ys)]; exact h t' k
theorem join_small {ps : List T} {k l : Nat} (hW : WFs ps) (hlen : ps.length ≤ 4) (hl : l ≤ 10000) : ((txts ps k l).1.map (·.length)).sum + (txts ps k l).1.length * (Str.ofString ", ").length ≤ 16777216 := by
  have h1 := txts_sum ps k l hW
  have h2 := txts_length k ps l
  have e2 : (Str.ofString ", ").length = 2 := by decide
  rw [e2]; omega
theorem words12 : True := by
  k_with "eval Name" => (k_here; (with_reducible show wpAny _ _ (eval (Expr.Name _ _) (compEnvC _ _ _ _)) _ _ _); k_dflt (first
    | (refine' comp_local ?n ?v ?_ ?a ?b ?d; (case n => k_asm); (case v => first | assumption | exact rfl); (case a => exact rfl); (case b => exact rfl); (case d => decide); k_whole)
    | (refine' comp_cell ?N ?c ?m ?d ?_ ?a ?b ?e; (case N => k_asm); (case c => exact rfl); (case m => k_mem); (case d => first | assumption | exact rfl); (case a => exact rfl); (case b => exact rfl); (case e => decide); k_whole)
    | (refine' nameG_K ?F ?X ?T ?e ?_ ?g ?k ?x ?d; (case F => k_asm); (case X => k_asm); (case T => k_asm); (case e => k_is); (case g => exact rfl); (case k => exact rfl); (case x => exact rfl); (case d => decide); k_whole)))
  k_with "eval Call Attribute" => (k_here; (with_reducible show wpAny _ _ (eval (Expr.Call (Expr.Attribute _ _ _) _ _ _) _) _ _ _); k_dflt (refine MethodCall_ ?_))
  k_with "eval ListComp" => (k_here; k_dflt ((refine' comp_inv ?c1 ?c2 ?c3 ?c4 ?c5 ?_ ?c6); (case c1 => with_unfolding_all exact rfl); (case c2 => decide); (case c3 => exact rfl); (case c4 => decide); (case c5 => exact rfl); (case c6 => intro _; exact rfl); k_whole))
  k_with "call ref" => (k_here; (with_reducible show wpAny _ _ (call (Value.ref 205) _) _ _ _); k_dflt (first
    | (rename ItemSpec _ _ => hI9; (refine' Calls.use (hI9 _ _ _ _ _ _ _ _ _ ?m1 ?m2 ?m3 ?m4 ?m5 ?m6) ?k1 ?k2 ?k3 ?k4 ?k5 ?kK ?kd ?ku ?_; (case k1 => k_asm); (case k2 => k_asm); (case k3 => k_asm); (case k4 => (first | k_asm | exact rot1 (by k_asm) | exact rot2 (by k_asm) | exact rot3 (by k_asm) | exact rot4 (by k_asm) | exact rot5 (by k_asm) | exact rot6 (by k_asm) | exact rot7 (by k_asm) | exact rot8 (by k_asm) | exact rot9 (by k_asm))); (case m1 => (first | assumption | exact TreeIn.mono (fun _ h => .tail _ h) _ _ (by assumption) | exact TreeIn.mono (fun _ h => .tail _ (.tail _ h)) _ _ (by assumption) | exact TreeIn.mono (fun _ h => .tail _ (.tail _ (.tail _ h))) _ _ (by assumption) | exact TreeIn.mono (fun _ h => .tail _ (.tail _ (.tail _ (.tail _ h)))) _ _ (by assumption) | exact TreeIn.mono (fun _ h => .tail _ (.tail _ (.tail _ (.tail _ (.tail _ h))))) _ _ (by assumption) | exact TreeIn.mono (fun _ h => .tail _ (.tail _ (.tail _ (.tail _ (.tail _ (.tail _ h)))))) _ _ (by assumption) | exact TreeIn.mono (fun _ h => .tail _ (.tail _ (.tail _ (.tail _ (.tail _ (.tail _ (.tail _ h))))))) _ _ (by assumption) | exact TreeIn.mono (fun _ h => .tail _ (.tail _ (.tail _ (.tail _ (.tail _ (.tail _ (.tail _ (.tail _ h)))))))) _ _ (by assumption) | exact TreeIn.mono (fun _ h => .tail _ (.tail _ (.tail _ (.tail _ (.tail _ (.tail _ (.tail _ (.tail _ (.tail _ h))))))))) _ _ (by assumption))); (case m2 => assumption); (case m3 => assumption); (case m4 => assumption); (case m5 => assumption); (case m6 => (first | assumption | exact all_cons1 (neN (by omega)) (by assumption) | exact all_cons1 (neN (by omega)) (all_cons1 (neN (by omega)) (by assumption)) | exact all_cons1 (neN (by omega)) (all_cons1 (neN (by omega)) (all_cons1 (neN (by omega)) (by assumption))) | exact all_cons1 (neN (by omega)) (all_cons1 (neN (by omega)) (all_cons1 (neN (by omega)) (all_cons1 (neN (by omega)) (by assumption)))) | exact all_cons1 (neN (by omega)) (all_cons1 (neN (by omega)) (all_cons1 (neN (by omega)) (all_cons1 (neN (by omega)) (all_cons1 (neN (by omega)) (by assumption))))) | exact all_cons1 (neN (by omega)) (all_cons1 (neN (by omega)) (all_cons1 (neN (by omega)) (all_cons1 (neN (by omega)) (all_cons1 (neN (by omega)) (all_cons1 (neN (by omega)) (by assumption)))))) | exact all_cons1 (neN (by omega)) (all_cons1 (neN (by omega)) (all_cons1 (neN (by omega)) (all_cons1 (neN (by omega)) (all_cons1 (neN (by omega)) (all_cons1 (neN (by omega)) (all_cons1 (neN (by omega)) (by assumption))))))) | exact all_cons1 (neN (by omega)) (all_cons1 (neN (by omega)) (all_cons1 (neN (by omega)) (all_cons1 (neN (by omega)) (all_cons1 (neN (by omega)) (all_cons1 (neN (by omega)) (all_cons1 (neN (by omega)) (all_cons1 (neN (by omega)) (by assumption)))))))) | exact all_cons1 (neN (by omega)) (all_cons1 (neN (by omega)) (all_cons1 (neN (by omega)) (all_cons1 (neN (by omega)) (all_cons1 (neN (by omega)) (all_cons1 (neN (by omega)) (all_cons1 (neN (by omega)) (all_cons1 (neN (by omega)) (all_cons1 (neN (by omega)) (by assumption))))))))))); (case k5 => k_asm); (case kK => first | exact rfl | assumption); (case kd => ktr_room); (case ku => ktr_units); intro r9 n9 h9 t9 F9 N9 ho9; (obtain ⟨t19, t29, tk9, e1, e2⟩ := ho9; subst e1; subst e2); (try k_sweep)))))
  k_with "call builtin:str.join" => (k_here; (with_reducible show wpAny _ _ (call (Value.builtin "str.join") [Value.str _ _, Value.ref _]) _ _ _); (with_reducible rename StrsAre _ _ => hS9); k_dflt (refine' join_mine (News.isList ?N ?m) ?i ?k ?_; (case N => k_asm); (case m => k_mem); (case i => simpa using hS9); (case k => assumption)); intro t9 k9)
  trivial
def ListedSpec (w : World) (ps : List T) : Prop := ∀ (c : PC) (x dx : Addr) (rest : List (Addr × Obj)) (p : Addr) (n : Nat) (vs : List Value) (l d : Nat) (t1 t2 : Nat), (p, tupOf vs n) ∈ rest → ForestIn rest ps vs → WFs ps → ps.length ≤ 4 → l ≤ 10000 → d ≤ 80 → x ≠ dx → (∀ p ∈ rest, p.1 ≠ dx) →
  Calls w 198 [.ref x, .ref p] (7 * (80 - d) + 10) (40 * (80 - d) + 68) (pst c x dx l d t1 t2 rest) (TextPost c x dx ((txts ps (80 - d) l).2 : Nat) d (commas (txts ps (80 - d) l).1) rest)
theorem listed_ (w : World) (ps : List T) (hA : ∀ t ∈ ps, AtSpec w t) : ListedSpec w ps := by
  intro c x dx rest p n vs l d t1 t2 hp hF hW hlen hl hd8 hne hall
  unfold Calls; k_fill
  intro mean mg mb dp un gd cn cs a ccd cl outer A₀ base h₀ L m st R B F X N T hk hdp hun hret
  k_dflt (refine' code_defC ?k1 ?k2 ?k3 ?k4 ?k5 ?kA ?kF ?kK ?k6 ?k7 ?k8 ?k9 ?kB ?kD ?_ ?c2 ?c3 ?c4; (case kA => exact rfl); (case kF => exact rfl); (case kK => assumption); (case k1 => k_asm); (case k2 => k_asm); (case k3 => k_asm); (case k4 => k_asm); (case k5 => k_asm); (case k6 => k_is); (case k7 => k_is); (case k8 => ktr_room); (case k9 => exact BindsTo.of_eq rfl); (case kB => exact rfl); (case kD => decide +kernel); (case c2 => exact rfl); (case c3 => exact rfl); (case c4 => exact rfl); k_whole; intro g' L' h' tk' cells' FG' F' N' Y' B' X' T' l1; (try k_lt l1); (have hY := CellsAre.one Y'); (obtain ⟨oc, hE, dc⟩ := hY); subst hE; (try simp only [List.cons_append, List.nil_append] at N'); (try dsimp only); (try k_fold))
  k_steps
  dsimp only
  refine comp_tup rfl F' N' (.tail _ (.tail _ (.tail _ hp))) (by rw [ForestIn.length hF]; omega) (fun i ys nx => ∃ u1 u2, nx = (L' + 1, oc) :: pst c x dx ((txts (ps.take i) (80 - d) l).2 : Nat) d u1 u2 rest ∧ StrsAre ys (txts (ps.take i) (80 - d) l).1) ⟨t1, t2, rfl, .nil⟩ ?_ ?_ ?_
  · rintro i ys nx ⟨_, _, rfl, _⟩; exact .tail _ (.tail _ (.tail _ hp))
  · rintro i v ys nx own C h tk E' hi ⟨u1, u2, rfl, hys⟩ off F2 N2 ⟨mC, hnC, hmC⟩
    obtain ⟨t, hti, hTi⟩ := ForestIn.get hF hi
    have hWt := WFs.get hW hti
    have hI := item_ w t (hA t (List.mem_of_getElem? hti))
    have hT3 : TreeIn ((L' + 1, oc) :: (rest ++ own)) t v := TreeIn.mono (fun p hp => .tail _ (List.mem_append.mpr (.inl hp))) _ _ hTi
    have hl3 : (txts (ps.take i) (80 - d) l).2 ≤ 10000 := Nat.le_trans (txts_le _ _ _) hl
    have hall3 : ∀ p ∈ (L' + 1, oc) :: (rest ++ own), p.1 ≠ dx := by
      intro p hp
      rcases List.mem_cons.mp hp with rfl | hp
      · exact neN (by omega)
      · rcases List.mem_append.mp hp with hp | hp
        · exact hall p hp
        · exact Ne.symm (off _ (.tail _ (.tail _ (.head _))) p hp)
    have N3 : News g' L' h (pst c x dx ((txts (ps.take i) (80 - d) l).2 : Nat) d u1 u2 ((L' + 1, oc) :: (rest ++ own))) := rot1 N2
    have hsn : txts (ps.take (i + 1)) (80 - d) l = ((txts (ps.take i) (80 - d) l).1 ++ [(txt t (80 - d) (txts (ps.take i) (80 - d) l).2).1], (txt t (80 - d) (txts (ps.take i) (80 - d) l).2).2) := by
      rw [List.take_add_one, hti]; exact txts_snoc _ _ _ _
    k_steps
    refine ⟨_, _, (L' + 1, oc) :: pst c x dx ((txt t (80 - d) (txts (ps.take i) (80 - d) l).2).2 : Nat) d _ _ rest, rfl, by k_asm, unrot1 (by k_asm), ?_, ⟨_, _, by rw [hsn], by rw [hsn]; exact StrsAre.snoc hys _ _⟩⟩
    intro p hp q hq
    simp only [List.mem_cons] at hp
    rcases hp with rfl | rfl | rfl | hp
    · exact off _ (.head _) q hq
    · exact off _ (.tail _ (.head _)) q hq
    · exact off _ (.tail _ (.tail _ (.head _))) q hq
    · exact off _ (.tail _ (.tail _ (.tail _ hp))) q hq
  · rintro ys nx D e h tk ⟨u1, u2, rfl, hys⟩ F2 N2 off
    rw [ForestIn.length hF, List.take_of_length_le (Nat.le_refl _)] at N2 hys
    have hjs := join_small (k := 80 - d) hW hlen hl
    k_steps
    exact hret _ _ _ _ (by k_asm) (news_tl (news_tl (by k_asm))) ⟨_, _, _, rfl, rfl⟩
theorem words13 : True := by
  k_with_none
  trivial
theorem is_expr_tree (w : World) (news : List (Addr × Obj)) (t : T) (v : Value) (x : Str) (tk : Nat) (hT : TreeIn news t v) (hx : [Str.ofString ".", Str.ofString "call", Str.ofString "tuple", Str.ofString "vect", Str.ofString "ref"].all (fun y => !(y == x)) = true) :
    Calls w 21 [v, .str x tk] 1 8 news (fun nx r => nx = news ∧ r = .bool false) := by
  cases t with
  | sym s => rw [TreeIn] at hT; obtain ⟨a, tk1, tk2, n, rfl, hm⟩ := hT; exact is_expr_two w news a x _ _ tk1 tk n (by decide) hm
  | int i => rw [TreeIn] at hT; obtain ⟨a, tk1, tk2, n, rfl, hm⟩ := hT; exact is_expr_two w news a x _ _ tk1 tk n (by decide) hm
  | dot t =>
    rw [TreeIn] at hT; obtain ⟨a, tk1, tk2, n, p, n2, v1, b, tk3, tk4, n3, rfl, hm, _⟩ := hT
    exact is_expr_ne w news a tk1 tk tk2 n _ x _ (by simp_all) hm
  | node h ps =>
    rw [TreeIn] at hT; obtain ⟨a, tk1, tk2, n, p, n2, vs, rfl, hm, _⟩ := hT
    exact is_expr_ne w news a tk1 tk tk2 n _ x _ (by cases h <;> simp_all [Hd.word]) hm
theorem d3 {h₀ h : Heap} {L : Addr} {a b c d : Addr × Obj} {r : List (Addr × Obj)} (N : News h₀ L h (a :: b :: c :: d :: r)) : News h₀ L h (a :: b :: d :: r) := fun p hp => N p (by
  simp only [List.mem_cons] at hp ⊢; rcases hp with h | h | h | h <;> simp [h])
theorem words14 : True := by
  k_with "eval Call" => (k_here; (with_reducible show wpAny _ _ (eval (Expr.Call (Expr.Name _ _) _ _ _) _) _ _ _); k_dflt (refine Call_ ?_))
  k_with "compareOp In str ref" => (k_here; k_dflt (first
    | (refine' in_top ?F ?X ?l ?k ?e ?_; (case F => k_asm); (case X => k_asm); (case l => k_is); (case k => (repeat constructor)); (case e => first | decide | exact plain_any (by assumption) _ (by decide)); k_whole)
    | (refine' in_topT ?F ?X ?l ?k ?e ?_; (case F => k_asm); (case X => k_asm); (case l => k_is); (case k => (repeat constructor)); (case e => decide); k_whole)))
  k_with "call ref" => (k_here; (with_reducible show wpAny _ _ (call (Value.ref 21) _) _ _ _); k_dflt (first
    | (refine' Calls.use (is_expr_two _ _ _ _ _ _ _ _ _ ?m2 ?m1) ?k1 ?k2 ?k3 ?k4 ?k5 ?kK ?kd ?ku ?_; (case k1 => k_asm); (case k2 => k_asm); (case k3 => k_asm); (case k4 => k_asm); (case m1 => k_mem); (case m2 => decide); (case k5 => k_asm); (case kK => first | exact rfl | assumption); (case kd => ktr_room); (case ku => ktr_units); intro r9 n9 h9 t9 F9 N9 ho9; (obtain ⟨e1, e2⟩ := ho9; subst e1; subst e2); (try k_sweep))
    | (refine' Calls.use (is_expr_ne _ _ _ _ _ _ _ _ _ _ ?m2 ?m1) ?k1 ?k2 ?k3 ?k4 ?k5 ?kK ?kd ?ku ?_; (case k1 => k_asm); (case k2 => k_asm); (case k3 => k_asm); (case k4 => k_asm); (case m1 => k_mem); (case m2 => first | assumption | decide); (case k5 => k_asm); (case kK => first | exact rfl | assumption); (case kd => ktr_room); (case ku => ktr_units); intro r9 n9 h9 t9 F9 N9 ho9; (obtain ⟨e1, e2⟩ := ho9; subst e1; subst e2); (try k_sweep))
    | (refine' Calls.use (is_expr_expr _ _ _ _ _ _ _ _ _ _ ?m1) ?k1 ?k2 ?k3 ?k4 ?k5 ?kK ?kd ?ku ?_; (case k1 => k_asm); (case k2 => k_asm); (case k3 => k_asm); (case k4 => k_asm); (case m1 => k_mem); (case k5 => k_asm); (case kK => first | exact rfl | assumption); (case kd => ktr_room); (case ku => ktr_units); intro r9 n9 h9 t9 F9 N9 ho9; (obtain ⟨e1, e2⟩ := ho9; subst e1; subst e2); (try k_sweep))))
  k_with "call ref" => (k_here; (with_reducible show wpAny _ _ (call (Value.ref 28) _) _ _ _); k_dflt (first
    | (refine' Calls.use (parts_of_expr _ _ _ _ _ _ _ _ ?m1) ?k1 ?k2 ?k3 ?k4 ?k5 ?kK ?kd ?ku ?_; (case k1 => k_asm); (case k2 => k_asm); (case k3 => k_asm); (case k4 => k_asm); (case m1 => k_mem); (case k5 => k_asm); (case kK => first | exact rfl | assumption); (case kd => ktr_room); (case ku => ktr_units); intro r9 n9 h9 t9 F9 N9 ho9; (obtain ⟨e1, e2⟩ := ho9; subst e1; subst e2); (try k_sweep))))
  k_with "call ref" => (k_here; (with_reducible show wpAny _ _ (call (Value.ref 35) _) _ _ _); k_dflt (first
    | (refine' Calls.use (is_sym_ _ _ _ _ _ _ _ ?m1) ?k1 ?k2 ?k3 ?k4 ?k5 ?kK ?kd ?ku ?_; (case k1 => k_asm); (case k2 => k_asm); (case k3 => k_asm); (case k4 => k_asm); (case m1 => k_mem); (case k5 => k_asm); (case kK => first | exact rfl | assumption); (case kd => ktr_room); (case ku => ktr_units); intro r9 n9 h9 t9 F9 N9 ho9; (obtain ⟨e1, e2⟩ := ho9; subst e1; subst e2); (try k_sweep))))
  k_with "call ref" => (k_here; (with_reducible show wpAny _ _ (call (Value.ref 21) _) _ _ _); k_dflt (first
    | (refine' Calls.use (is_expr_two _ _ _ _ _ _ _ _ _ ?m2 ?m1) ?k1 ?k2 ?k3 ?k4 ?k5 ?kK ?kd ?ku ?_; (case k1 => k_asm); (case k2 => k_asm); (case k3 => k_asm); (case k4 => k_asm); (case m1 => k_mem); (case m2 => decide); (case k5 => k_asm); (case kK => first | exact rfl | assumption); (case kd => ktr_room); (case ku => ktr_units); intro r9 n9 h9 t9 F9 N9 ho9; (obtain ⟨e1, e2⟩ := ho9; subst e1; subst e2); (try k_sweep))
    | (refine' Calls.use (is_expr_ne _ _ _ _ _ _ _ _ _ _ ?m2 ?m1) ?k1 ?k2 ?k3 ?k4 ?k5 ?kK ?kd ?ku ?_; (case k1 => k_asm); (case k2 => k_asm); (case k3 => k_asm); (case k4 => k_asm); (case m1 => k_mem); (case m2 => first | assumption | decide); (case k5 => k_asm); (case kK => first | exact rfl | assumption); (case kd => ktr_room); (case ku => ktr_units); intro r9 n9 h9 t9 F9 N9 ho9; (obtain ⟨e1, e2⟩ := ho9; subst e1; subst e2); (try k_sweep))
    | (refine' Calls.use (is_expr_expr _ _ _ _ _ _ _ _ _ _ ?m1) ?k1 ?k2 ?k3 ?k4 ?k5 ?kK ?kd ?ku ?_; (case k1 => k_asm); (case k2 => k_asm); (case k3 => k_asm); (case k4 => k_asm); (case m1 => k_mem); (case k5 => k_asm); (case kK => first | exact rfl | assumption); (case kd => ktr_room); (case ku => ktr_units); intro r9 n9 h9 t9 F9 N9 ho9; (obtain ⟨e1, e2⟩ := ho9; subst e1; subst e2); (try k_sweep))
    | (refine' Calls.use (is_expr_tree _ _ ?mt _ _ _ ?m1 ?m2) ?k1 ?k2 ?k3 ?k4 ?k5 ?kK ?kd ?ku ?_; (case k1 => k_asm); (case k2 => k_asm); (case k3 => k_asm); (case k4 => k_asm); (case m1 => (first | assumption | exact TreeIn.mono (fun _ h => .tail _ (.tail _ h)) _ _ (by assumption) | exact TreeIn.mono (fun _ h => .tail _ (.tail _ (.tail _ h))) _ _ (by assumption) | exact TreeIn.mono (fun _ h => .tail _ (.tail _ (.tail _ (.tail _ h)))) _ _ (by assumption) | exact TreeIn.mono (fun _ h => .tail _ (.tail _ (.tail _ (.tail _ (.tail _ h))))) _ _ (by assumption))); (case m2 => decide); (case k5 => k_asm); (case kK => first | exact rfl | assumption); (case kd => ktr_room); (case ku => ktr_units); intro r9 n9 h9 t9 F9 N9 ho9; (obtain ⟨e1, e2⟩ := ho9; subst e1; subst e2); (try k_sweep))))
  k_with "call ref" => (k_here; (with_reducible show wpAny _ _ (call (Value.ref 141) _) _ _ _); k_dflt (first
    | (rename AtSpec _ _ => hA9; (refine' Calls.use (hA9 _ _ _ _ _ _ _ _ _ _ _ ?m1 ?m2 ?m3 ?m4 ?m5 ?m6 ?m7) ?k1 ?k2 ?k3 ?k4 ?k5 ?kK ?kd ?ku ?_; (case k1 => k_asm); (case k2 => k_asm); (case k3 => k_asm); (case k4 => (first | k_asm | exact rot1 (by k_asm) | exact rot2 (by k_asm) | exact rot3 (by k_asm) | exact rot4 (by k_asm) | exact rot5 (by k_asm) | exact rot6 (by k_asm) | exact rot7 (by k_asm) | exact rot8 (by k_asm) | exact rot9 (by k_asm))); (case m1 => (first | assumption | exact TreeIn.mono (fun _ h => .tail _ h) _ _ (by assumption) | exact TreeIn.mono (fun _ h => .tail _ (.tail _ h)) _ _ (by assumption) | exact TreeIn.mono (fun _ h => .tail _ (.tail _ (.tail _ h))) _ _ (by assumption) | exact TreeIn.mono (fun _ h => .tail _ (.tail _ (.tail _ (.tail _ h)))) _ _ (by assumption) | exact TreeIn.mono (fun _ h => .tail _ (.tail _ (.tail _ (.tail _ (.tail _ h))))) _ _ (by assumption) | exact TreeIn.mono (fun _ h => .tail _ (.tail _ (.tail _ (.tail _ (.tail _ (.tail _ h)))))) _ _ (by assumption) | exact TreeIn.mono (fun _ h => .tail _ (.tail _ (.tail _ (.tail _ (.tail _ (.tail _ (.tail _ h))))))) _ _ (by assumption) | exact TreeIn.mono (fun _ h => .tail _ (.tail _ (.tail _ (.tail _ (.tail _ (.tail _ (.tail _ (.tail _ h)))))))) _ _ (by assumption) | exact TreeIn.mono (fun _ h => .tail _ (.tail _ (.tail _ (.tail _ (.tail _ (.tail _ (.tail _ (.tail _ (.tail _ h))))))))) _ _ (by assumption))); (case m2 => assumption); (case m3 => assumption); (case m4 => assumption); (case m5 => assumption); (case m6 => (first | assumption | exact all_cons1 (neN (by omega)) (by assumption) | exact all_cons1 (neN (by omega)) (all_cons1 (neN (by omega)) (by assumption)) | exact all_cons1 (neN (by omega)) (all_cons1 (neN (by omega)) (all_cons1 (neN (by omega)) (by assumption))) | exact all_cons1 (neN (by omega)) (all_cons1 (neN (by omega)) (all_cons1 (neN (by omega)) (all_cons1 (neN (by omega)) (by assumption)))) | exact all_cons1 (neN (by omega)) (all_cons1 (neN (by omega)) (all_cons1 (neN (by omega)) (all_cons1 (neN (by omega)) (all_cons1 (neN (by omega)) (by assumption))))) | exact all_cons1 (neN (by omega)) (all_cons1 (neN (by omega)) (all_cons1 (neN (by omega)) (all_cons1 (neN (by omega)) (all_cons1 (neN (by omega)) (all_cons1 (neN (by omega)) (by assumption)))))) | exact all_cons1 (neN (by omega)) (all_cons1 (neN (by omega)) (all_cons1 (neN (by omega)) (all_cons1 (neN (by omega)) (all_cons1 (neN (by omega)) (all_cons1 (neN (by omega)) (all_cons1 (neN (by omega)) (by assumption))))))) | exact all_cons1 (neN (by omega)) (all_cons1 (neN (by omega)) (all_cons1 (neN (by omega)) (all_cons1 (neN (by omega)) (all_cons1 (neN (by omega)) (all_cons1 (neN (by omega)) (all_cons1 (neN (by omega)) (all_cons1 (neN (by omega)) (by assumption)))))))) | exact all_cons1 (neN (by omega)) (all_cons1 (neN (by omega)) (all_cons1 (neN (by omega)) (all_cons1 (neN (by omega)) (all_cons1 (neN (by omega)) (all_cons1 (neN (by omega)) (all_cons1 (neN (by omega)) (all_cons1 (neN (by omega)) (all_cons1 (neN (by omega)) (by assumption))))))))))); (case m7 => decide); (case k5 => k_asm); (case kK => first | exact rfl | assumption); (case kd => ktr_room); (case ku => ktr_units); intro r9 n9 h9 t9 F9 N9 ho9; (obtain ⟨t19, t29, tk9, e1, e2⟩ := ho9; subst e1; subst e2); (try k_sweep)))))
  k_with "compareOp Eq ref ref" => (k_here; k_dflt (first
    | (refine' eq_tups ?N ?u ?m1 ?m2 ?_; (case N => k_asm); (case u => ktr_units); (case m1 => k_mem); (case m2 => k_mem); k_whole)
    | (refine' eq_syms ?N ?u ?m1 ?m2 ?e ?_; (case N => k_asm); (case u => ktr_units); (case m1 => k_mem); (case m2 => k_mem); (case e => first | decide | exact plain_ne (by assumption) _ (by decide)); k_whole)
    | (refine' eq_int_sym ?N ?u ?m1 ?m2 ?_; (case N => k_asm); (case u => ktr_units); (case m1 => k_mem); (case m2 => k_mem); k_whole)))
  k_with "compareOp NotEq ref ref" => (k_here; k_dflt (first
    | (refine' ne_nil0 ?N ?u ?m1 ?m2 ?_; (case N => k_asm); (case u => ktr_units); (case m1 => k_mem); (case m2 => first | exact isTuple_of (by k_asm) (by k_mem)); k_whole)
    | (refine' ne_cons ?N ?u ?m1 ?m2 ?_; (case N => k_asm); (case u => ktr_units); (case m1 => k_mem); (case m2 => first | exact isTuple_of (by k_asm) (by k_mem)); k_whole)))
  k_with "subscriptTail" => (k_here; (with_reducible show wpAny _ _ (subscriptTail _ _ (Value.ref _) (Value.ref _)) _ _ _); (with_unfolding_all refine' slice1 ?F ?N ?m1 ?z ?_ ?hs ?hg; (case F => k_asm); (case N => k_asm); (case m1 => k_mem); (case z => (first | decide | omega | (simp only [List.length_cons, List.length_nil]; omega))); (case hs => exact rfl); (case hg => intro _; exact rfl); k_whole); intro q9 h9 F9 N9 l9; (try k_lt l9); (try k_sweep))
  k_with "subscriptTail" => (k_here; (with_reducible show wpAny _ _ (subscriptTail _ _ (Value.ref _) (Value.int 0 _)) _ _ _); (with_unfolding_all refine' item_first ?N ?m ?_ ?hs; (case N => k_asm); (case m => k_mem); (case hs => exact rfl); k_whole))
  k_with "subscriptTail" => (k_here; (with_reducible show wpAny _ _ (subscriptTail _ _ (Value.ref _) (Value.int 1 _)) _ _ _); (with_unfolding_all refine' item_second ?N ?m ?_ ?hs; (case N => k_asm); (case m => k_mem); (case hs => exact rfl); k_whole))
  k_with "call builtin:len" => (k_here; (with_reducible show wpAny _ _ (call (Value.builtin "len") [Value.ref _]) _ _ _); k_dflt (refine' len_tup ?N ?m ?z ?e ?_; (case N => k_asm); (case m => k_mem); (case z => (first | decide | omega | (simp only [List.length_cons, List.length_nil]; omega))); (case e => first | (simp only [List.length_cons, List.length_nil, Nat.zero_add, Nat.reduceAdd]; exact rfl) | exact rfl); k_whole))
  k_with "eval Name" => (k_here; (with_reducible show wpAny _ _ (eval (Expr.Name _ _) (compEnvC _ _ _ _)) _ _ _); k_dflt (first
    | (refine' comp_local ?n ?v ?_ ?a ?b ?d; (case n => k_asm); (case v => first | assumption | exact rfl); (case a => exact rfl); (case b => exact rfl); (case d => decide); k_whole)
    | (refine' comp_cell ?N ?c ?m ?d ?_ ?a ?b ?e; (case N => k_asm); (case c => exact rfl); (case m => k_mem); (case d => first | assumption | exact rfl); (case a => exact rfl); (case b => exact rfl); (case e => decide); k_whole)
    | (refine' nameG_K ?F ?X ?T ?e ?_ ?g ?k ?x ?d; (case F => k_asm); (case X => k_asm); (case T => k_asm); (case e => k_is); (case g => exact rfl); (case k => exact rfl); (case x => exact rfl); (case d => decide); k_whole)))
  k_with "eval Call Attribute" => (k_here; (with_reducible show wpAny _ _ (eval (Expr.Call (Expr.Attribute _ _ _) _ _ _) _) _ _ _); k_dflt (refine MethodCall_ ?_))
  k_with "eval ListComp" => (k_here; k_dflt ((refine' comp_inv ?c1 ?c2 ?c3 ?c4 ?c5 ?_ ?c6); (case c1 => with_unfolding_all exact rfl); (case c2 => decide); (case c3 => exact rfl); (case c4 => decide); (case c5 => exact rfl); (case c6 => intro _; exact rfl); k_whole))
  k_with "call builtin:str.join" => (k_here; (with_reducible show wpAny _ _ (call (Value.builtin "str.join") [Value.str _ _, Value.ref _]) _ _ _); (with_reducible rename StrsAre _ _ => hS9); k_dflt (refine' join_mine (News.isList ?N ?m) ?i ?k ?_; (case N => k_asm); (case m => k_mem); (case i => simpa using hS9); (case k => assumption)); intro t9 k9)
  trivial
theorem is_between_ (w : World) (news : List (Addr × Obj)) (x dx : Addr) (tk : Nat) (hm : (x, prt dx) ∈ news) (c : PC) (l d : Int) (t1 t2 : Nat) (hm2 : (dx, pd c l d t1 t2) ∈ news) :
  Calls w 165 [.ref x, .str (Str.ofString "f") tk, .bool false] 1 8 news (fun nx r => nx = news ∧ r = .bool false) := by
  unfold Calls; k_fill
  intro mean mg mb dp un gd cn cs a ccd cl outer A₀ base h₀ L m st R B F X N T hk hdp hun hret
  k_dflt ktr_enter
  k_steps
  exact hret _ _ _ _ (by k_asm) (by k_asm) ⟨rfl, rfl⟩
theorem keywords_nil (w : World) (news : List (Addr × Obj)) (a1 p1 : Addr) (tk1 tk2 n1 n2 : Nat) (hm : (a1, tupOf [.str (Str.ofString "expr") tk1, .str (Str.ofString "call") tk2, .ref p1] n1) ∈ news) (vc : Value) (hp : (p1, tupOf [vc] n2) ∈ news) :
  Calls w 42 [.ref a1] 2 20 news (fun nx r => ∃ q qe qa, nx = (q, tupOf [.ref qe, .ref qa] 0) :: (qe, tupOf [] 0) :: (qa, tupOf [] 0) :: news ∧ r = .ref q ∧ (∀ p ∈ news, @Ne Nat p.1 q ∧ @Ne Nat p.1 qe ∧ @Ne Nat p.1 qa)) := by
  unfold Calls; k_fill
  intro mean mg mb dp un gd cn cs a ccd cl outer A₀ base h₀ L m st R B F X N T hk hdp hun hret
  k_dflt ktr_enter
  k_steps
  refine hret _ _ _ _ (by k_asm) (d3 (by k_asm)) ⟨_, _, _, rfl, rfl, fun p hp => ?_⟩
  have z := (by assumption : ∀ p ∈ news, @LT.lt Nat _ p.1 _) p hp
  exact ⟨neN (by omega), neN (by omega), neN (by omega)⟩
theorem keywords_cons (w : World) (news : List (Addr × Obj)) (a1 p1 : Addr) (tk1 tk2 n1 n2 : Nat) (hm : (a1, tupOf [.str (Str.ofString "expr") tk1, .str (Str.ofString "call") tk2, .ref p1] n1) ∈ news) (vc v1 : Value) (vs : List Value) (hz : vs.length ≤ 10) (t : T) (hT : TreeIn news t v1) (hp : (p1, tupOf (vc :: v1 :: vs) n2) ∈ news) :
  Calls w 42 [.ref a1] 2 20 news (fun nx r => ∃ q qe qa, nx = (q, tupOf [.ref qe, .ref qa] 0) :: (qe, tupOf [] 0) :: (qa, tupOf (v1 :: vs) 0) :: news ∧ r = .ref q ∧ (∀ p ∈ news, @Ne Nat p.1 q ∧ @Ne Nat p.1 qe ∧ @Ne Nat p.1 qa)) := by
  unfold Calls; k_fill
  intro mean mg mb dp un gd cn cs a ccd cl outer A₀ base h₀ L m st R B F X N T hk hdp hun hret
  k_dflt ktr_enter
  k_steps
  refine hret _ _ _ _ (by k_asm) (d3 (by k_asm)) ⟨_, _, _, rfl, rfl, fun p hp => ?_⟩
  have z := (by assumption : ∀ p ∈ news, @LT.lt Nat _ p.1 _) p hp
  exact ⟨neN (by omega), neN (by omega), neN (by omega)⟩
theorem words15 : True := by
  k_with_none
  k_with "eval Call" => (k_here; (with_reducible show wpAny _ _ (eval (Expr.Call (Expr.Name _ _) _ _ _) _) _ _ _); k_dflt (refine Call_ ?_))
  k_with "compareOp In str ref" => (k_here; k_dflt (first
    | (refine' in_top ?F ?X ?l ?k ?e ?_; (case F => k_asm); (case X => k_asm); (case l => k_is); (case k => (repeat constructor)); (case e => first | decide | exact plain_any (by assumption) _ (by decide)); k_whole)
    | (refine' in_topT ?F ?X ?l ?k ?e ?_; (case F => k_asm); (case X => k_asm); (case l => k_is); (case k => (repeat constructor)); (case e => decide); k_whole)))
  k_with "call ref" => (k_here; (with_reducible show wpAny _ _ (call (Value.ref 21) _) _ _ _); k_dflt (first
    | (refine' Calls.use (is_expr_two _ _ _ _ _ _ _ _ _ ?m2 ?m1) ?k1 ?k2 ?k3 ?k4 ?k5 ?kK ?kd ?ku ?_; (case k1 => k_asm); (case k2 => k_asm); (case k3 => k_asm); (case k4 => k_asm); (case m1 => k_mem); (case m2 => decide); (case k5 => k_asm); (case kK => first | exact rfl | assumption); (case kd => ktr_room); (case ku => ktr_units); intro r9 n9 h9 t9 F9 N9 ho9; (obtain ⟨e1, e2⟩ := ho9; subst e1; subst e2); (try k_sweep))
    | (refine' Calls.use (is_expr_ne _ _ _ _ _ _ _ _ _ _ ?m2 ?m1) ?k1 ?k2 ?k3 ?k4 ?k5 ?kK ?kd ?ku ?_; (case k1 => k_asm); (case k2 => k_asm); (case k3 => k_asm); (case k4 => k_asm); (case m1 => k_mem); (case m2 => first | assumption | decide); (case k5 => k_asm); (case kK => first | exact rfl | assumption); (case kd => ktr_room); (case ku => ktr_units); intro r9 n9 h9 t9 F9 N9 ho9; (obtain ⟨e1, e2⟩ := ho9; subst e1; subst e2); (try k_sweep))
    | (refine' Calls.use (is_expr_expr _ _ _ _ _ _ _ _ _ _ ?m1) ?k1 ?k2 ?k3 ?k4 ?k5 ?kK ?kd ?ku ?_; (case k1 => k_asm); (case k2 => k_asm); (case k3 => k_asm); (case k4 => k_asm); (case m1 => k_mem); (case k5 => k_asm); (case kK => first | exact rfl | assumption); (case kd => ktr_room); (case ku => ktr_units); intro r9 n9 h9 t9 F9 N9 ho9; (obtain ⟨e1, e2⟩ := ho9; subst e1; subst e2); (try k_sweep))))
  k_with "call ref" => (k_here; (with_reducible show wpAny _ _ (call (Value.ref 28) _) _ _ _); k_dflt (first
    | (refine' Calls.use (parts_of_expr _ _ _ _ _ _ _ _ ?m1) ?k1 ?k2 ?k3 ?k4 ?k5 ?kK ?kd ?ku ?_; (case k1 => k_asm); (case k2 => k_asm); (case k3 => k_asm); (case k4 => k_asm); (case m1 => k_mem); (case k5 => k_asm); (case kK => first | exact rfl | assumption); (case kd => ktr_room); (case ku => ktr_units); intro r9 n9 h9 t9 F9 N9 ho9; (obtain ⟨e1, e2⟩ := ho9; subst e1; subst e2); (try k_sweep))))
  k_with "call ref" => (k_here; (with_reducible show wpAny _ _ (call (Value.ref 35) _) _ _ _); k_dflt (first
    | (refine' Calls.use (is_sym_ _ _ _ _ _ _ _ ?m1) ?k1 ?k2 ?k3 ?k4 ?k5 ?kK ?kd ?ku ?_; (case k1 => k_asm); (case k2 => k_asm); (case k3 => k_asm); (case k4 => k_asm); (case m1 => k_mem); (case k5 => k_asm); (case kK => first | exact rfl | assumption); (case kd => ktr_room); (case ku => ktr_units); intro r9 n9 h9 t9 F9 N9 ho9; (obtain ⟨e1, e2⟩ := ho9; subst e1; subst e2); (try k_sweep))))
  k_with "call ref" => (k_here; (with_reducible show wpAny _ _ (call (Value.ref 21) _) _ _ _); k_dflt (first
    | (refine' Calls.use (is_expr_two _ _ _ _ _ _ _ _ _ ?m2 ?m1) ?k1 ?k2 ?k3 ?k4 ?k5 ?kK ?kd ?ku ?_; (case k1 => k_asm); (case k2 => k_asm); (case k3 => k_asm); (case k4 => k_asm); (case m1 => k_mem); (case m2 => decide); (case k5 => k_asm); (case kK => first | exact rfl | assumption); (case kd => ktr_room); (case ku => ktr_units); intro r9 n9 h9 t9 F9 N9 ho9; (obtain ⟨e1, e2⟩ := ho9; subst e1; subst e2); (try k_sweep))
    | (refine' Calls.use (is_expr_ne _ _ _ _ _ _ _ _ _ _ ?m2 ?m1) ?k1 ?k2 ?k3 ?k4 ?k5 ?kK ?kd ?ku ?_; (case k1 => k_asm); (case k2 => k_asm); (case k3 => k_asm); (case k4 => k_asm); (case m1 => k_mem); (case m2 => first | assumption | decide); (case k5 => k_asm); (case kK => first | exact rfl | assumption); (case kd => ktr_room); (case ku => ktr_units); intro r9 n9 h9 t9 F9 N9 ho9; (obtain ⟨e1, e2⟩ := ho9; subst e1; subst e2); (try k_sweep))
    | (refine' Calls.use (is_expr_expr _ _ _ _ _ _ _ _ _ _ ?m1) ?k1 ?k2 ?k3 ?k4 ?k5 ?kK ?kd ?ku ?_; (case k1 => k_asm); (case k2 => k_asm); (case k3 => k_asm); (case k4 => k_asm); (case m1 => k_mem); (case k5 => k_asm); (case kK => first | exact rfl | assumption); (case kd => ktr_room); (case ku => ktr_units); intro r9 n9 h9 t9 F9 N9 ho9; (obtain ⟨e1, e2⟩ := ho9; subst e1; subst e2); (try k_sweep))
    | (refine' Calls.use (is_expr_tree _ _ ?mt _ _ _ ?m1 ?m2) ?k1 ?k2 ?k3 ?k4 ?k5 ?kK ?kd ?ku ?_; (case k1 => k_asm); (case k2 => k_asm); (case k3 => k_asm); (case k4 => k_asm); (case m1 => (first | assumption | exact TreeIn.mono (fun _ h => .tail _ (.tail _ h)) _ _ (by assumption) | exact TreeIn.mono (fun _ h => .tail _ (.tail _ (.tail _ h))) _ _ (by assumption) | exact TreeIn.mono (fun _ h => .tail _ (.tail _ (.tail _ (.tail _ h)))) _ _ (by assumption) | exact TreeIn.mono (fun _ h => .tail _ (.tail _ (.tail _ (.tail _ (.tail _ h))))) _ _ (by assumption))); (case m2 => decide); (case k5 => k_asm); (case kK => first | exact rfl | assumption); (case kd => ktr_room); (case ku => ktr_units); intro r9 n9 h9 t9 F9 N9 ho9; (obtain ⟨e1, e2⟩ := ho9; subst e1; subst e2); (try k_sweep))))
  k_with "call ref" => (k_here; (with_reducible show wpAny _ _ (call (Value.ref 141) _) _ _ _); k_dflt (first
    | (rename AtSpec _ _ => hA9; (refine' Calls.use (hA9 _ _ _ _ _ _ _ _ _ _ _ ?m1 ?m2 ?m3 ?m4 ?m5 ?m6 ?m7) ?k1 ?k2 ?k3 ?k4 ?k5 ?kK ?kd ?ku ?_; (case k1 => k_asm); (case k2 => k_asm); (case k3 => k_asm); (case k4 => (first | k_asm | exact rot1 (by k_asm) | exact rot2 (by k_asm) | exact rot3 (by k_asm) | exact rot4 (by k_asm) | exact rot5 (by k_asm) | exact rot6 (by k_asm) | exact rot7 (by k_asm) | exact rot8 (by k_asm) | exact rot9 (by k_asm))); (case m1 => (first | assumption | exact TreeIn.mono (fun _ h => .tail _ h) _ _ (by assumption) | exact TreeIn.mono (fun _ h => .tail _ (.tail _ h)) _ _ (by assumption) | exact TreeIn.mono (fun _ h => .tail _ (.tail _ (.tail _ h))) _ _ (by assumption) | exact TreeIn.mono (fun _ h => .tail _ (.tail _ (.tail _ (.tail _ h)))) _ _ (by assumption) | exact TreeIn.mono (fun _ h => .tail _ (.tail _ (.tail _ (.tail _ (.tail _ h))))) _ _ (by assumption) | exact TreeIn.mono (fun _ h => .tail _ (.tail _ (.tail _ (.tail _ (.tail _ (.tail _ h)))))) _ _ (by assumption) | exact TreeIn.mono (fun _ h => .tail _ (.tail _ (.tail _ (.tail _ (.tail _ (.tail _ (.tail _ h))))))) _ _ (by assumption) | exact TreeIn.mono (fun _ h => .tail _ (.tail _ (.tail _ (.tail _ (.tail _ (.tail _ (.tail _ (.tail _ h)))))))) _ _ (by assumption) | exact TreeIn.mono (fun _ h => .tail _ (.tail _ (.tail _ (.tail _ (.tail _ (.tail _ (.tail _ (.tail _ (.tail _ h))))))))) _ _ (by assumption))); (case m2 => assumption); (case m3 => assumption); (case m4 => assumption); (case m5 => assumption); (case m6 => (first | assumption | exact all_cons1 (neN (by omega)) (by assumption) | exact all_cons1 (neN (by omega)) (all_cons1 (neN (by omega)) (by assumption)) | exact all_cons1 (neN (by omega)) (all_cons1 (neN (by omega)) (all_cons1 (neN (by omega)) (by assumption))) | exact all_cons1 (neN (by omega)) (all_cons1 (neN (by omega)) (all_cons1 (neN (by omega)) (all_cons1 (neN (by omega)) (by assumption)))) | exact all_cons1 (neN (by omega)) (all_cons1 (neN (by omega)) (all_cons1 (neN (by omega)) (all_cons1 (neN (by omega)) (all_cons1 (neN (by omega)) (by assumption))))) | exact all_cons1 (neN (by omega)) (all_cons1 (neN (by omega)) (all_cons1 (neN (by omega)) (all_cons1 (neN (by omega)) (all_cons1 (neN (by omega)) (all_cons1 (neN (by omega)) (by assumption)))))) | exact all_cons1 (neN (by omega)) (all_cons1 (neN (by omega)) (all_cons1 (neN (by omega)) (all_cons1 (neN (by omega)) (all_cons1 (neN (by omega)) (all_cons1 (neN (by omega)) (all_cons1 (neN (by omega)) (by assumption))))))) | exact all_cons1 (neN (by omega)) (all_cons1 (neN (by omega)) (all_cons1 (neN (by omega)) (all_cons1 (neN (by omega)) (all_cons1 (neN (by omega)) (all_cons1 (neN (by omega)) (all_cons1 (neN (by omega)) (all_cons1 (neN (by omega)) (by assumption)))))))) | exact all_cons1 (neN (by omega)) (all_cons1 (neN (by omega)) (all_cons1 (neN (by omega)) (all_cons1 (neN (by omega)) (all_cons1 (neN (by omega)) (all_cons1 (neN (by omega)) (all_cons1 (neN (by omega)) (all_cons1 (neN (by omega)) (all_cons1 (neN (by omega)) (by assumption))))))))))); (case m7 => decide); (case k5 => k_asm); (case kK => first | exact rfl | assumption); (case kd => ktr_room); (case ku => ktr_units); intro r9 n9 h9 t9 F9 N9 ho9; (obtain ⟨t19, t29, tk9, e1, e2⟩ := ho9; subst e1; subst e2); (try k_sweep)))))
  k_with "compareOp Eq ref ref" => (k_here; k_dflt (first
    | (refine' eq_tups ?N ?u ?m1 ?m2 ?_; (case N => k_asm); (case u => ktr_units); (case m1 => k_mem); (case m2 => k_mem); k_whole)
    | (refine' eq_syms ?N ?u ?m1 ?m2 ?e ?_; (case N => k_asm); (case u => ktr_units); (case m1 => k_mem); (case m2 => k_mem); (case e => first | decide | exact plain_ne (by assumption) _ (by decide)); k_whole)
    | (refine' eq_int_sym ?N ?u ?m1 ?m2 ?_; (case N => k_asm); (case u => ktr_units); (case m1 => k_mem); (case m2 => k_mem); k_whole)))
  k_with "compareOp NotEq ref ref" => (k_here; k_dflt (first
    | (refine' ne_nil0 ?N ?u ?m1 ?m2 ?_; (case N => k_asm); (case u => ktr_units); (case m1 => k_mem); (case m2 => first | exact isTuple_of (by k_asm) (by k_mem)); k_whole)
    | (refine' ne_cons ?N ?u ?m1 ?m2 ?_; (case N => k_asm); (case u => ktr_units); (case m1 => k_mem); (case m2 => first | exact isTuple_of (by k_asm) (by k_mem)); k_whole)))
  k_with "subscriptTail" => (k_here; (with_reducible show wpAny _ _ (subscriptTail _ _ (Value.ref _) (Value.ref _)) _ _ _); (with_unfolding_all refine' slice1 ?F ?N ?m1 ?z ?_ ?hs ?hg; (case F => k_asm); (case N => k_asm); (case m1 => k_mem); (case z => (first | decide | omega | (simp only [List.length_cons, List.length_nil]; omega))); (case hs => exact rfl); (case hg => intro _; exact rfl); k_whole); intro q9 h9 F9 N9 l9; (try k_lt l9); (try k_sweep))
  k_with "subscriptTail" => (k_here; (with_reducible show wpAny _ _ (subscriptTail _ _ (Value.ref _) (Value.int 0 _)) _ _ _); (with_unfolding_all refine' item_first ?N ?m ?_ ?hs; (case N => k_asm); (case m => k_mem); (case hs => exact rfl); k_whole))
  k_with "subscriptTail" => (k_here; (with_reducible show wpAny _ _ (subscriptTail _ _ (Value.ref _) (Value.int 1 _)) _ _ _); (with_unfolding_all refine' item_second ?N ?m ?_ ?hs; (case N => k_asm); (case m => k_mem); (case hs => exact rfl); k_whole))
  k_with "call builtin:len" => (k_here; (with_reducible show wpAny _ _ (call (Value.builtin "len") [Value.ref _]) _ _ _); k_dflt (refine' len_tup ?N ?m ?z ?e ?_; (case N => k_asm); (case m => k_mem); (case z => (first | decide | omega | (simp only [List.length_cons, List.length_nil]; omega))); (case e => first | (simp only [List.length_cons, List.length_nil, Nat.zero_add, Nat.reduceAdd]; exact rfl) | exact rfl); k_whole))
  k_with "eval Name" => (k_here; (with_reducible show wpAny _ _ (eval (Expr.Name _ _) (compEnvC _ _ _ _)) _ _ _); k_dflt (first
    | (refine' comp_local ?n ?v ?_ ?a ?b ?d; (case n => k_asm); (case v => first | assumption | exact rfl); (case a => exact rfl); (case b => exact rfl); (case d => decide); k_whole)
    | (refine' comp_cell ?N ?c ?m ?d ?_ ?a ?b ?e; (case N => k_asm); (case c => exact rfl); (case m => k_mem); (case d => first | assumption | exact rfl); (case a => exact rfl); (case b => exact rfl); (case e => decide); k_whole)
    | (refine' nameG_K ?F ?X ?T ?e ?_ ?g ?k ?x ?d; (case F => k_asm); (case X => k_asm); (case T => k_asm); (case e => k_is); (case g => exact rfl); (case k => exact rfl); (case x => exact rfl); (case d => decide); k_whole)))
  k_with "eval Call Attribute" => (k_here; (with_reducible show wpAny _ _ (eval (Expr.Call (Expr.Attribute _ _ _) _ _ _) _) _ _ _); k_dflt (refine MethodCall_ ?_))
  k_with "eval ListComp" => (k_here; k_dflt ((refine' comp_inv ?c1 ?c2 ?c3 ?c4 ?c5 ?_ ?c6); (case c1 => with_unfolding_all exact rfl); (case c2 => decide); (case c3 => exact rfl); (case c4 => decide); (case c5 => exact rfl); (case c6 => intro _; exact rfl); k_whole))
  k_with "call builtin:str.join" => (k_here; (with_reducible show wpAny _ _ (call (Value.builtin "str.join") [Value.str _ _, Value.ref _]) _ _ _); (with_reducible rename StrsAre _ _ => hS9); k_dflt (refine' join_mine (News.isList ?N ?m) ?i ?k ?_; (case N => k_asm); (case m => k_mem); (case i => simpa using hS9); (case k => assumption)); intro t9 k9)
  trivial
theorem two_trees {news : List (Addr × Obj)} {ta tb : T} {v1 v2 v : Value} {i : Nat} (h1 : TreeIn news ta v1) (h2 : TreeIn news tb v2) (e : [v1, v2][i]? = some v) : ∃ t, TreeIn news t v := by
  match i, e with
  | 0, e => cases e; exact ⟨_, h1⟩
  | 1, e => cases e; exact ⟨_, h2⟩
  | (i + 2), e => simp at e
theorem words16 : True := by
  k_with "compareOp Eq ref ref" => (k_here; k_dflt (refine' eq_lists0 ?N ?u ?m1 ?m2 ?_; (case N => k_asm); (case u => ktr_units); (case m1 => k_mem); (case m2 => k_mem); k_whole))
  trivial
theorem pa_not (w : World) (news : List (Addr × Obj)) (a1 p1 : Addr) (tk1 tk2 n1 n2 : Nat) (hm : (a1, tupOf [.str (Str.ofString "expr") tk1, .str (Str.ofString "call") tk2, .ref p1] n1) ∈ news) (vc : Value) (vs : List Value) (tk : Nat) (hz : vs.length ≤ 10) (hlen : vs.length ≠ 2) (hp : (p1, tupOf (vc :: vs) n2) ∈ news) :
  Calls w 113 [.ref a1, .int 2 tk] 2 30 news (fun nx r => nx = news ∧ r = .bool false) := by
  have hlen' : ((vs.length : Nat) : Int) ≠ 2 := by omega
  unfold Calls; k_fill
  intro mean mg mb dp un gd cn cs a ccd cl outer A₀ base h₀ L m st R B F X N T hk hdp hun hret
  k_dflt ktr_enter
  k_steps
  all_goals first | exact hret _ _ _ _ (by k_asm) (news_tl (by k_asm)) ⟨rfl, rfl⟩ | (exfalso; omega)
theorem pa_two (w : World) (news : List (Addr × Obj)) (a1 p1 : Addr) (tk1 tk2 n1 n2 : Nat) (hm : (a1, tupOf [.str (Str.ofString "expr") tk1, .str (Str.ofString "call") tk2, .ref p1] n1) ∈ news) (vc v1 v2 : Value) (tk : Nat) (ta tb : T) (hT1 : TreeIn news ta v1) (hT2 : TreeIn news tb v2) (hp : (p1, tupOf [vc, v1, v2] n2) ∈ news) :
  Calls w 113 [.ref a1, .int 2 tk] 2 30 news (fun nx r => nx = news ∧ r = .bool true) := by
  unfold Calls; k_fill
  intro mean mg mb dp un gd cn cs a ccd cl outer A₀ base h₀ L m st R B F X N T hk hdp hun hret
  k_dflt ktr_enter
  k_steps
  (try dsimp only)
  refine' comp_same ?hh ?F ?N ?hT ?z (fun i ys => ys = []) ?hJ ?turn ?done
  case hh => exact rfl
  case F => k_asm
  case N => k_asm
  case hT => k_mem
  case z => simp
  case hJ => exact rfl
  case turn =>
    rintro i v ys own C h tk E' hi rfl F2 N2 ⟨mC, hnC, hmC⟩
    obtain ⟨t, hTv⟩ := two_trees hT1 hT2 hi
    refine forIn_one ?_
    cases t with
    | sym y =>
      rw [TreeIn] at hTv; obtain ⟨aa, k1, k2, kn, rfl, hmv⟩ := hTv
      have hmv' := List.mem_append.mpr (Or.inl (b := _ ∈ own) hmv)
      k_steps
      exact ⟨_, _, rfl, by k_asm, by first | k_asm | exact news_tl (by k_asm), by first | exact rfl | trivial⟩
    | int y =>
      rw [TreeIn] at hTv; obtain ⟨aa, k1, k2, kn, rfl, hmv⟩ := hTv
      have hmv' := List.mem_append.mpr (Or.inl (b := _ ∈ own) hmv)
      k_steps
      exact ⟨_, _, rfl, by k_asm, by first | k_asm | exact news_tl (by k_asm), by first | exact rfl | trivial⟩
    | dot t =>
      rw [TreeIn] at hTv; obtain ⟨aa, k1, k2, kn, pp, kn2, vv, bb, k3, k4, kn3, rfl, hmv, _⟩ := hTv
      k_steps
      exact ⟨_, _, rfl, by k_asm, by first | k_asm | exact news_tl (by k_asm), by first | exact rfl | trivial⟩
    | node hh ps =>
      rw [TreeIn] at hTv; obtain ⟨aa, k1, k2, kn, pp, kn2, vv, rfl, hmv, _⟩ := hTv
      have hwd : [Str.ofString "parameters", Str.ofString "kw", Str.ofString "..."].any (· == Str.ofString hh.word) = false := by cases hh <;> decide
      k_steps
      exact ⟨_, _, rfl, by k_asm, by first | k_asm | exact news_tl (by k_asm), by first | exact rfl | trivial⟩
  case done =>
    rintro ys D e h tk rfl F2 N2 off
    k_steps
    exact hret _ _ _ _ (by k_asm) (news_tl (news_tl (news_tl (by k_asm)))) ⟨rfl, rfl⟩
theorem words17 : True := by
  k_with_none
  k_with "eval Call" => (k_here; (with_reducible show wpAny _ _ (eval (Expr.Call (Expr.Name _ _) _ _ _) _) _ _ _); k_dflt (refine Call_ ?_))
  k_with "compareOp In str ref" => (k_here; k_dflt (first
    | (refine' in_top ?F ?X ?l ?k ?e ?_; (case F => k_asm); (case X => k_asm); (case l => k_is); (case k => (repeat constructor)); (case e => first | decide | exact plain_any (by assumption) _ (by decide)); k_whole)
    | (refine' in_topT ?F ?X ?l ?k ?e ?_; (case F => k_asm); (case X => k_asm); (case l => k_is); (case k => (repeat constructor)); (case e => decide); k_whole)))
  k_with "call ref" => (k_here; (with_reducible show wpAny _ _ (call (Value.ref 21) _) _ _ _); k_dflt (first
    | (refine' Calls.use (is_expr_two _ _ _ _ _ _ _ _ _ ?m2 ?m1) ?k1 ?k2 ?k3 ?k4 ?k5 ?kK ?kd ?ku ?_; (case k1 => k_asm); (case k2 => k_asm); (case k3 => k_asm); (case k4 => k_asm); (case m1 => k_mem); (case m2 => decide); (case k5 => k_asm); (case kK => first | exact rfl | assumption); (case kd => ktr_room); (case ku => ktr_units); intro r9 n9 h9 t9 F9 N9 ho9; (obtain ⟨e1, e2⟩ := ho9; subst e1; subst e2); (try k_sweep))
    | (refine' Calls.use (is_expr_ne _ _ _ _ _ _ _ _ _ _ ?m2 ?m1) ?k1 ?k2 ?k3 ?k4 ?k5 ?kK ?kd ?ku ?_; (case k1 => k_asm); (case k2 => k_asm); (case k3 => k_asm); (case k4 => k_asm); (case m1 => k_mem); (case m2 => first | assumption | decide); (case k5 => k_asm); (case kK => first | exact rfl | assumption); (case kd => ktr_room); (case ku => ktr_units); intro r9 n9 h9 t9 F9 N9 ho9; (obtain ⟨e1, e2⟩ := ho9; subst e1; subst e2); (try k_sweep))
    | (refine' Calls.use (is_expr_expr _ _ _ _ _ _ _ _ _ _ ?m1) ?k1 ?k2 ?k3 ?k4 ?k5 ?kK ?kd ?ku ?_; (case k1 => k_asm); (case k2 => k_asm); (case k3 => k_asm); (case k4 => k_asm); (case m1 => k_mem); (case k5 => k_asm); (case kK => first | exact rfl | assumption); (case kd => ktr_room); (case ku => ktr_units); intro r9 n9 h9 t9 F9 N9 ho9; (obtain ⟨e1, e2⟩ := ho9; subst e1; subst e2); (try k_sweep))))
  k_with "call ref" => (k_here; (with_reducible show wpAny _ _ (call (Value.ref 28) _) _ _ _); k_dflt (first
    | (refine' Calls.use (parts_of_expr _ _ _ _ _ _ _ _ ?m1) ?k1 ?k2 ?k3 ?k4 ?k5 ?kK ?kd ?ku ?_; (case k1 => k_asm); (case k2 => k_asm); (case k3 => k_asm); (case k4 => k_asm); (case m1 => k_mem); (case k5 => k_asm); (case kK => first | exact rfl | assumption); (case kd => ktr_room); (case ku => ktr_units); intro r9 n9 h9 t9 F9 N9 ho9; (obtain ⟨e1, e2⟩ := ho9; subst e1; subst e2); (try k_sweep))))
  k_with "call ref" => (k_here; (with_reducible show wpAny _ _ (call (Value.ref 35) _) _ _ _); k_dflt (first
    | (refine' Calls.use (is_sym_ _ _ _ _ _ _ _ ?m1) ?k1 ?k2 ?k3 ?k4 ?k5 ?kK ?kd ?ku ?_; (case k1 => k_asm); (case k2 => k_asm); (case k3 => k_asm); (case k4 => k_asm); (case m1 => k_mem); (case k5 => k_asm); (case kK => first | exact rfl | assumption); (case kd => ktr_room); (case ku => ktr_units); intro r9 n9 h9 t9 F9 N9 ho9; (obtain ⟨e1, e2⟩ := ho9; subst e1; subst e2); (try k_sweep))))
  k_with "call ref" => (k_here; (with_reducible show wpAny _ _ (call (Value.ref 21) _) _ _ _); k_dflt (first
    | (refine' Calls.use (is_expr_two _ _ _ _ _ _ _ _ _ ?m2 ?m1) ?k1 ?k2 ?k3 ?k4 ?k5 ?kK ?kd ?ku ?_; (case k1 => k_asm); (case k2 => k_asm); (case k3 => k_asm); (case k4 => k_asm); (case m1 => k_mem); (case m2 => decide); (case k5 => k_asm); (case kK => first | exact rfl | assumption); (case kd => ktr_room); (case ku => ktr_units); intro r9 n9 h9 t9 F9 N9 ho9; (obtain ⟨e1, e2⟩ := ho9; subst e1; subst e2); (try k_sweep))
    | (refine' Calls.use (is_expr_ne _ _ _ _ _ _ _ _ _ _ ?m2 ?m1) ?k1 ?k2 ?k3 ?k4 ?k5 ?kK ?kd ?ku ?_; (case k1 => k_asm); (case k2 => k_asm); (case k3 => k_asm); (case k4 => k_asm); (case m1 => k_mem); (case m2 => first | assumption | decide); (case k5 => k_asm); (case kK => first | exact rfl | assumption); (case kd => ktr_room); (case ku => ktr_units); intro r9 n9 h9 t9 F9 N9 ho9; (obtain ⟨e1, e2⟩ := ho9; subst e1; subst e2); (try k_sweep))
    | (refine' Calls.use (is_expr_expr _ _ _ _ _ _ _ _ _ _ ?m1) ?k1 ?k2 ?k3 ?k4 ?k5 ?kK ?kd ?ku ?_; (case k1 => k_asm); (case k2 => k_asm); (case k3 => k_asm); (case k4 => k_asm); (case m1 => k_mem); (case k5 => k_asm); (case kK => first | exact rfl | assumption); (case kd => ktr_room); (case ku => ktr_units); intro r9 n9 h9 t9 F9 N9 ho9; (obtain ⟨e1, e2⟩ := ho9; subst e1; subst e2); (try k_sweep))
    | (refine' Calls.use (is_expr_tree _ _ ?mt _ _ _ ?m1 ?m2) ?k1 ?k2 ?k3 ?k4 ?k5 ?kK ?kd ?ku ?_; (case k1 => k_asm); (case k2 => k_asm); (case k3 => k_asm); (case k4 => k_asm); (case m1 => (first | assumption | exact TreeIn.mono (fun _ h => .tail _ (.tail _ h)) _ _ (by assumption) | exact TreeIn.mono (fun _ h => .tail _ (.tail _ (.tail _ h))) _ _ (by assumption) | exact TreeIn.mono (fun _ h => .tail _ (.tail _ (.tail _ (.tail _ h)))) _ _ (by assumption) | exact TreeIn.mono (fun _ h => .tail _ (.tail _ (.tail _ (.tail _ (.tail _ h))))) _ _ (by assumption))); (case m2 => decide); (case k5 => k_asm); (case kK => first | exact rfl | assumption); (case kd => ktr_room); (case ku => ktr_units); intro r9 n9 h9 t9 F9 N9 ho9; (obtain ⟨e1, e2⟩ := ho9; subst e1; subst e2); (try k_sweep))))
  k_with "call ref" => (k_here; (with_reducible show wpAny _ _ (call (Value.ref 141) _) _ _ _); k_dflt (first
    | (rename AtSpec _ _ => hA9; (refine' Calls.use (hA9 _ _ _ _ _ _ _ _ _ _ _ ?m1 ?m2 ?m3 ?m4 ?m5 ?m6 ?m7) ?k1 ?k2 ?k3 ?k4 ?k5 ?kK ?kd ?ku ?_; (case k1 => k_asm); (case k2 => k_asm); (case k3 => k_asm); (case k4 => (first | k_asm | exact rot1 (by k_asm) | exact rot2 (by k_asm) | exact rot3 (by k_asm) | exact rot4 (by k_asm) | exact rot5 (by k_asm) | exact rot6 (by k_asm) | exact rot7 (by k_asm) | exact rot8 (by k_asm) | exact rot9 (by k_asm))); (case m1 => (first | assumption | exact TreeIn.mono (fun _ h => .tail _ h) _ _ (by assumption) | exact TreeIn.mono (fun _ h => .tail _ (.tail _ h)) _ _ (by assumption) | exact TreeIn.mono (fun _ h => .tail _ (.tail _ (.tail _ h))) _ _ (by assumption) | exact TreeIn.mono (fun _ h => .tail _ (.tail _ (.tail _ (.tail _ h)))) _ _ (by assumption) | exact TreeIn.mono (fun _ h => .tail _ (.tail _ (.tail _ (.tail _ (.tail _ h))))) _ _ (by assumption) | exact TreeIn.mono (fun _ h => .tail _ (.tail _ (.tail _ (.tail _ (.tail _ (.tail _ h)))))) _ _ (by assumption) | exact TreeIn.mono (fun _ h => .tail _ (.tail _ (.tail _ (.tail _ (.tail _ (.tail _ (.tail _ h))))))) _ _ (by assumption) | exact TreeIn.mono (fun _ h => .tail _ (.tail _ (.tail _ (.tail _ (.tail _ (.tail _ (.tail _ (.tail _ h)))))))) _ _ (by assumption) | exact TreeIn.mono (fun _ h => .tail _ (.tail _ (.tail _ (.tail _ (.tail _ (.tail _ (.tail _ (.tail _ (.tail _ h))))))))) _ _ (by assumption))); (case m2 => assumption); (case m3 => assumption); (case m4 => assumption); (case m5 => assumption); (case m6 => (first | assumption | exact all_cons1 (neN (by omega)) (by assumption) | exact all_cons1 (neN (by omega)) (all_cons1 (neN (by omega)) (by assumption)) | exact all_cons1 (neN (by omega)) (all_cons1 (neN (by omega)) (all_cons1 (neN (by omega)) (by assumption))) | exact all_cons1 (neN (by omega)) (all_cons1 (neN (by omega)) (all_cons1 (neN (by omega)) (all_cons1 (neN (by omega)) (by assumption)))) | exact all_cons1 (neN (by omega)) (all_cons1 (neN (by omega)) (all_cons1 (neN (by omega)) (all_cons1 (neN (by omega)) (all_cons1 (neN (by omega)) (by assumption))))) | exact all_cons1 (neN (by omega)) (all_cons1 (neN (by omega)) (all_cons1 (neN (by omega)) (all_cons1 (neN (by omega)) (all_cons1 (neN (by omega)) (all_cons1 (neN (by omega)) (by assumption)))))) | exact all_cons1 (neN (by omega)) (all_cons1 (neN (by omega)) (all_cons1 (neN (by omega)) (all_cons1 (neN (by omega)) (all_cons1 (neN (by omega)) (all_cons1 (neN (by omega)) (all_cons1 (neN (by omega)) (by assumption))))))) | exact all_cons1 (neN (by omega)) (all_cons1 (neN (by omega)) (all_cons1 (neN (by omega)) (all_cons1 (neN (by omega)) (all_cons1 (neN (by omega)) (all_cons1 (neN (by omega)) (all_cons1 (neN (by omega)) (all_cons1 (neN (by omega)) (by assumption)))))))) | exact all_cons1 (neN (by omega)) (all_cons1 (neN (by omega)) (all_cons1 (neN (by omega)) (all_cons1 (neN (by omega)) (all_cons1 (neN (by omega)) (all_cons1 (neN (by omega)) (all_cons1 (neN (by omega)) (all_cons1 (neN (by omega)) (all_cons1 (neN (by omega)) (by assumption))))))))))); (case m7 => decide); (case k5 => k_asm); (case kK => first | exact rfl | assumption); (case kd => ktr_room); (case ku => ktr_units); intro r9 n9 h9 t9 F9 N9 ho9; (obtain ⟨t19, t29, tk9, e1, e2⟩ := ho9; subst e1; subst e2); (try k_sweep)))))
  k_with "compareOp Eq ref ref" => (k_here; k_dflt (first
    | (refine' eq_tups ?N ?u ?m1 ?m2 ?_; (case N => k_asm); (case u => ktr_units); (case m1 => k_mem); (case m2 => k_mem); k_whole)
    | (refine' eq_syms ?N ?u ?m1 ?m2 ?e ?_; (case N => k_asm); (case u => ktr_units); (case m1 => k_mem); (case m2 => k_mem); (case e => first | decide | exact plain_ne (by assumption) _ (by decide)); k_whole)
    | (refine' eq_int_sym ?N ?u ?m1 ?m2 ?_; (case N => k_asm); (case u => ktr_units); (case m1 => k_mem); (case m2 => k_mem); k_whole)))
  k_with "compareOp NotEq ref ref" => (k_here; k_dflt (first
    | (refine' ne_nil0 ?N ?u ?m1 ?m2 ?_; (case N => k_asm); (case u => ktr_units); (case m1 => k_mem); (case m2 => first | exact isTuple_of (by k_asm) (by k_mem)); k_whole)
    | (refine' ne_cons ?N ?u ?m1 ?m2 ?_; (case N => k_asm); (case u => ktr_units); (case m1 => k_mem); (case m2 => first | exact isTuple_of (by k_asm) (by k_mem)); k_whole)))
  k_with "subscriptTail" => (k_here; (with_reducible show wpAny _ _ (subscriptTail _ _ (Value.ref _) (Value.ref _)) _ _ _); (with_unfolding_all refine' slice1 ?F ?N ?m1 ?z ?_ ?hs ?hg; (case F => k_asm); (case N => k_asm); (case m1 => k_mem); (case z => (first | decide | omega | (simp only [List.length_cons, List.length_nil]; omega))); (case hs => exact rfl); (case hg => intro _; exact rfl); k_whole); intro q9 h9 F9 N9 l9; (try k_lt l9); (try k_sweep))
  k_with "subscriptTail" => (k_here; (with_reducible show wpAny _ _ (subscriptTail _ _ (Value.ref _) (Value.int 0 _)) _ _ _); (with_unfolding_all refine' item_first ?N ?m ?_ ?hs; (case N => k_asm); (case m => k_mem); (case hs => exact rfl); k_whole))
  k_with "subscriptTail" => (k_here; (with_reducible show wpAny _ _ (subscriptTail _ _ (Value.ref _) (Value.int 1 _)) _ _ _); (with_unfolding_all refine' item_second ?N ?m ?_ ?hs; (case N => k_asm); (case m => k_mem); (case hs => exact rfl); k_whole))
  k_with "call builtin:len" => (k_here; (with_reducible show wpAny _ _ (call (Value.builtin "len") [Value.ref _]) _ _ _); k_dflt (refine' len_tup ?N ?m ?z ?e ?_; (case N => k_asm); (case m => k_mem); (case z => (first | decide | omega | (simp only [List.length_cons, List.length_nil]; omega))); (case e => first | (simp only [List.length_cons, List.length_nil, Nat.zero_add, Nat.reduceAdd]; exact rfl) | exact rfl); k_whole))
  k_with "eval Name" => (k_here; (with_reducible show wpAny _ _ (eval (Expr.Name _ _) (compEnvC _ _ _ _)) _ _ _); k_dflt (first
    | (refine' comp_local ?n ?v ?_ ?a ?b ?d; (case n => k_asm); (case v => first | assumption | exact rfl); (case a => exact rfl); (case b => exact rfl); (case d => decide); k_whole)
    | (refine' comp_cell ?N ?c ?m ?d ?_ ?a ?b ?e; (case N => k_asm); (case c => exact rfl); (case m => k_mem); (case d => first | assumption | exact rfl); (case a => exact rfl); (case b => exact rfl); (case e => decide); k_whole)
    | (refine' nameG_K ?F ?X ?T ?e ?_ ?g ?k ?x ?d; (case F => k_asm); (case X => k_asm); (case T => k_asm); (case e => k_is); (case g => exact rfl); (case k => exact rfl); (case x => exact rfl); (case d => decide); k_whole)))
  k_with "eval Call Attribute" => (k_here; (with_reducible show wpAny _ _ (eval (Expr.Call (Expr.Attribute _ _ _) _ _ _) _) _ _ _); k_dflt (refine MethodCall_ ?_))
  k_with "eval ListComp" => (k_here; k_dflt ((refine' comp_inv ?c1 ?c2 ?c3 ?c4 ?c5 ?_ ?c6); (case c1 => with_unfolding_all exact rfl); (case c2 => decide); (case c3 => exact rfl); (case c4 => decide); (case c5 => exact rfl); (case c6 => intro _; exact rfl); k_whole))
  k_with "call builtin:str.join" => (k_here; (with_reducible show wpAny _ _ (call (Value.builtin "str.join") [Value.str _ _, Value.ref _]) _ _ _); (with_reducible rename StrsAre _ _ => hS9); k_dflt (refine' join_mine (News.isList ?N ?m) ?i ?k ?_; (case N => k_asm); (case m => k_mem); (case i => simpa using hS9); (case k => assumption)); intro t9 k9)
  k_with "call ref" => (k_here; (with_reducible show wpAny _ _ (call (Value.ref 198) _) _ _ _); k_dflt (first
    | (rename ListedSpec _ _ => hL9; (refine' Calls.use (hL9 _ _ _ _ _ _ _ _ _ _ _ ?m1 ?m2 ?m3 ?m4 ?m5 ?m6 ?m7 ?m8) ?k1 ?k2 ?k3 ?k4 ?k5 ?kK ?kd ?ku ?_; (case k1 => k_asm); (case k2 => k_asm); (case k3 => k_asm); (case k4 => (first | k_asm | exact rot1 (by k_asm) | exact rot2 (by k_asm) | exact rot3 (by k_asm) | exact rot4 (by k_asm) | exact rot5 (by k_asm) | exact rot6 (by k_asm) | exact rot7 (by k_asm) | exact rot8 (by k_asm) | exact rot9 (by k_asm))); (case m1 => k_mem); (case m2 => (first | assumption | exact ForestIn.mono (fun _ h => .tail _ h) _ _ (by assumption) | exact ForestIn.mono (fun _ h => .tail _ (.tail _ h)) _ _ (by assumption) | exact ForestIn.mono (fun _ h => .tail _ (.tail _ (.tail _ h))) _ _ (by assumption) | exact ForestIn.mono (fun _ h => .tail _ (.tail _ (.tail _ (.tail _ h)))) _ _ (by assumption) | exact ForestIn.mono (fun _ h => .tail _ (.tail _ (.tail _ (.tail _ (.tail _ h))))) _ _ (by assumption) | exact ForestIn.mono (fun _ h => .tail _ (.tail _ (.tail _ (.tail _ (.tail _ (.tail _ h)))))) _ _ (by assumption) | exact ForestIn.mono (fun _ h => .tail _ (.tail _ (.tail _ (.tail _ (.tail _ (.tail _ (.tail _ h))))))) _ _ (by assumption) | exact ForestIn.mono (fun _ h => .tail _ (.tail _ (.tail _ (.tail _ (.tail _ (.tail _ (.tail _ (.tail _ h)))))))) _ _ (by assumption) | exact ForestIn.mono (fun _ h => .tail _ (.tail _ (.tail _ (.tail _ (.tail _ (.tail _ (.tail _ (.tail _ (.tail _ h))))))))) _ _ (by assumption))); (case m3 => assumption); (case m4 => assumption); (case m5 => assumption); (case m6 => assumption); (case m7 => assumption); (case m8 => (first | assumption | exact all_cons1 (neN (by omega)) (by assumption) | exact all_cons1 (neN (by omega)) (all_cons1 (neN (by omega)) (by assumption)) | exact all_cons1 (neN (by omega)) (all_cons1 (neN (by omega)) (all_cons1 (neN (by omega)) (by assumption))) | exact all_cons1 (neN (by omega)) (all_cons1 (neN (by omega)) (all_cons1 (neN (by omega)) (all_cons1 (neN (by omega)) (by assumption)))) | exact all_cons1 (neN (by omega)) (all_cons1 (neN (by omega)) (all_cons1 (neN (by omega)) (all_cons1 (neN (by omega)) (all_cons1 (neN (by omega)) (by assumption))))) | exact all_cons1 (neN (by omega)) (all_cons1 (neN (by omega)) (all_cons1 (neN (by omega)) (all_cons1 (neN (by omega)) (all_cons1 (neN (by omega)) (all_cons1 (neN (by omega)) (by assumption)))))) | exact all_cons1 (neN (by omega)) (all_cons1 (neN (by omega)) (all_cons1 (neN (by omega)) (all_cons1 (neN (by omega)) (all_cons1 (neN (by omega)) (all_cons1 (neN (by omega)) (all_cons1 (neN (by omega)) (by assumption))))))) | exact all_cons1 (neN (by omega)) (all_cons1 (neN (by omega)) (all_cons1 (neN (by omega)) (all_cons1 (neN (by omega)) (all_cons1 (neN (by omega)) (all_cons1 (neN (by omega)) (all_cons1 (neN (by omega)) (all_cons1 (neN (by omega)) (by assumption)))))))) | exact all_cons1 (neN (by omega)) (all_cons1 (neN (by omega)) (all_cons1 (neN (by omega)) (all_cons1 (neN (by omega)) (all_cons1 (neN (by omega)) (all_cons1 (neN (by omega)) (all_cons1 (neN (by omega)) (all_cons1 (neN (by omega)) (all_cons1 (neN (by omega)) (by assumption))))))))))); (case k5 => k_asm); (case kK => first | exact rfl | assumption); (case kd => ktr_room); (case ku => ktr_units); intro r9 n9 h9 t9 F9 N9 ho9; (obtain ⟨t19, t29, tk9, e1, e2⟩ := ho9; subst e1; subst e2); (try k_sweep)))))
  k_with "call ref" => (k_here; (with_reducible show wpAny _ _ (call (Value.ref 42) _) _ _ _); k_dflt (first
    | (refine' Calls.use (keywords_nil _ _ _ _ _ _ _ _ ?m1 _ ?m2) ?k1 ?k2 ?k3 ?k4 ?k5 ?kK ?kd ?ku ?_; (case k1 => k_asm); (case k2 => k_asm); (case k3 => k_asm); (case k4 => k_asm); (case m1 => k_mem); (case m2 => k_mem); (case k5 => k_asm); (case kK => first | exact rfl | assumption); (case kd => ktr_room); (case ku => ktr_units); intro r9 n9 h9 t9 F9 N9 ho9; (obtain ⟨q9, qe9, qa9, e1, e2, hh9⟩ := ho9; subst e1; subst e2; have hd9 := hh9 _ (List.mem_cons_of_mem _ List.mem_cons_self); (dsimp only at hd9); clear hh9); (try k_sweep))
    | (refine' Calls.use (keywords_cons _ _ _ _ _ _ _ _ ?m1 _ _ _ ?m3 _ ?m4 ?m2) ?k1 ?k2 ?k3 ?k4 ?k5 ?kK ?kd ?ku ?_; (case k1 => k_asm); (case k2 => k_asm); (case k3 => k_asm); (case k4 => k_asm); (case m1 => k_mem); (case m2 => k_mem); (case m3 => assumption); (case m4 => (first | assumption | exact TreeIn.mono (fun _ h => .tail _ (.tail _ h)) _ _ (by assumption))); (case k5 => k_asm); (case kK => first | exact rfl | assumption); (case kd => ktr_room); (case ku => ktr_units); intro r9 n9 h9 t9 F9 N9 ho9; (obtain ⟨q9, qe9, qa9, e1, e2, hh9⟩ := ho9; subst e1; subst e2; have hd9 := hh9 _ (List.mem_cons_of_mem _ List.mem_cons_self); (dsimp only at hd9); clear hh9); (try k_sweep))))
  trivial
theorem app_nil (x : Str) : x ++ Str.ofString "" = x := by
  have : Str.ofString "" = Str.empty := by decide
  rw [this]
  cases x
  show Str.append _ _ = _
  simp [Str.append, Str.empty]
theorem txt_small {t : T} {k l : Nat} (hW : WF t) (hl : l ≤ 10000) : (txt t k l).1.length ≤ 400000 := by
  have := txt_length t k l hW; omega
theorem commas_small {ps : List T} {k l : Nat} (hW : WFs ps) (hl : l ≤ 10000) (hlen : ps.length ≤ 4) : (commas (txts ps k l).1).length ≤ 400000 := by
  have h1 := txts_sum ps k l hW
  have h2 := txts_length k ps l
  have h3 := glue_length .vec (txts ps k l).1 (by omega)
  simp only [glue, Str.length_append] at h3
  omega
theorem plain_call_nil (w : World) (c : PC) (x dx : Addr) (rest : List (Addr × Obj)) (l d : Nat) (t1 t2 : Nat) (hl : l ≤ 10000) (hd8 : d ≤ 80) (hne : x ≠ dx) (hall : ∀ p ∈ rest, p.1 ≠ dx) (a1 p1 : Addr) (tk1 tk2 n1 n2 : Nat) (hm : (a1, tupOf [.str (Str.ofString "expr") tk1, .str (Str.ofString "call") tk2, .ref p1] n1) ∈ rest) (vc : Value) (hA : AtSpec w (.sym (Str.ofString "f"))) (hTc : TreeIn rest (.sym (Str.ofString "f")) vc) (hWc : WF (.sym (Str.ofString "f"))) (qs : List T) (hqs : qs = []) (hp : (p1, tupOf [vc] n2) ∈ rest) (hL : ListedSpec w qs) (hF : ForestIn rest qs []) (hWq : WFs qs) (hlen : qs.length ≤ 4) :
  Calls w 193 [.ref x, .ref a1] (7 * (80 - d) + 11) (40 * (80 - d) + 72) (pst c x dx l d t1 t2 rest) (TextPost c x dx ((txts qs (80 - d) (txt (.sym (Str.ofString "f")) (80 - d) l).2).2 : Nat) d ((txt (.sym (Str.ofString "f")) (80 - d) l).1 ++ Str.ofString "(" ++ commas (txts qs (80 - d) (txt (.sym (Str.ofString "f")) (80 - d) l).2).1 ++ Str.ofString ")") rest) := by
  have hl3 : (txt (.sym (Str.ofString "f")) (80 - d) l).2 ≤ 10000 := Nat.le_trans (txt_le _ _ _) hl
  have hs1 := txt_small (k := 80 - d) hWc hl
  have hs2 := commas_small (k := 80 - d) hWq hl3 hlen
  unfold Calls; k_fill
  intro mean mg mb dp un gd cn cs a ccd cl outer A₀ base h₀ L m st R B F X N T hk hdp hun hret
  k_dflt ktr_enter
  k_steps
  exact hret _ _ _ _ (by k_asm) (by first | k_asm | exact drop1 (by k_asm) | exact drop2 (by k_asm) | exact drop3 (by k_asm) | exact drop4 (by k_asm) | exact drop5 (by k_asm) | exact drop6 (by k_asm) | exact drop7 (by k_asm) | exact drop8 (by k_asm) | exact drop9 (by k_asm) | exact news_tl (by k_asm) | exact news_tl (news_tl (by k_asm)) | exact news_tl (news_tl (news_tl (by k_asm))) | exact news_tl (news_tl (news_tl (news_tl (by k_asm))))) ⟨_, _, _, rfl, by rw [app_nil]⟩
theorem plain_call_cons (w : World) (c : PC) (x dx : Addr) (rest : List (Addr × Obj)) (l d : Nat) (t1 t2 : Nat) (hl : l ≤ 10000) (hd8 : d ≤ 80) (hne : x ≠ dx) (hall : ∀ p ∈ rest, p.1 ≠ dx) (a1 p1 : Addr) (tk1 tk2 n1 n2 : Nat) (hm : (a1, tupOf [.str (Str.ofString "expr") tk1, .str (Str.ofString "call") tk2, .ref p1] n1) ∈ rest) (vc : Value) (hA : AtSpec w (.sym (Str.ofString "f"))) (hTc : TreeIn rest (.sym (Str.ofString "f")) vc) (hWc : WF (.sym (Str.ofString "f"))) (q1 : T) (qs : List T) (v1 : Value) (vs : List Value) (hz : vs.length ≤ 10) (hT1 : TreeIn rest q1 v1) (hp : (p1, tupOf (vc :: v1 :: vs) n2) ∈ rest) (hL : ListedSpec w qs) (hF : ForestIn rest qs (v1 :: vs)) (hWq : WFs qs) (hlen : qs.length ≤ 4) :
  Calls w 193 [.ref x, .ref a1] (7 * (80 - d) + 11) (40 * (80 - d) + 72) (pst c x dx l d t1 t2 rest) (TextPost c x dx ((txts qs (80 - d) (txt (.sym (Str.ofString "f")) (80 - d) l).2).2 : Nat) d ((txt (.sym (Str.ofString "f")) (80 - d) l).1 ++ Str.ofString "(" ++ commas (txts qs (80 - d) (txt (.sym (Str.ofString "f")) (80 - d) l).2).1 ++ Str.ofString ")") rest) := by
  have hl3 : (txt (.sym (Str.ofString "f")) (80 - d) l).2 ≤ 10000 := Nat.le_trans (txt_le _ _ _) hl
  have hs1 := txt_small (k := 80 - d) hWc hl
  have hs2 := commas_small (k := 80 - d) hWq hl3 hlen
  unfold Calls; k_fill
  intro mean mg mb dp un gd cn cs a ccd cl outer A₀ base h₀ L m st R B F X N T hk hdp hun hret
  k_dflt ktr_enter
  k_steps
  exact hret _ _ _ _ (by k_asm) (by first | k_asm | exact drop1 (by k_asm) | exact drop2 (by k_asm) | exact drop3 (by k_asm) | exact drop4 (by k_asm) | exact drop5 (by k_asm) | exact drop6 (by k_asm) | exact drop7 (by k_asm) | exact drop8 (by k_asm) | exact drop9 (by k_asm) | exact news_tl (by k_asm) | exact news_tl (news_tl (by k_asm)) | exact news_tl (news_tl (news_tl (by k_asm))) | exact news_tl (news_tl (news_tl (news_tl (by k_asm))))) ⟨_, _, _, rfl, by rw [app_nil]⟩
theorem words18 : True := by
  k_with_none
  trivial
def CallsG (w : World) (f : Addr) (vs : List Value) (need ku : Nat) (c : PC) (x dx : Addr) (l d : Int) (rest : List (Addr × Obj)) (l' : Int) (txt : Str) : Prop := ∀ rest' t1 t2, (∀ p ∈ rest, p ∈ rest') → (∀ p ∈ rest', p.1 ≠ dx) → Calls w f vs need ku (pst c x dx l d t1 t2 rest') (TextPost c x dx l' d txt rest')
def CallsGP (w : World) (f : Addr) (vs : List Value) (need ku : Nat) (c : PC) (x dx : Addr) (l d : Int) (rest : List (Addr × Obj)) (l' : Int) (txt : Str) : Prop := ∀ rest' t1 t2, (∀ p ∈ rest, p ∈ rest') → (∀ p ∈ rest', p.1 ≠ dx) → Calls w f vs need ku (pst c x dx l d t1 t2 rest') (PairPost c x dx l' d txt rest')
section
variable {h₀ h : Heap} {L : Addr} {a b q q1 q2 q3 q4 q5 q6 : Addr × Obj} {r : List (Addr × Obj)}
theorem dropT1 (N : News h₀ L h (q :: a :: b :: q1 :: r)) : News h₀ L h (q :: a :: b :: r) := fun p hp => N p (by
  simp only [List.mem_cons] at hp ⊢; rcases hp with h | h | h | h <;> simp [h])
theorem dropT2 (N : News h₀ L h (q :: a :: b :: q1 :: q2 :: r)) : News h₀ L h (q :: a :: b :: r) := dropT1 (dropT1 N)
theorem dropT3 (N : News h₀ L h (q :: a :: b :: q1 :: q2 :: q3 :: r)) : News h₀ L h (q :: a :: b :: r) := dropT1 (dropT2 N)
theorem dropT4 (N : News h₀ L h (q :: a :: b :: q1 :: q2 :: q3 :: q4 :: r)) : News h₀ L h (q :: a :: b :: r) := dropT1 (dropT3 N)
theorem dropT5 (N : News h₀ L h (q :: a :: b :: q1 :: q2 :: q3 :: q4 :: q5 :: r)) : News h₀ L h (q :: a :: b :: r) := dropT1 (dropT4 N)
theorem dropT6 (N : News h₀ L h (q :: a :: b :: q1 :: q2 :: q3 :: q4 :: q5 :: q6 :: r)) : News h₀ L h (q :: a :: b :: r) := dropT1 (dropT5 N)
theorem dropT7 {q7 : Addr × Obj} (N : News h₀ L h (q :: a :: b :: q1 :: q2 :: q3 :: q4 :: q5 :: q6 :: q7 :: r)) : News h₀ L h (q :: a :: b :: r) := dropT1 (dropT6 N)
theorem dropT8 {q7 q8 : Addr × Obj} (N : News h₀ L h (q :: a :: b :: q1 :: q2 :: q3 :: q4 :: q5 :: q6 :: q7 :: q8 :: r)) : News h₀ L h (q :: a :: b :: r) := dropT1 (dropT7 N)
theorem dropT9 {q7 q8 q9 : Addr × Obj} (N : News h₀ L h (q :: a :: b :: q1 :: q2 :: q3 :: q4 :: q5 :: q6 :: q7 :: q8 :: q9 :: r)) : News h₀ L h (q :: a :: b :: r) := dropT1 (dropT8 N)
end
theorem pa_any (w : World) (news : List (Addr × Obj)) (a1 p1 : Addr) (tk1 tk2 n1 n2 : Nat) (hm : (a1, tupOf [.str (Str.ofString "expr") tk1, .str (Str.ofString "call") tk2, .ref p1] n1) ∈ news) (vc : Value) (vs : List Value) (tk : Nat) (qs : List T) (hF : ForestIn news qs vs) (hlen : qs.length ≤ 4) (hp : (p1, tupOf (vc :: vs) n2) ∈ news) :
    Calls w 113 [.ref a1, .int 2 tk] 2 30 news (fun nx r => nx = news ∧ ∃ b, r = .bool b) := by
  have hl := hF.length
  by_cases h2 : vs.length = 2
  · match vs, qs, h2, hF with
    | [v1, v2], [q1, q2], _, hF =>
      simp only [ForestIn, List.cons.injEq] at hF
      obtain ⟨v, vs', ⟨rfl, rfl⟩, hT1, v', vs'', ⟨rfl, rfl⟩, hT2, _⟩ := hF
      intro mean mg mb dp un gd cn cs a ccd cl outer A₀ base h₀ L m s R B F X N T hk hdp hun hret
      exact pa_two w news a1 p1 tk1 tk2 n1 n2 hm vc v1 v2 tk q1 q2 hT1 hT2 hp mean mg mb dp un gd cn cs a ccd cl outer A₀ base h₀ L m s R B F X N T hk hdp hun fun r nx h' tk' F' N' z => hret r nx h' tk' F' N' ⟨z.1, true, z.2⟩
    | [v1, v2], [], _, _ => simp at hl
    | [v1, v2], [q1], _, _ => simp at hl
    | [v1, v2], q1 :: q2 :: q3 :: qs, _, _ => simp at hl
  · intro mean mg mb dp un gd cn cs a ccd cl outer A₀ base h₀ L m s R B F X N T hk hdp hun hret
    exact pa_not w news a1 p1 tk1 tk2 n1 n2 hm vc vs tk (by omega) h2 hp mean mg mb dp un gd cn cs a ccd cl outer A₀ base h₀ L m s R B F X N T hk hdp hun fun r nx h' tk' F' N' z => hret r nx h' tk' F' N' ⟨z.1, false, z.2⟩
theorem words19 : True := by
  k_with "eval Call" => (k_here; (with_reducible show wpAny _ _ (eval (Expr.Call (Expr.Name _ _) _ _ _) _) _ _ _); k_dflt (refine Call_ ?_))
  k_with "compareOp In str ref" => (k_here; k_dflt (first
    | (refine' in_top ?F ?X ?l ?k ?e ?_; (case F => k_asm); (case X => k_asm); (case l => k_is); (case k => (repeat constructor)); (case e => first | decide | exact plain_any (by assumption) _ (by decide)); k_whole)
    | (refine' in_topT ?F ?X ?l ?k ?e ?_; (case F => k_asm); (case X => k_asm); (case l => k_is); (case k => (repeat constructor)); (case e => decide); k_whole)))
  k_with "call ref" => (k_here; (with_reducible show wpAny _ _ (call (Value.ref 21) _) _ _ _); k_dflt (first
    | (refine' Calls.use (is_expr_two _ _ _ _ _ _ _ _ _ ?m2 ?m1) ?k1 ?k2 ?k3 ?k4 ?k5 ?kK ?kd ?ku ?_; (case k1 => k_asm); (case k2 => k_asm); (case k3 => k_asm); (case k4 => k_asm); (case m1 => k_mem); (case m2 => decide); (case k5 => k_asm); (case kK => first | exact rfl | assumption); (case kd => ktr_room); (case ku => ktr_units); intro r9 n9 h9 t9 F9 N9 ho9; (obtain ⟨e1, e2⟩ := ho9; subst e1; subst e2); (try k_sweep))
    | (refine' Calls.use (is_expr_ne _ _ _ _ _ _ _ _ _ _ ?m2 ?m1) ?k1 ?k2 ?k3 ?k4 ?k5 ?kK ?kd ?ku ?_; (case k1 => k_asm); (case k2 => k_asm); (case k3 => k_asm); (case k4 => k_asm); (case m1 => k_mem); (case m2 => first | assumption | decide); (case k5 => k_asm); (case kK => first | exact rfl | assumption); (case kd => ktr_room); (case ku => ktr_units); intro r9 n9 h9 t9 F9 N9 ho9; (obtain ⟨e1, e2⟩ := ho9; subst e1; subst e2); (try k_sweep))
    | (refine' Calls.use (is_expr_expr _ _ _ _ _ _ _ _ _ _ ?m1) ?k1 ?k2 ?k3 ?k4 ?k5 ?kK ?kd ?ku ?_; (case k1 => k_asm); (case k2 => k_asm); (case k3 => k_asm); (case k4 => k_asm); (case m1 => k_mem); (case k5 => k_asm); (case kK => first | exact rfl | assumption); (case kd => ktr_room); (case ku => ktr_units); intro r9 n9 h9 t9 F9 N9 ho9; (obtain ⟨e1, e2⟩ := ho9; subst e1; subst e2); (try k_sweep))))
  k_with "call ref" => (k_here; (with_reducible show wpAny _ _ (call (Value.ref 28) _) _ _ _); k_dflt (first
    | (refine' Calls.use (parts_of_expr _ _ _ _ _ _ _ _ ?m1) ?k1 ?k2 ?k3 ?k4 ?k5 ?kK ?kd ?ku ?_; (case k1 => k_asm); (case k2 => k_asm); (case k3 => k_asm); (case k4 => k_asm); (case m1 => k_mem); (case k5 => k_asm); (case kK => first | exact rfl | assumption); (case kd => ktr_room); (case ku => ktr_units); intro r9 n9 h9 t9 F9 N9 ho9; (obtain ⟨e1, e2⟩ := ho9; subst e1; subst e2); (try k_sweep))))
  k_with "call ref" => (k_here; (with_reducible show wpAny _ _ (call (Value.ref 35) _) _ _ _); k_dflt (first
    | (refine' Calls.use (is_sym_ _ _ _ _ _ _ _ ?m1) ?k1 ?k2 ?k3 ?k4 ?k5 ?kK ?kd ?ku ?_; (case k1 => k_asm); (case k2 => k_asm); (case k3 => k_asm); (case k4 => k_asm); (case m1 => k_mem); (case k5 => k_asm); (case kK => first | exact rfl | assumption); (case kd => ktr_room); (case ku => ktr_units); intro r9 n9 h9 t9 F9 N9 ho9; (obtain ⟨e1, e2⟩ := ho9; subst e1; subst e2); (try k_sweep))))
  k_with "call ref" => (k_here; (with_reducible show wpAny _ _ (call (Value.ref 21) _) _ _ _); k_dflt (first
    | (refine' Calls.use (is_expr_two _ _ _ _ _ _ _ _ _ ?m2 ?m1) ?k1 ?k2 ?k3 ?k4 ?k5 ?kK ?kd ?ku ?_; (case k1 => k_asm); (case k2 => k_asm); (case k3 => k_asm); (case k4 => k_asm); (case m1 => k_mem); (case m2 => decide); (case k5 => k_asm); (case kK => first | exact rfl | assumption); (case kd => ktr_room); (case ku => ktr_units); intro r9 n9 h9 t9 F9 N9 ho9; (obtain ⟨e1, e2⟩ := ho9; subst e1; subst e2); (try k_sweep))
    | (refine' Calls.use (is_expr_ne _ _ _ _ _ _ _ _ _ _ ?m2 ?m1) ?k1 ?k2 ?k3 ?k4 ?k5 ?kK ?kd ?ku ?_; (case k1 => k_asm); (case k2 => k_asm); (case k3 => k_asm); (case k4 => k_asm); (case m1 => k_mem); (case m2 => first | assumption | decide); (case k5 => k_asm); (case kK => first | exact rfl | assumption); (case kd => ktr_room); (case ku => ktr_units); intro r9 n9 h9 t9 F9 N9 ho9; (obtain ⟨e1, e2⟩ := ho9; subst e1; subst e2); (try k_sweep))
    | (refine' Calls.use (is_expr_expr _ _ _ _ _ _ _ _ _ _ ?m1) ?k1 ?k2 ?k3 ?k4 ?k5 ?kK ?kd ?ku ?_; (case k1 => k_asm); (case k2 => k_asm); (case k3 => k_asm); (case k4 => k_asm); (case m1 => k_mem); (case k5 => k_asm); (case kK => first | exact rfl | assumption); (case kd => ktr_room); (case ku => ktr_units); intro r9 n9 h9 t9 F9 N9 ho9; (obtain ⟨e1, e2⟩ := ho9; subst e1; subst e2); (try k_sweep))
    | (refine' Calls.use (is_expr_tree _ _ ?mt _ _ _ ?m1 ?m2) ?k1 ?k2 ?k3 ?k4 ?k5 ?kK ?kd ?ku ?_; (case k1 => k_asm); (case k2 => k_asm); (case k3 => k_asm); (case k4 => k_asm); (case m1 => (first | assumption | exact TreeIn.mono (fun _ h => .tail _ (.tail _ h)) _ _ (by assumption) | exact TreeIn.mono (fun _ h => .tail _ (.tail _ (.tail _ h))) _ _ (by assumption) | exact TreeIn.mono (fun _ h => .tail _ (.tail _ (.tail _ (.tail _ h)))) _ _ (by assumption) | exact TreeIn.mono (fun _ h => .tail _ (.tail _ (.tail _ (.tail _ (.tail _ h))))) _ _ (by assumption))); (case m2 => decide); (case k5 => k_asm); (case kK => first | exact rfl | assumption); (case kd => ktr_room); (case ku => ktr_units); intro r9 n9 h9 t9 F9 N9 ho9; (obtain ⟨e1, e2⟩ := ho9; subst e1; subst e2); (try k_sweep))))
  k_with "call ref" => (k_here; (with_reducible show wpAny _ _ (call (Value.ref 141) _) _ _ _); k_dflt (first
    | (rename AtSpec _ _ => hA9; (refine' Calls.use (hA9 _ _ _ _ _ _ _ _ _ _ _ ?m1 ?m2 ?m3 ?m4 ?m5 ?m6 ?m7) ?k1 ?k2 ?k3 ?k4 ?k5 ?kK ?kd ?ku ?_; (case k1 => k_asm); (case k2 => k_asm); (case k3 => k_asm); (case k4 => (first | k_asm | exact rot1 (by k_asm) | exact rot2 (by k_asm) | exact rot3 (by k_asm) | exact rot4 (by k_asm) | exact rot5 (by k_asm) | exact rot6 (by k_asm) | exact rot7 (by k_asm) | exact rot8 (by k_asm) | exact rot9 (by k_asm))); (case m1 => (first | assumption | exact TreeIn.mono (fun _ h => .tail _ h) _ _ (by assumption) | exact TreeIn.mono (fun _ h => .tail _ (.tail _ h)) _ _ (by assumption) | exact TreeIn.mono (fun _ h => .tail _ (.tail _ (.tail _ h))) _ _ (by assumption) | exact TreeIn.mono (fun _ h => .tail _ (.tail _ (.tail _ (.tail _ h)))) _ _ (by assumption) | exact TreeIn.mono (fun _ h => .tail _ (.tail _ (.tail _ (.tail _ (.tail _ h))))) _ _ (by assumption) | exact TreeIn.mono (fun _ h => .tail _ (.tail _ (.tail _ (.tail _ (.tail _ (.tail _ h)))))) _ _ (by assumption) | exact TreeIn.mono (fun _ h => .tail _ (.tail _ (.tail _ (.tail _ (.tail _ (.tail _ (.tail _ h))))))) _ _ (by assumption) | exact TreeIn.mono (fun _ h => .tail _ (.tail _ (.tail _ (.tail _ (.tail _ (.tail _ (.tail _ (.tail _ h)))))))) _ _ (by assumption) | exact TreeIn.mono (fun _ h => .tail _ (.tail _ (.tail _ (.tail _ (.tail _ (.tail _ (.tail _ (.tail _ (.tail _ h))))))))) _ _ (by assumption))); (case m2 => assumption); (case m3 => assumption); (case m4 => assumption); (case m5 => assumption); (case m6 => (first | assumption | exact all_cons1 (neN (by omega)) (by assumption) | exact all_cons1 (neN (by omega)) (all_cons1 (neN (by omega)) (by assumption)) | exact all_cons1 (neN (by omega)) (all_cons1 (neN (by omega)) (all_cons1 (neN (by omega)) (by assumption))) | exact all_cons1 (neN (by omega)) (all_cons1 (neN (by omega)) (all_cons1 (neN (by omega)) (all_cons1 (neN (by omega)) (by assumption)))) | exact all_cons1 (neN (by omega)) (all_cons1 (neN (by omega)) (all_cons1 (neN (by omega)) (all_cons1 (neN (by omega)) (all_cons1 (neN (by omega)) (by assumption))))) | exact all_cons1 (neN (by omega)) (all_cons1 (neN (by omega)) (all_cons1 (neN (by omega)) (all_cons1 (neN (by omega)) (all_cons1 (neN (by omega)) (all_cons1 (neN (by omega)) (by assumption)))))) | exact all_cons1 (neN (by omega)) (all_cons1 (neN (by omega)) (all_cons1 (neN (by omega)) (all_cons1 (neN (by omega)) (all_cons1 (neN (by omega)) (all_cons1 (neN (by omega)) (all_cons1 (neN (by omega)) (by assumption))))))) | exact all_cons1 (neN (by omega)) (all_cons1 (neN (by omega)) (all_cons1 (neN (by omega)) (all_cons1 (neN (by omega)) (all_cons1 (neN (by omega)) (all_cons1 (neN (by omega)) (all_cons1 (neN (by omega)) (all_cons1 (neN (by omega)) (by assumption)))))))) | exact all_cons1 (neN (by omega)) (all_cons1 (neN (by omega)) (all_cons1 (neN (by omega)) (all_cons1 (neN (by omega)) (all_cons1 (neN (by omega)) (all_cons1 (neN (by omega)) (all_cons1 (neN (by omega)) (all_cons1 (neN (by omega)) (all_cons1 (neN (by omega)) (by assumption))))))))))); (case m7 => decide); (case k5 => k_asm); (case kK => first | exact rfl | assumption); (case kd => ktr_room); (case ku => ktr_units); intro r9 n9 h9 t9 F9 N9 ho9; (obtain ⟨t19, t29, tk9, e1, e2⟩ := ho9; subst e1; subst e2); (try k_sweep)))))
  k_with "compareOp Eq ref ref" => (k_here; k_dflt (first
    | (refine' eq_tups ?N ?u ?m1 ?m2 ?_; (case N => k_asm); (case u => ktr_units); (case m1 => k_mem); (case m2 => k_mem); k_whole)
    | (refine' eq_syms ?N ?u ?m1 ?m2 ?e ?_; (case N => k_asm); (case u => ktr_units); (case m1 => k_mem); (case m2 => k_mem); (case e => first | decide | exact plain_ne (by assumption) _ (by decide)); k_whole)
    | (refine' eq_int_sym ?N ?u ?m1 ?m2 ?_; (case N => k_asm); (case u => ktr_units); (case m1 => k_mem); (case m2 => k_mem); k_whole)))
  k_with "compareOp NotEq ref ref" => (k_here; k_dflt (first
    | (refine' ne_nil0 ?N ?u ?m1 ?m2 ?_; (case N => k_asm); (case u => ktr_units); (case m1 => k_mem); (case m2 => first | exact isTuple_of (by k_asm) (by k_mem)); k_whole)
    | (refine' ne_cons ?N ?u ?m1 ?m2 ?_; (case N => k_asm); (case u => ktr_units); (case m1 => k_mem); (case m2 => first | exact isTuple_of (by k_asm) (by k_mem)); k_whole)))
  k_with "subscriptTail" => (k_here; (with_reducible show wpAny _ _ (subscriptTail _ _ (Value.ref _) (Value.ref _)) _ _ _); (with_unfolding_all refine' slice1 ?F ?N ?m1 ?z ?_ ?hs ?hg; (case F => k_asm); (case N => k_asm); (case m1 => k_mem); (case z => (first | decide | omega | (simp only [List.length_cons, List.length_nil]; omega))); (case hs => exact rfl); (case hg => intro _; exact rfl); k_whole); intro q9 h9 F9 N9 l9; (try k_lt l9); (try k_sweep))
  k_with "subscriptTail" => (k_here; (with_reducible show wpAny _ _ (subscriptTail _ _ (Value.ref _) (Value.int 0 _)) _ _ _); (with_unfolding_all refine' item_first ?N ?m ?_ ?hs; (case N => k_asm); (case m => k_mem); (case hs => exact rfl); k_whole))
  k_with "subscriptTail" => (k_here; (with_reducible show wpAny _ _ (subscriptTail _ _ (Value.ref _) (Value.int 1 _)) _ _ _); (with_unfolding_all refine' item_second ?N ?m ?_ ?hs; (case N => k_asm); (case m => k_mem); (case hs => exact rfl); k_whole))
  k_with "call builtin:len" => (k_here; (with_reducible show wpAny _ _ (call (Value.builtin "len") [Value.ref _]) _ _ _); k_dflt (refine' len_tup ?N ?m ?z ?e ?_; (case N => k_asm); (case m => k_mem); (case z => (first | decide | omega | (simp only [List.length_cons, List.length_nil]; omega))); (case e => first | (simp only [List.length_cons, List.length_nil, Nat.zero_add, Nat.reduceAdd]; exact rfl) | exact rfl); k_whole))
  k_with "eval Name" => (k_here; (with_reducible show wpAny _ _ (eval (Expr.Name _ _) (compEnvC _ _ _ _)) _ _ _); k_dflt (first
    | (refine' comp_local ?n ?v ?_ ?a ?b ?d; (case n => k_asm); (case v => first | assumption | exact rfl); (case a => exact rfl); (case b => exact rfl); (case d => decide); k_whole)
    | (refine' comp_cell ?N ?c ?m ?d ?_ ?a ?b ?e; (case N => k_asm); (case c => exact rfl); (case m => k_mem); (case d => first | assumption | exact rfl); (case a => exact rfl); (case b => exact rfl); (case e => decide); k_whole)
    | (refine' nameG_K ?F ?X ?T ?e ?_ ?g ?k ?x ?d; (case F => k_asm); (case X => k_asm); (case T => k_asm); (case e => k_is); (case g => exact rfl); (case k => exact rfl); (case x => exact rfl); (case d => decide); k_whole)))
  k_with "eval Call Attribute" => (k_here; (with_reducible show wpAny _ _ (eval (Expr.Call (Expr.Attribute _ _ _) _ _ _) _) _ _ _); k_dflt (refine MethodCall_ ?_))
  k_with "eval ListComp" => (k_here; k_dflt ((refine' comp_inv ?c1 ?c2 ?c3 ?c4 ?c5 ?_ ?c6); (case c1 => with_unfolding_all exact rfl); (case c2 => decide); (case c3 => exact rfl); (case c4 => decide); (case c5 => exact rfl); (case c6 => intro _; exact rfl); k_whole))
  k_with "call builtin:str.join" => (k_here; (with_reducible show wpAny _ _ (call (Value.builtin "str.join") [Value.str _ _, Value.ref _]) _ _ _); (with_reducible rename StrsAre _ _ => hS9); k_dflt (refine' join_mine (News.isList ?N ?m) ?i ?k ?_; (case N => k_asm); (case m => k_mem); (case i => simpa using hS9); (case k => assumption)); intro t9 k9)
  k_with "call ref" => (k_here; (with_reducible show wpAny _ _ (call (Value.ref 193) _) _ _ _); k_dflt (first
    | (rename CallsG _ 193 _ _ _ _ _ _ _ _ _ _ _ => hG9; (refine' Calls.use (hG9 _ _ _ ?m1 ?m2) ?k1 ?k2 ?k3 ?k4 ?k5 ?kK ?kd ?ku ?_; (case k1 => k_asm); (case k2 => k_asm); (case k3 => k_asm); (case k4 => (first | k_asm | exact rot1 (by k_asm) | exact rot2 (by k_asm) | exact rot3 (by k_asm) | exact rot4 (by k_asm) | exact rot5 (by k_asm) | exact rot6 (by k_asm) | exact rot7 (by k_asm) | exact rot8 (by k_asm) | exact rot9 (by k_asm))); (case m1 => (first | exact fun _ h => h | exact (fun _ h => .tail _ h) | exact (fun _ h => .tail _ (.tail _ h)) | exact (fun _ h => .tail _ (.tail _ (.tail _ h))) | exact (fun _ h => .tail _ (.tail _ (.tail _ (.tail _ h)))) | exact (fun _ h => .tail _ (.tail _ (.tail _ (.tail _ (.tail _ h))))) | exact (fun _ h => .tail _ (.tail _ (.tail _ (.tail _ (.tail _ (.tail _ h)))))) | exact (fun _ h => .tail _ (.tail _ (.tail _ (.tail _ (.tail _ (.tail _ (.tail _ h))))))) | exact (fun _ h => .tail _ (.tail _ (.tail _ (.tail _ (.tail _ (.tail _ (.tail _ (.tail _ h)))))))) | exact (fun _ h => .tail _ (.tail _ (.tail _ (.tail _ (.tail _ (.tail _ (.tail _ (.tail _ (.tail _ h))))))))))); (case m2 => (first | assumption | exact all_cons1 (neN (by omega)) (by assumption) | exact all_cons1 (neN (by omega)) (all_cons1 (neN (by omega)) (by assumption)) | exact all_cons1 (neN (by omega)) (all_cons1 (neN (by omega)) (all_cons1 (neN (by omega)) (by assumption))) | exact all_cons1 (neN (by omega)) (all_cons1 (neN (by omega)) (all_cons1 (neN (by omega)) (all_cons1 (neN (by omega)) (by assumption)))) | exact all_cons1 (neN (by omega)) (all_cons1 (neN (by omega)) (all_cons1 (neN (by omega)) (all_cons1 (neN (by omega)) (all_cons1 (neN (by omega)) (by assumption))))) | exact all_cons1 (neN (by omega)) (all_cons1 (neN (by omega)) (all_cons1 (neN (by omega)) (all_cons1 (neN (by omega)) (all_cons1 (neN (by omega)) (all_cons1 (neN (by omega)) (by assumption)))))) | exact all_cons1 (neN (by omega)) (all_cons1 (neN (by omega)) (all_cons1 (neN (by omega)) (all_cons1 (neN (by omega)) (all_cons1 (neN (by omega)) (all_cons1 (neN (by omega)) (all_cons1 (neN (by omega)) (by assumption))))))) | exact all_cons1 (neN (by omega)) (all_cons1 (neN (by omega)) (all_cons1 (neN (by omega)) (all_cons1 (neN (by omega)) (all_cons1 (neN (by omega)) (all_cons1 (neN (by omega)) (all_cons1 (neN (by omega)) (all_cons1 (neN (by omega)) (by assumption)))))))) | exact all_cons1 (neN (by omega)) (all_cons1 (neN (by omega)) (all_cons1 (neN (by omega)) (all_cons1 (neN (by omega)) (all_cons1 (neN (by omega)) (all_cons1 (neN (by omega)) (all_cons1 (neN (by omega)) (all_cons1 (neN (by omega)) (all_cons1 (neN (by omega)) (by assumption))))))))))); (case k5 => k_asm); (case kK => first | exact rfl | assumption); (case kd => ktr_room); (case ku => ktr_units); intro r9 n9 h9 t9 F9 N9 ho9; (obtain ⟨t19, t29, tk9, e1, e2⟩ := ho9; subst e1; subst e2); (try k_sweep)))))
  k_with "call ref" => (k_here; (with_reducible show wpAny _ _ (call (Value.ref 158) _) _ _ _); k_dflt (first
    | (rename CallsGP _ 158 _ _ _ _ _ _ _ _ _ _ _ => hG9; (refine' Calls.use (hG9 _ _ _ ?m1 ?m2) ?k1 ?k2 ?k3 ?k4 ?k5 ?kK ?kd ?ku ?_; (case k1 => k_asm); (case k2 => k_asm); (case k3 => k_asm); (case k4 => (first | k_asm | exact rot1 (by k_asm) | exact rot2 (by k_asm) | exact rot3 (by k_asm) | exact rot4 (by k_asm) | exact rot5 (by k_asm) | exact rot6 (by k_asm) | exact rot7 (by k_asm) | exact rot8 (by k_asm) | exact rot9 (by k_asm))); (case m1 => (first | exact fun _ h => h | exact (fun _ h => .tail _ h) | exact (fun _ h => .tail _ (.tail _ h)) | exact (fun _ h => .tail _ (.tail _ (.tail _ h))) | exact (fun _ h => .tail _ (.tail _ (.tail _ (.tail _ h)))) | exact (fun _ h => .tail _ (.tail _ (.tail _ (.tail _ (.tail _ h))))) | exact (fun _ h => .tail _ (.tail _ (.tail _ (.tail _ (.tail _ (.tail _ h)))))) | exact (fun _ h => .tail _ (.tail _ (.tail _ (.tail _ (.tail _ (.tail _ (.tail _ h))))))) | exact (fun _ h => .tail _ (.tail _ (.tail _ (.tail _ (.tail _ (.tail _ (.tail _ (.tail _ h)))))))) | exact (fun _ h => .tail _ (.tail _ (.tail _ (.tail _ (.tail _ (.tail _ (.tail _ (.tail _ (.tail _ h))))))))))); (case m2 => (first | assumption | exact all_cons1 (neN (by omega)) (by assumption) | exact all_cons1 (neN (by omega)) (all_cons1 (neN (by omega)) (by assumption)) | exact all_cons1 (neN (by omega)) (all_cons1 (neN (by omega)) (all_cons1 (neN (by omega)) (by assumption))) | exact all_cons1 (neN (by omega)) (all_cons1 (neN (by omega)) (all_cons1 (neN (by omega)) (all_cons1 (neN (by omega)) (by assumption)))) | exact all_cons1 (neN (by omega)) (all_cons1 (neN (by omega)) (all_cons1 (neN (by omega)) (all_cons1 (neN (by omega)) (all_cons1 (neN (by omega)) (by assumption))))) | exact all_cons1 (neN (by omega)) (all_cons1 (neN (by omega)) (all_cons1 (neN (by omega)) (all_cons1 (neN (by omega)) (all_cons1 (neN (by omega)) (all_cons1 (neN (by omega)) (by assumption)))))) | exact all_cons1 (neN (by omega)) (all_cons1 (neN (by omega)) (all_cons1 (neN (by omega)) (all_cons1 (neN (by omega)) (all_cons1 (neN (by omega)) (all_cons1 (neN (by omega)) (all_cons1 (neN (by omega)) (by assumption))))))) | exact all_cons1 (neN (by omega)) (all_cons1 (neN (by omega)) (all_cons1 (neN (by omega)) (all_cons1 (neN (by omega)) (all_cons1 (neN (by omega)) (all_cons1 (neN (by omega)) (all_cons1 (neN (by omega)) (all_cons1 (neN (by omega)) (by assumption)))))))) | exact all_cons1 (neN (by omega)) (all_cons1 (neN (by omega)) (all_cons1 (neN (by omega)) (all_cons1 (neN (by omega)) (all_cons1 (neN (by omega)) (all_cons1 (neN (by omega)) (all_cons1 (neN (by omega)) (all_cons1 (neN (by omega)) (all_cons1 (neN (by omega)) (by assumption))))))))))); (case k5 => k_asm); (case kK => first | exact rfl | assumption); (case kd => ktr_room); (case ku => ktr_units); intro r9 n9 h9 t9 F9 N9 ho9; (obtain ⟨t19, t29, q9, lev9, tk19, tk29, e1, e2, hl9, hq9⟩ := ho9; subst e1; subst e2); (try k_sweep)))))
  k_with "call ref" => (k_here; (with_reducible show wpAny _ _ (call (Value.ref 113) _) _ _ _); k_dflt (first
    | (refine' Calls.use (pa_any _ _ _ _ _ _ _ _ ?m1 _ _ _ _ ?m3 ?m4 ?m2) ?k1 ?k2 ?k3 ?k4 ?k5 ?kK ?kd ?ku ?_; (case k1 => k_asm); (case k2 => k_asm); (case k3 => k_asm); (case k4 => k_asm); (case m1 => k_mem); (case m2 => k_mem); (case m3 => (first | assumption | exact ForestIn.mono (fun _ h => .tail _ (.tail _ h)) _ _ (by assumption) | exact ForestIn.mono (fun _ h => .tail _ (.tail _ (.tail _ h))) _ _ (by assumption) | exact ForestIn.mono (fun _ h => .tail _ (.tail _ (.tail _ (.tail _ h)))) _ _ (by assumption))); (case m4 => assumption); (case k5 => k_asm); (case kK => first | exact rfl | assumption); (case kd => ktr_room); (case ku => ktr_units); intro r9 n9 h9 t9 F9 N9 ho9; (obtain ⟨e1, b9, e2⟩ := ho9; subst e1; subst e2); (try k_sweep))))
  k_with "call ref" => (k_here; (with_reducible show wpAny _ _ (call (Value.ref 165) _) _ _ _); k_dflt (first
    | (refine' Calls.use (is_between_ _ _ _ _ _ ?m1 _ _ _ _ _ ?m2) ?k1 ?k2 ?k3 ?k4 ?k5 ?kK ?kd ?ku ?_; (case k1 => k_asm); (case k2 => k_asm); (case k3 => k_asm); (case k4 => k_asm); (case m1 => k_mem); (case m2 => k_mem); (case k5 => k_asm); (case kK => first | exact rfl | assumption); (case kd => ktr_room); (case ku => ktr_units); intro r9 n9 h9 t9 F9 N9 ho9; (obtain ⟨e1, e2⟩ := ho9; subst e1; subst e2); (try k_sweep))))
  trivial
theorem call_ (w : World) (c : PC) (x dx : Addr) (rest : List (Addr × Obj)) (l d : Nat) (t1 t2 : Nat) (hl : l ≤ 10000) (hd8 : d ≤ 80) (hne : x ≠ dx) (hall : ∀ p ∈ rest, p.1 ≠ dx) (a1 p1 : Addr) (tk1 tk2 n1 n2 : Nat) (hm : (a1, tupOf [.str (Str.ofString "expr") tk1, .str (Str.ofString "call") tk2, .ref p1] n1) ∈ rest) (b n3 tk3 tk4 : Nat) (vs : List Value) (qs : List T) (hp : (p1, tupOf (.ref b :: vs) n2) ∈ rest) (hb1 : (b, tupOf [.str (Str.ofString "sym") tk3, .str (Str.ofString "f") tk4] n3) ∈ rest) (hF : ForestIn rest qs vs) (hlen : qs.length ≤ 4) (need ku : Nat) (hnd : 4 ≤ need) (hku : 40 ≤ ku) (l' : Int) (tx : Str) (hb : CallsG w 193 [.ref x, .ref a1] need ku c x dx l d rest l' tx) :
  Calls w 158 [.ref x, .ref a1] (need + 1) (ku + 4) (pst c x dx l d t1 t2 rest) (PairPost c x dx l' d tx rest) := by
  unfold Calls; k_fill
  intro mean mg mb dp un gd cn cs a ccd cl outer A₀ base h₀ L m st R B F X N T hk hdp hun hret
  k_dflt (refine' code_defC ?k1 ?k2 ?k3 ?k4 ?k5 ?kA ?kF ?kK ?k6 ?k7 ?k8 ?k9 ?kB ?kD ?_ ?c2 ?c3 ?c4; (case kA => exact rfl); (case kF => exact rfl); (case kK => assumption); (case k1 => k_asm); (case k2 => k_asm); (case k3 => k_asm); (case k4 => k_asm); (case k5 => k_asm); (case k6 => k_is); (case k7 => k_is); (case k8 => ktr_room); (case k9 => exact BindsTo.of_eq rfl); (case kB => exact rfl); (case kD => decide +kernel); (case c2 => exact rfl); (case c3 => exact rfl); (case c4 => exact rfl); k_whole; intro g' L' h' tk' cells' FG' F' N' Y' B' X' T' l1; (try k_lt l1); (have hY := CellsAre.one Y'); (obtain ⟨oc, hE, dc⟩ := hY); subst hE; (try simp only [List.cons_append, List.nil_append] at N'); (try dsimp only); (try k_fold))
  k_steps
  all_goals exact hret _ _ _ _ (by k_asm) (by first | k_asm | exact dropT1 (by k_asm) | exact dropT2 (by k_asm) | exact dropT3 (by k_asm) | exact dropT4 (by k_asm) | exact dropT5 (by k_asm) | exact dropT6 (by k_asm) | exact dropT7 (by k_asm) | exact dropT8 (by k_asm) | exact dropT9 (by k_asm)) ⟨_, _, _, _, _, _, rfl, rfl, by decide, neN (by omega)⟩
theorem words20 : True := by
  k_with_none
  trivial
def NonePost (c : PC) (x dx : Addr) (l d : Int) (rest nx : List (Addr × Obj)) (r : Value) : Prop := ∃ t1 t2, nx = pst c x dx l d t1 t2 rest ∧ r = .none
theorem words21 : True := by
  k_with "eval Call" => (k_here; (with_reducible show wpAny _ _ (eval (Expr.Call (Expr.Name _ _) _ _ _) _) _ _ _); k_dflt (refine Call_ ?_))
  k_with "compareOp In str ref" => (k_here; k_dflt (first
    | (refine' in_top ?F ?X ?l ?k ?e ?_; (case F => k_asm); (case X => k_asm); (case l => k_is); (case k => (repeat constructor)); (case e => first | decide | exact plain_any (by assumption) _ (by decide)); k_whole)
    | (refine' in_topT ?F ?X ?l ?k ?e ?_; (case F => k_asm); (case X => k_asm); (case l => k_is); (case k => (repeat constructor)); (case e => decide); k_whole)))
  k_with "call ref" => (k_here; (with_reducible show wpAny _ _ (call (Value.ref 21) _) _ _ _); k_dflt (first
    | (refine' Calls.use (is_expr_two _ _ _ _ _ _ _ _ _ ?m2 ?m1) ?k1 ?k2 ?k3 ?k4 ?k5 ?kK ?kd ?ku ?_; (case k1 => k_asm); (case k2 => k_asm); (case k3 => k_asm); (case k4 => k_asm); (case m1 => k_mem); (case m2 => decide); (case k5 => k_asm); (case kK => first | exact rfl | assumption); (case kd => ktr_room); (case ku => ktr_units); intro r9 n9 h9 t9 F9 N9 ho9; (obtain ⟨e1, e2⟩ := ho9; subst e1; subst e2); (try k_sweep))
    | (refine' Calls.use (is_expr_ne _ _ _ _ _ _ _ _ _ _ ?m2 ?m1) ?k1 ?k2 ?k3 ?k4 ?k5 ?kK ?kd ?ku ?_; (case k1 => k_asm); (case k2 => k_asm); (case k3 => k_asm); (case k4 => k_asm); (case m1 => k_mem); (case m2 => first | assumption | decide); (case k5 => k_asm); (case kK => first | exact rfl | assumption); (case kd => ktr_room); (case ku => ktr_units); intro r9 n9 h9 t9 F9 N9 ho9; (obtain ⟨e1, e2⟩ := ho9; subst e1; subst e2); (try k_sweep))
    | (refine' Calls.use (is_expr_expr _ _ _ _ _ _ _ _ _ _ ?m1) ?k1 ?k2 ?k3 ?k4 ?k5 ?kK ?kd ?ku ?_; (case k1 => k_asm); (case k2 => k_asm); (case k3 => k_asm); (case k4 => k_asm); (case m1 => k_mem); (case k5 => k_asm); (case kK => first | exact rfl | assumption); (case kd => ktr_room); (case ku => ktr_units); intro r9 n9 h9 t9 F9 N9 ho9; (obtain ⟨e1, e2⟩ := ho9; subst e1; subst e2); (try k_sweep))))
  k_with "call ref" => (k_here; (with_reducible show wpAny _ _ (call (Value.ref 28) _) _ _ _); k_dflt (first
    | (refine' Calls.use (parts_of_expr _ _ _ _ _ _ _ _ ?m1) ?k1 ?k2 ?k3 ?k4 ?k5 ?kK ?kd ?ku ?_; (case k1 => k_asm); (case k2 => k_asm); (case k3 => k_asm); (case k4 => k_asm); (case m1 => k_mem); (case k5 => k_asm); (case kK => first | exact rfl | assumption); (case kd => ktr_room); (case ku => ktr_units); intro r9 n9 h9 t9 F9 N9 ho9; (obtain ⟨e1, e2⟩ := ho9; subst e1; subst e2); (try k_sweep))))
  k_with "call ref" => (k_here; (with_reducible show wpAny _ _ (call (Value.ref 35) _) _ _ _); k_dflt (first
    | (refine' Calls.use (is_sym_ _ _ _ _ _ _ _ ?m1) ?k1 ?k2 ?k3 ?k4 ?k5 ?kK ?kd ?ku ?_; (case k1 => k_asm); (case k2 => k_asm); (case k3 => k_asm); (case k4 => k_asm); (case m1 => k_mem); (case k5 => k_asm); (case kK => first | exact rfl | assumption); (case kd => ktr_room); (case ku => ktr_units); intro r9 n9 h9 t9 F9 N9 ho9; (obtain ⟨e1, e2⟩ := ho9; subst e1; subst e2); (try k_sweep))))
  k_with "call ref" => (k_here; (with_reducible show wpAny _ _ (call (Value.ref 21) _) _ _ _); k_dflt (first
    | (refine' Calls.use (is_expr_two _ _ _ _ _ _ _ _ _ ?m2 ?m1) ?k1 ?k2 ?k3 ?k4 ?k5 ?kK ?kd ?ku ?_; (case k1 => k_asm); (case k2 => k_asm); (case k3 => k_asm); (case k4 => k_asm); (case m1 => k_mem); (case m2 => decide); (case k5 => k_asm); (case kK => first | exact rfl | assumption); (case kd => ktr_room); (case ku => ktr_units); intro r9 n9 h9 t9 F9 N9 ho9; (obtain ⟨e1, e2⟩ := ho9; subst e1; subst e2); (try k_sweep))
    | (refine' Calls.use (is_expr_ne _ _ _ _ _ _ _ _ _ _ ?m2 ?m1) ?k1 ?k2 ?k3 ?k4 ?k5 ?kK ?kd ?ku ?_; (case k1 => k_asm); (case k2 => k_asm); (case k3 => k_asm); (case k4 => k_asm); (case m1 => k_mem); (case m2 => first | assumption | decide); (case k5 => k_asm); (case kK => first | exact rfl | assumption); (case kd => ktr_room); (case ku => ktr_units); intro r9 n9 h9 t9 F9 N9 ho9; (obtain ⟨e1, e2⟩ := ho9; subst e1; subst e2); (try k_sweep))
    | (refine' Calls.use (is_expr_expr _ _ _ _ _ _ _ _ _ _ ?m1) ?k1 ?k2 ?k3 ?k4 ?k5 ?kK ?kd ?ku ?_; (case k1 => k_asm); (case k2 => k_asm); (case k3 => k_asm); (case k4 => k_asm); (case m1 => k_mem); (case k5 => k_asm); (case kK => first | exact rfl | assumption); (case kd => ktr_room); (case ku => ktr_units); intro r9 n9 h9 t9 F9 N9 ho9; (obtain ⟨e1, e2⟩ := ho9; subst e1; subst e2); (try k_sweep))
    | (refine' Calls.use (is_expr_tree _ _ ?mt _ _ _ ?m1 ?m2) ?k1 ?k2 ?k3 ?k4 ?k5 ?kK ?kd ?ku ?_; (case k1 => k_asm); (case k2 => k_asm); (case k3 => k_asm); (case k4 => k_asm); (case m1 => (first | assumption | exact TreeIn.mono (fun _ h => .tail _ (.tail _ h)) _ _ (by assumption) | exact TreeIn.mono (fun _ h => .tail _ (.tail _ (.tail _ h))) _ _ (by assumption) | exact TreeIn.mono (fun _ h => .tail _ (.tail _ (.tail _ (.tail _ h)))) _ _ (by assumption) | exact TreeIn.mono (fun _ h => .tail _ (.tail _ (.tail _ (.tail _ (.tail _ h))))) _ _ (by assumption))); (case m2 => decide); (case k5 => k_asm); (case kK => first | exact rfl | assumption); (case kd => ktr_room); (case ku => ktr_units); intro r9 n9 h9 t9 F9 N9 ho9; (obtain ⟨e1, e2⟩ := ho9; subst e1; subst e2); (try k_sweep))))
  k_with "call ref" => (k_here; (with_reducible show wpAny _ _ (call (Value.ref 141) _) _ _ _); k_dflt (first
    | (rename AtSpec _ _ => hA9; (refine' Calls.use (hA9 _ _ _ _ _ _ _ _ _ _ _ ?m1 ?m2 ?m3 ?m4 ?m5 ?m6 ?m7) ?k1 ?k2 ?k3 ?k4 ?k5 ?kK ?kd ?ku ?_; (case k1 => k_asm); (case k2 => k_asm); (case k3 => k_asm); (case k4 => (first | k_asm | exact rot1 (by k_asm) | exact rot2 (by k_asm) | exact rot3 (by k_asm) | exact rot4 (by k_asm) | exact rot5 (by k_asm) | exact rot6 (by k_asm) | exact rot7 (by k_asm) | exact rot8 (by k_asm) | exact rot9 (by k_asm))); (case m1 => (first | assumption | exact TreeIn.mono (fun _ h => .tail _ h) _ _ (by assumption) | exact TreeIn.mono (fun _ h => .tail _ (.tail _ h)) _ _ (by assumption) | exact TreeIn.mono (fun _ h => .tail _ (.tail _ (.tail _ h))) _ _ (by assumption) | exact TreeIn.mono (fun _ h => .tail _ (.tail _ (.tail _ (.tail _ h)))) _ _ (by assumption) | exact TreeIn.mono (fun _ h => .tail _ (.tail _ (.tail _ (.tail _ (.tail _ h))))) _ _ (by assumption) | exact TreeIn.mono (fun _ h => .tail _ (.tail _ (.tail _ (.tail _ (.tail _ (.tail _ h)))))) _ _ (by assumption) | exact TreeIn.mono (fun _ h => .tail _ (.tail _ (.tail _ (.tail _ (.tail _ (.tail _ (.tail _ h))))))) _ _ (by assumption) | exact TreeIn.mono (fun _ h => .tail _ (.tail _ (.tail _ (.tail _ (.tail _ (.tail _ (.tail _ (.tail _ h)))))))) _ _ (by assumption) | exact TreeIn.mono (fun _ h => .tail _ (.tail _ (.tail _ (.tail _ (.tail _ (.tail _ (.tail _ (.tail _ (.tail _ h))))))))) _ _ (by assumption))); (case m2 => assumption); (case m3 => assumption); (case m4 => assumption); (case m5 => assumption); (case m6 => (first | assumption | exact all_cons1 (neN (by omega)) (by assumption) | exact all_cons1 (neN (by omega)) (all_cons1 (neN (by omega)) (by assumption)) | exact all_cons1 (neN (by omega)) (all_cons1 (neN (by omega)) (all_cons1 (neN (by omega)) (by assumption))) | exact all_cons1 (neN (by omega)) (all_cons1 (neN (by omega)) (all_cons1 (neN (by omega)) (all_cons1 (neN (by omega)) (by assumption)))) | exact all_cons1 (neN (by omega)) (all_cons1 (neN (by omega)) (all_cons1 (neN (by omega)) (all_cons1 (neN (by omega)) (all_cons1 (neN (by omega)) (by assumption))))) | exact all_cons1 (neN (by omega)) (all_cons1 (neN (by omega)) (all_cons1 (neN (by omega)) (all_cons1 (neN (by omega)) (all_cons1 (neN (by omega)) (all_cons1 (neN (by omega)) (by assumption)))))) | exact all_cons1 (neN (by omega)) (all_cons1 (neN (by omega)) (all_cons1 (neN (by omega)) (all_cons1 (neN (by omega)) (all_cons1 (neN (by omega)) (all_cons1 (neN (by omega)) (all_cons1 (neN (by omega)) (by assumption))))))) | exact all_cons1 (neN (by omega)) (all_cons1 (neN (by omega)) (all_cons1 (neN (by omega)) (all_cons1 (neN (by omega)) (all_cons1 (neN (by omega)) (all_cons1 (neN (by omega)) (all_cons1 (neN (by omega)) (all_cons1 (neN (by omega)) (by assumption)))))))) | exact all_cons1 (neN (by omega)) (all_cons1 (neN (by omega)) (all_cons1 (neN (by omega)) (all_cons1 (neN (by omega)) (all_cons1 (neN (by omega)) (all_cons1 (neN (by omega)) (all_cons1 (neN (by omega)) (all_cons1 (neN (by omega)) (all_cons1 (neN (by omega)) (by assumption))))))))))); (case m7 => decide); (case k5 => k_asm); (case kK => first | exact rfl | assumption); (case kd => ktr_room); (case ku => ktr_units); intro r9 n9 h9 t9 F9 N9 ho9; (obtain ⟨t19, t29, tk9, e1, e2⟩ := ho9; subst e1; subst e2); (try k_sweep)))))
  k_with "compareOp Eq ref ref" => (k_here; k_dflt (first
    | (refine' eq_tups ?N ?u ?m1 ?m2 ?_; (case N => k_asm); (case u => ktr_units); (case m1 => k_mem); (case m2 => k_mem); k_whole)
    | (refine' eq_syms ?N ?u ?m1 ?m2 ?e ?_; (case N => k_asm); (case u => ktr_units); (case m1 => k_mem); (case m2 => k_mem); (case e => first | decide | exact plain_ne (by assumption) _ (by decide)); k_whole)
    | (refine' eq_int_sym ?N ?u ?m1 ?m2 ?_; (case N => k_asm); (case u => ktr_units); (case m1 => k_mem); (case m2 => k_mem); k_whole)))
  k_with "compareOp NotEq ref ref" => (k_here; k_dflt (first
    | (refine' ne_nil0 ?N ?u ?m1 ?m2 ?_; (case N => k_asm); (case u => ktr_units); (case m1 => k_mem); (case m2 => first | exact isTuple_of (by k_asm) (by k_mem)); k_whole)
    | (refine' ne_cons ?N ?u ?m1 ?m2 ?_; (case N => k_asm); (case u => ktr_units); (case m1 => k_mem); (case m2 => first | exact isTuple_of (by k_asm) (by k_mem)); k_whole)))
  k_with "subscriptTail" => (k_here; (with_reducible show wpAny _ _ (subscriptTail _ _ (Value.ref _) (Value.ref _)) _ _ _); (with_unfolding_all refine' slice1 ?F ?N ?m1 ?z ?_ ?hs ?hg; (case F => k_asm); (case N => k_asm); (case m1 => k_mem); (case z => (first | decide | omega | (simp only [List.length_cons, List.length_nil]; omega))); (case hs => exact rfl); (case hg => intro _; exact rfl); k_whole); intro q9 h9 F9 N9 l9; (try k_lt l9); (try k_sweep))
  k_with "subscriptTail" => (k_here; (with_reducible show wpAny _ _ (subscriptTail _ _ (Value.ref _) (Value.int 0 _)) _ _ _); (with_unfolding_all refine' item_first ?N ?m ?_ ?hs; (case N => k_asm); (case m => k_mem); (case hs => exact rfl); k_whole))
  k_with "subscriptTail" => (k_here; (with_reducible show wpAny _ _ (subscriptTail _ _ (Value.ref _) (Value.int 1 _)) _ _ _); (with_unfolding_all refine' item_second ?N ?m ?_ ?hs; (case N => k_asm); (case m => k_mem); (case hs => exact rfl); k_whole))
  k_with "call builtin:len" => (k_here; (with_reducible show wpAny _ _ (call (Value.builtin "len") [Value.ref _]) _ _ _); k_dflt (refine' len_tup ?N ?m ?z ?e ?_; (case N => k_asm); (case m => k_mem); (case z => (first | decide | omega | (simp only [List.length_cons, List.length_nil]; omega))); (case e => first | (simp only [List.length_cons, List.length_nil, Nat.zero_add, Nat.reduceAdd]; exact rfl) | exact rfl); k_whole))
  k_with "eval Name" => (k_here; (with_reducible show wpAny _ _ (eval (Expr.Name _ _) (compEnvC _ _ _ _)) _ _ _); k_dflt (first
    | (refine' comp_local ?n ?v ?_ ?a ?b ?d; (case n => k_asm); (case v => first | assumption | exact rfl); (case a => exact rfl); (case b => exact rfl); (case d => decide); k_whole)
    | (refine' comp_cell ?N ?c ?m ?d ?_ ?a ?b ?e; (case N => k_asm); (case c => exact rfl); (case m => k_mem); (case d => first | assumption | exact rfl); (case a => exact rfl); (case b => exact rfl); (case e => decide); k_whole)
    | (refine' nameG_K ?F ?X ?T ?e ?_ ?g ?k ?x ?d; (case F => k_asm); (case X => k_asm); (case T => k_asm); (case e => k_is); (case g => exact rfl); (case k => exact rfl); (case x => exact rfl); (case d => decide); k_whole)))
  k_with "eval Call Attribute" => (k_here; (with_reducible show wpAny _ _ (eval (Expr.Call (Expr.Attribute _ _ _) _ _ _) _) _ _ _); k_dflt (refine MethodCall_ ?_))
  k_with "eval ListComp" => (k_here; k_dflt ((refine' comp_inv ?c1 ?c2 ?c3 ?c4 ?c5 ?_ ?c6); (case c1 => with_unfolding_all exact rfl); (case c2 => decide); (case c3 => exact rfl); (case c4 => decide); (case c5 => exact rfl); (case c6 => intro _; exact rfl); k_whole))
  k_with "call builtin:str.join" => (k_here; (with_reducible show wpAny _ _ (call (Value.builtin "str.join") [Value.str _ _, Value.ref _]) _ _ _); (with_reducible rename StrsAre _ _ => hS9); k_dflt (refine' join_mine (News.isList ?N ?m) ?i ?k ?_; (case N => k_asm); (case m => k_mem); (case i => simpa using hS9); (case k => assumption)); intro t9 k9)
  k_with "call ref" => (k_here; (with_reducible show wpAny _ _ (call (Value.ref 198) _) _ _ _); k_dflt (first
    | (rename ListedSpec _ _ => hL9; (refine' Calls.use (hL9 _ _ _ _ _ _ _ _ _ _ _ ?m1 ?m2 ?m3 ?m4 ?m5 ?m6 ?m7 ?m8) ?k1 ?k2 ?k3 ?k4 ?k5 ?kK ?kd ?ku ?_; (case k1 => k_asm); (case k2 => k_asm); (case k3 => k_asm); (case k4 => (first | k_asm | exact rot1 (by k_asm) | exact rot2 (by k_asm) | exact rot3 (by k_asm) | exact rot4 (by k_asm) | exact rot5 (by k_asm) | exact rot6 (by k_asm) | exact rot7 (by k_asm) | exact rot8 (by k_asm) | exact rot9 (by k_asm))); (case m1 => k_mem); (case m2 => (first | assumption | exact ForestIn.mono (fun _ h => .tail _ h) _ _ (by assumption) | exact ForestIn.mono (fun _ h => .tail _ (.tail _ h)) _ _ (by assumption) | exact ForestIn.mono (fun _ h => .tail _ (.tail _ (.tail _ h))) _ _ (by assumption) | exact ForestIn.mono (fun _ h => .tail _ (.tail _ (.tail _ (.tail _ h)))) _ _ (by assumption) | exact ForestIn.mono (fun _ h => .tail _ (.tail _ (.tail _ (.tail _ (.tail _ h))))) _ _ (by assumption) | exact ForestIn.mono (fun _ h => .tail _ (.tail _ (.tail _ (.tail _ (.tail _ (.tail _ h)))))) _ _ (by assumption) | exact ForestIn.mono (fun _ h => .tail _ (.tail _ (.tail _ (.tail _ (.tail _ (.tail _ (.tail _ h))))))) _ _ (by assumption) | exact ForestIn.mono (fun _ h => .tail _ (.tail _ (.tail _ (.tail _ (.tail _ (.tail _ (.tail _ (.tail _ h)))))))) _ _ (by assumption) | exact ForestIn.mono (fun _ h => .tail _ (.tail _ (.tail _ (.tail _ (.tail _ (.tail _ (.tail _ (.tail _ (.tail _ h))))))))) _ _ (by assumption))); (case m3 => assumption); (case m4 => assumption); (case m5 => assumption); (case m6 => assumption); (case m7 => assumption); (case m8 => (first | assumption | exact all_cons1 (neN (by omega)) (by assumption) | exact all_cons1 (neN (by omega)) (all_cons1 (neN (by omega)) (by assumption)) | exact all_cons1 (neN (by omega)) (all_cons1 (neN (by omega)) (all_cons1 (neN (by omega)) (by assumption))) | exact all_cons1 (neN (by omega)) (all_cons1 (neN (by omega)) (all_cons1 (neN (by omega)) (all_cons1 (neN (by omega)) (by assumption)))) | exact all_cons1 (neN (by omega)) (all_cons1 (neN (by omega)) (all_cons1 (neN (by omega)) (all_cons1 (neN (by omega)) (all_cons1 (neN (by omega)) (by assumption))))) | exact all_cons1 (neN (by omega)) (all_cons1 (neN (by omega)) (all_cons1 (neN (by omega)) (all_cons1 (neN (by omega)) (all_cons1 (neN (by omega)) (all_cons1 (neN (by omega)) (by assumption)))))) | exact all_cons1 (neN (by omega)) (all_cons1 (neN (by omega)) (all_cons1 (neN (by omega)) (all_cons1 (neN (by omega)) (all_cons1 (neN (by omega)) (all_cons1 (neN (by omega)) (all_cons1 (neN (by omega)) (by assumption))))))) | exact all_cons1 (neN (by omega)) (all_cons1 (neN (by omega)) (all_cons1 (neN (by omega)) (all_cons1 (neN (by omega)) (all_cons1 (neN (by omega)) (all_cons1 (neN (by omega)) (all_cons1 (neN (by omega)) (all_cons1 (neN (by omega)) (by assumption)))))))) | exact all_cons1 (neN (by omega)) (all_cons1 (neN (by omega)) (all_cons1 (neN (by omega)) (all_cons1 (neN (by omega)) (all_cons1 (neN (by omega)) (all_cons1 (neN (by omega)) (all_cons1 (neN (by omega)) (all_cons1 (neN (by omega)) (all_cons1 (neN (by omega)) (by assumption))))))))))); (case k5 => k_asm); (case kK => first | exact rfl | assumption); (case kd => ktr_room); (case ku => ktr_units); intro r9 n9 h9 t9 F9 N9 ho9; (obtain ⟨t19, t29, tk9, e1, e2⟩ := ho9; subst e1; subst e2); (try k_sweep)))))
  trivial
theorem joined_dot (w : World) (c : PC) (x dx : Addr) (rest : List (Addr × Obj)) (l d : Int) (t1 t2 : Nat) (hne : x ≠ dx) (hall : ∀ p ∈ rest, p.1 ≠ dx) (a1 p1 : Addr) (tk1 tk2 n1 n2 : Nat) (hm : (a1, tupOf [.str (Str.ofString "expr") tk1, .str (Str.ofString ".") tk2, .ref p1] n1) ∈ rest) (tk : Nat) :
  Calls w 219 [.ref x, .str (Str.ofString ".") tk, .ref a1] 2 30 (pst c x dx l d t1 t2 rest) (NonePost c x dx l d rest) := by
  unfold Calls; k_fill
  intro mean mg mb dp un gd cn cs a ccd cl outer A₀ base h₀ L m st R B F X N T hk hdp hun hret
  k_dflt ktr_enter
  k_steps
  exact hret _ _ _ _ (by k_asm) (by first | k_asm | exact drop1 (by k_asm) | exact drop2 (by k_asm) | exact drop3 (by k_asm) | exact drop4 (by k_asm) | exact drop5 (by k_asm) | exact drop6 (by k_asm) | exact drop7 (by k_asm) | exact drop8 (by k_asm) | exact drop9 (by k_asm) | exact news_tl (by k_asm) | exact news_tl (news_tl (by k_asm)) | exact news_tl (news_tl (news_tl (by k_asm))) | exact news_tl (news_tl (news_tl (news_tl (by k_asm))))) ⟨_, _, rfl, rfl⟩
theorem joined_ref (w : World) (c : PC) (x dx : Addr) (rest : List (Addr × Obj)) (l d : Int) (t1 t2 : Nat) (hne : x ≠ dx) (hall : ∀ p ∈ rest, p.1 ≠ dx) (a1 p1 : Addr) (tk1 tk2 n1 n2 : Nat) (hm : (a1, tupOf [.str (Str.ofString "expr") tk1, .str (Str.ofString "ref") tk2, .ref p1] n1) ∈ rest) (tk : Nat) :
  Calls w 219 [.ref x, .str (Str.ofString "ref") tk, .ref a1] 2 30 (pst c x dx l d t1 t2 rest) (NonePost c x dx l d rest) := by
  unfold Calls; k_fill
  intro mean mg mb dp un gd cn cs a ccd cl outer A₀ base h₀ L m st R B F X N T hk hdp hun hret
  k_dflt ktr_enter
  k_steps
  exact hret _ _ _ _ (by k_asm) (by first | k_asm | exact drop1 (by k_asm) | exact drop2 (by k_asm) | exact drop3 (by k_asm) | exact drop4 (by k_asm) | exact drop5 (by k_asm) | exact drop6 (by k_asm) | exact drop7 (by k_asm) | exact drop8 (by k_asm) | exact drop9 (by k_asm) | exact news_tl (by k_asm) | exact news_tl (news_tl (by k_asm)) | exact news_tl (news_tl (news_tl (by k_asm))) | exact news_tl (news_tl (news_tl (news_tl (by k_asm))))) ⟨_, _, rfl, rfl⟩
theorem joined_tup (w : World) (c : PC) (x dx : Addr) (rest : List (Addr × Obj)) (l d : Int) (t1 t2 : Nat) (hne : x ≠ dx) (hall : ∀ p ∈ rest, p.1 ≠ dx) (a1 p1 : Addr) (tk1 tk2 n1 n2 : Nat) (hm : (a1, tupOf [.str (Str.ofString "expr") tk1, .str (Str.ofString "tuple") tk2, .ref p1] n1) ∈ rest) (tk : Nat) :
  Calls w 219 [.ref x, .str (Str.ofString "tuple") tk, .ref a1] 2 30 (pst c x dx l d t1 t2 rest) (NonePost c x dx l d rest) := by
  unfold Calls; k_fill
  intro mean mg mb dp un gd cn cs a ccd cl outer A₀ base h₀ L m st R B F X N T hk hdp hun hret
  k_dflt ktr_enter
  k_steps
  exact hret _ _ _ _ (by k_asm) (by first | k_asm | exact drop1 (by k_asm) | exact drop2 (by k_asm) | exact drop3 (by k_asm) | exact drop4 (by k_asm) | exact drop5 (by k_asm) | exact drop6 (by k_asm) | exact drop7 (by k_asm) | exact drop8 (by k_asm) | exact drop9 (by k_asm) | exact news_tl (by k_asm) | exact news_tl (news_tl (by k_asm)) | exact news_tl (news_tl (news_tl (by k_asm))) | exact news_tl (news_tl (news_tl (news_tl (by k_asm))))) ⟨_, _, rfl, rfl⟩
theorem joined_vec (w : World) (c : PC) (x dx : Addr) (rest : List (Addr × Obj)) (l d : Int) (t1 t2 : Nat) (hne : x ≠ dx) (hall : ∀ p ∈ rest, p.1 ≠ dx) (a1 p1 : Addr) (tk1 tk2 n1 n2 : Nat) (hm : (a1, tupOf [.str (Str.ofString "expr") tk1, .str (Str.ofString "vect") tk2, .ref p1] n1) ∈ rest) (tk : Nat) :
  Calls w 219 [.ref x, .str (Str.ofString "vect") tk, .ref a1] 2 30 (pst c x dx l d t1 t2 rest) (NonePost c x dx l d rest) := by
  unfold Calls; k_fill
  intro mean mg mb dp un gd cn cs a ccd cl outer A₀ base h₀ L m st R B F X N T hk hdp hun hret
  k_dflt ktr_enter
  k_steps
  exact hret _ _ _ _ (by k_asm) (by first | k_asm | exact drop1 (by k_asm) | exact drop2 (by k_asm) | exact drop3 (by k_asm) | exact drop4 (by k_asm) | exact drop5 (by k_asm) | exact drop6 (by k_asm) | exact drop7 (by k_asm) | exact drop8 (by k_asm) | exact drop9 (by k_asm) | exact news_tl (by k_asm) | exact news_tl (news_tl (by k_asm)) | exact news_tl (news_tl (news_tl (by k_asm))) | exact news_tl (news_tl (news_tl (news_tl (by k_asm))))) ⟨_, _, rfl, rfl⟩
theorem postfix_tup (w : World) (c : PC) (x dx : Addr) (rest : List (Addr × Obj)) (l d : Int) (t1 t2 : Nat) (hne : x ≠ dx) (hall : ∀ p ∈ rest, p.1 ≠ dx) (a1 p1 : Addr) (tk1 tk2 n1 n2 : Nat) (hm : (a1, tupOf [.str (Str.ofString "expr") tk1, .str (Str.ofString "tuple") tk2, .ref p1] n1) ∈ rest) (tk : Nat) :
  Calls w 238 [.ref x, .str (Str.ofString "tuple") tk, .ref a1] 2 30 (pst c x dx l d t1 t2 rest) (NonePost c x dx l d rest) := by
  unfold Calls; k_fill
  intro mean mg mb dp un gd cn cs a ccd cl outer A₀ base h₀ L m st R B F X N T hk hdp hun hret
  k_dflt (refine' code_defC ?k1 ?k2 ?k3 ?k4 ?k5 ?kA ?kF ?kK ?k6 ?k7 ?k8 ?k9 ?kB ?kD ?_ ?c2 ?c3 ?c4; (case kA => exact rfl); (case kF => exact rfl); (case kK => assumption); (case k1 => k_asm); (case k2 => k_asm); (case k3 => k_asm); (case k4 => k_asm); (case k5 => k_asm); (case k6 => k_is); (case k7 => k_is); (case k8 => ktr_room); (case k9 => exact BindsTo.of_eq rfl); (case kB => exact rfl); (case kD => decide +kernel); (case c2 => exact rfl); (case c3 => exact rfl); (case c4 => exact rfl); k_whole; intro g' L' h' tk' cells' FG' F' N' Y' B' X' T' l1; (try k_lt l1); (have hY := CellsAre.one Y'); (obtain ⟨oc, hE, dc⟩ := hY); subst hE; (try simp only [List.cons_append, List.nil_append] at N'); (try dsimp only); (try k_fold))
  k_steps
  exact hret _ _ _ _ (by k_asm) (by first | k_asm | exact drop1 (by k_asm) | exact drop2 (by k_asm) | exact drop3 (by k_asm) | exact drop4 (by k_asm) | exact drop5 (by k_asm) | exact drop6 (by k_asm) | exact drop7 (by k_asm) | exact drop8 (by k_asm) | exact drop9 (by k_asm) | exact news_tl (by k_asm) | exact news_tl (news_tl (by k_asm)) | exact news_tl (news_tl (news_tl (by k_asm))) | exact news_tl (news_tl (news_tl (news_tl (by k_asm))))) ⟨_, _, rfl, rfl⟩
theorem postfix_vec (w : World) (c : PC) (x dx : Addr) (rest : List (Addr × Obj)) (l d : Int) (t1 t2 : Nat) (hne : x ≠ dx) (hall : ∀ p ∈ rest, p.1 ≠ dx) (a1 p1 : Addr) (tk1 tk2 n1 n2 : Nat) (hm : (a1, tupOf [.str (Str.ofString "expr") tk1, .str (Str.ofString "vect") tk2, .ref p1] n1) ∈ rest) (tk : Nat) :
  Calls w 238 [.ref x, .str (Str.ofString "vect") tk, .ref a1] 2 30 (pst c x dx l d t1 t2 rest) (NonePost c x dx l d rest) := by
  unfold Calls; k_fill
  intro mean mg mb dp un gd cn cs a ccd cl outer A₀ base h₀ L m st R B F X N T hk hdp hun hret
  k_dflt (refine' code_defC ?k1 ?k2 ?k3 ?k4 ?k5 ?kA ?kF ?kK ?k6 ?k7 ?k8 ?k9 ?kB ?kD ?_ ?c2 ?c3 ?c4; (case kA => exact rfl); (case kF => exact rfl); (case kK => assumption); (case k1 => k_asm); (case k2 => k_asm); (case k3 => k_asm); (case k4 => k_asm); (case k5 => k_asm); (case k6 => k_is); (case k7 => k_is); (case k8 => ktr_room); (case k9 => exact BindsTo.of_eq rfl); (case kB => exact rfl); (case kD => decide +kernel); (case c2 => exact rfl); (case c3 => exact rfl); (case c4 => exact rfl); k_whole; intro g' L' h' tk' cells' FG' F' N' Y' B' X' T' l1; (try k_lt l1); (have hY := CellsAre.one Y'); (obtain ⟨oc, hE, dc⟩ := hY); subst hE; (try simp only [List.cons_append, List.nil_append] at N'); (try dsimp only); (try k_fold))
  k_steps
  exact hret _ _ _ _ (by k_asm) (by first | k_asm | exact drop1 (by k_asm) | exact drop2 (by k_asm) | exact drop3 (by k_asm) | exact drop4 (by k_asm) | exact drop5 (by k_asm) | exact drop6 (by k_asm) | exact drop7 (by k_asm) | exact drop8 (by k_asm) | exact drop9 (by k_asm) | exact news_tl (by k_asm) | exact news_tl (news_tl (by k_asm)) | exact news_tl (news_tl (news_tl (by k_asm))) | exact news_tl (news_tl (news_tl (news_tl (by k_asm))))) ⟨_, _, rfl, rfl⟩
theorem postfix_dot (w : World) (c : PC) (x dx : Addr) (rest : List (Addr × Obj)) (l d : Nat) (t1 t2 : Nat) (hl : l ≤ 10000) (hd8 : d ≤ 80) (hne : x ≠ dx) (hall : ∀ p ∈ rest, p.1 ≠ dx) (a1 p1 : Addr) (tk1 tk2 n1 n2 : Nat) (hm : (a1, tupOf [.str (Str.ofString "expr") tk1, .str (Str.ofString ".") tk2, .ref p1] n1) ∈ rest) (tk : Nat) (v1 : Value) (b n3 tk3 tk4 : Nat) (t : T) (hp : (p1, tupOf [v1, .ref b] n2) ∈ rest) (hb1 : (b, tupOf [.str (Str.ofString "sym") tk3, .str (Str.ofString "u") tk4] n3) ∈ rest) (hT : TreeIn rest t v1) (hW : WF t) (hA : AtSpec w t) :
  Calls w 238 [.ref x, .str (Str.ofString ".") tk, .ref a1] (7 * (80 - d) + 9) (40 * (80 - d) + 68) (pst c x dx l d t1 t2 rest) (PairPost c x dx ((txt t (80 - d) l).2 : Nat) d ((txt t (80 - d) l).1 ++ Str.ofString "." ++ Str.ofString "u") rest) := by
  have hs1 := txt_small (k := 80 - d) hW hl
  unfold Calls; k_fill
  intro mean mg mb dp un gd cn cs a ccd cl outer A₀ base h₀ L m st R B F X N T hk hdp hun hret
  k_dflt (refine' code_defC ?k1 ?k2 ?k3 ?k4 ?k5 ?kA ?kF ?kK ?k6 ?k7 ?k8 ?k9 ?kB ?kD ?_ ?c2 ?c3 ?c4; (case kA => exact rfl); (case kF => exact rfl); (case kK => assumption); (case k1 => k_asm); (case k2 => k_asm); (case k3 => k_asm); (case k4 => k_asm); (case k5 => k_asm); (case k6 => k_is); (case k7 => k_is); (case k8 => ktr_room); (case k9 => exact BindsTo.of_eq rfl); (case kB => exact rfl); (case kD => decide +kernel); (case c2 => exact rfl); (case c3 => exact rfl); (case c4 => exact rfl); k_whole; intro g' L' h' tk' cells' FG' F' N' Y' B' X' T' l1; (try k_lt l1); (have hY := CellsAre.one Y'); (obtain ⟨oc, hE, dc⟩ := hY); subst hE; (try simp only [List.cons_append, List.nil_append] at N'); (try dsimp only); (try k_fold))
  k_steps
  all_goals exact hret _ _ _ _ (by k_asm) (by first | k_asm | exact dropT1 (by k_asm) | exact dropT2 (by k_asm) | exact dropT3 (by k_asm) | exact dropT4 (by k_asm) | exact dropT5 (by k_asm) | exact dropT6 (by k_asm) | exact dropT7 (by k_asm) | exact dropT8 (by k_asm) | exact dropT9 (by k_asm)) ⟨_, _, _, _, _, _, rfl, rfl, by decide, neN (by omega)⟩
theorem postfix_ref (w : World) (c : PC) (x dx : Addr) (rest : List (Addr × Obj)) (l d : Nat) (t1 t2 : Nat) (hl : l ≤ 10000) (hd8 : d ≤ 80) (hne : x ≠ dx) (hall : ∀ p ∈ rest, p.1 ≠ dx) (a1 p1 : Addr) (tk1 tk2 n1 n2 : Nat) (hm : (a1, tupOf [.str (Str.ofString "expr") tk1, .str (Str.ofString "ref") tk2, .ref p1] n1) ∈ rest) (tk : Nat) (vc : Value) (vs : List Value) (qs : List T) (hp : (p1, tupOf (vc :: vs) n2) ∈ rest) (hT : TreeIn rest (.sym (Str.ofString "v")) vc) (hW : WF (.sym (Str.ofString "v"))) (hA : AtSpec w (.sym (Str.ofString "v"))) (hL : ListedSpec w qs) (hF : ForestIn rest qs vs) (hWq : WFs qs) (hlen : qs.length ≤ 4) (hz : vs.length ≤ 10) :
  Calls w 238 [.ref x, .str (Str.ofString "ref") tk, .ref a1] (7 * (80 - d) + 11) (40 * (80 - d) + 72) (pst c x dx l d t1 t2 rest) (PairPost c x dx ((txts qs (80 - d) (txt (.sym (Str.ofString "v")) (80 - d) l).2).2 : Nat) d ((txt (.sym (Str.ofString "v")) (80 - d) l).1 ++ Str.ofString "[" ++ commas (txts qs (80 - d) (txt (.sym (Str.ofString "v")) (80 - d) l).2).1 ++ Str.ofString "]") rest) := by
  have hl3 : (txt (.sym (Str.ofString "v")) (80 - d) l).2 ≤ 10000 := Nat.le_trans (txt_le _ _ _) hl
  have hs1 := txt_small (k := 80 - d) hW hl
  have hs2 := commas_small (k := 80 - d) hWq hl3 hlen
  unfold Calls; k_fill
  intro mean mg mb dp un gd cn cs a ccd cl outer A₀ base h₀ L m st R B F X N T hk hdp hun hret
  k_dflt (refine' code_defC ?k1 ?k2 ?k3 ?k4 ?k5 ?kA ?kF ?kK ?k6 ?k7 ?k8 ?k9 ?kB ?kD ?_ ?c2 ?c3 ?c4; (case kA => exact rfl); (case kF => exact rfl); (case kK => assumption); (case k1 => k_asm); (case k2 => k_asm); (case k3 => k_asm); (case k4 => k_asm); (case k5 => k_asm); (case k6 => k_is); (case k7 => k_is); (case k8 => ktr_room); (case k9 => exact BindsTo.of_eq rfl); (case kB => exact rfl); (case kD => decide +kernel); (case c2 => exact rfl); (case c3 => exact rfl); (case c4 => exact rfl); k_whole; intro g' L' h' tk' cells' FG' F' N' Y' B' X' T' l1; (try k_lt l1); (have hY := CellsAre.one Y'); (obtain ⟨oc, hE, dc⟩ := hY); subst hE; (try simp only [List.cons_append, List.nil_append] at N'); (try dsimp only); (try k_fold))
  k_steps
  all_goals exact hret _ _ _ _ (by k_asm) (by first | k_asm | exact dropT1 (by k_asm) | exact dropT2 (by k_asm) | exact dropT3 (by k_asm) | exact dropT4 (by k_asm) | exact dropT5 (by k_asm) | exact dropT6 (by k_asm) | exact dropT7 (by k_asm) | exact dropT8 (by k_asm) | exact dropT9 (by k_asm)) ⟨_, _, _, _, _, _, rfl, rfl, by decide, neN (by omega)⟩
theorem bracketed_tup (w : World) (c : PC) (x dx : Addr) (rest : List (Addr × Obj)) (l d : Nat) (t1 t2 : Nat) (hl : l ≤ 10000) (hd8 : d ≤ 80) (hne : x ≠ dx) (hall : ∀ p ∈ rest, p.1 ≠ dx) (a1 p1 : Addr) (tk1 tk2 n1 n2 : Nat) (hm : (a1, tupOf [.str (Str.ofString "expr") tk1, .str (Str.ofString "tuple") tk2, .ref p1] n1) ∈ rest) (tk : Nat) (vs : List Value) (qs : List T) (hp : (p1, tupOf vs n2) ∈ rest) (hL : ListedSpec w qs) (hF : ForestIn rest qs vs) (hWq : WFs qs) (hlen : qs.length ≤ 4) (hz : vs.length ≤ 10) :
  Calls w 255 [.ref x, .str (Str.ofString "tuple") tk, .ref a1] (7 * (80 - d) + 11) (40 * (80 - d) + 72) (pst c x dx l d t1 t2 rest) (PairPost c x dx ((txts qs (80 - d) l).2 : Nat) d (glue .tup (txts qs (80 - d) l).1) rest) := by
  have hs2 := commas_small (k := 80 - d) hWq hl hlen
  have htl := txts_length (80 - d) qs l
  have hvl := hF.length
  unfold Calls; k_fill
  intro mean mg mb dp un gd cn cs a ccd cl outer A₀ base h₀ L m st R B F X N T hk hdp hun hret
  k_dflt (refine' code_defC ?k1 ?k2 ?k3 ?k4 ?k5 ?kA ?kF ?kK ?k6 ?k7 ?k8 ?k9 ?kB ?kD ?_ ?c2 ?c3 ?c4; (case kA => exact rfl); (case kF => exact rfl); (case kK => assumption); (case k1 => k_asm); (case k2 => k_asm); (case k3 => k_asm); (case k4 => k_asm); (case k5 => k_asm); (case k6 => k_is); (case k7 => k_is); (case k8 => ktr_room); (case k9 => exact BindsTo.of_eq rfl); (case kB => exact rfl); (case kD => decide +kernel); (case c2 => exact rfl); (case c3 => exact rfl); (case c4 => exact rfl); k_whole; intro g' L' h' tk' cells' FG' F' N' Y' B' X' T' l1; (try k_lt l1); (have hY := CellsAre.one Y'); (obtain ⟨oc, hE, dc⟩ := hY); subst hE; (try simp only [List.cons_append, List.nil_append] at N'); (try dsimp only); (try k_fold))
  k_steps
  by_cases h1 : vs.length = 1
  · have e1 : glue .tup (txts qs (80 - d) l).1 = Str.ofString "(" ++ commas (txts qs (80 - d) l).1 ++ Str.ofString "," ++ Str.ofString ")" := by
      simp only [glue]; rw [if_pos (by omega)]
    rw [e1] at hret
    exact hret _ _ _ _ (by k_asm) (by first | k_asm | exact dropT1 (by k_asm) | exact dropT2 (by k_asm) | exact dropT3 (by k_asm) | exact dropT4 (by k_asm) | exact dropT5 (by k_asm) | exact dropT6 (by k_asm) | exact dropT7 (by k_asm) | exact dropT8 (by k_asm) | exact dropT9 (by k_asm)) ⟨_, _, _, _, _, _, rfl, rfl, by decide, neN (by omega)⟩
  · exfalso; omega
  · have e1 : glue .tup (txts qs (80 - d) l).1 = Str.ofString "(" ++ commas (txts qs (80 - d) l).1 ++ Str.ofString "" ++ Str.ofString ")" := by
      simp only [glue]; rw [if_neg (by omega)]
    rw [e1] at hret
    exact hret _ _ _ _ (by k_asm) (by first | k_asm | exact dropT1 (by k_asm) | exact dropT2 (by k_asm) | exact dropT3 (by k_asm) | exact dropT4 (by k_asm) | exact dropT5 (by k_asm) | exact dropT6 (by k_asm) | exact dropT7 (by k_asm) | exact dropT8 (by k_asm) | exact dropT9 (by k_asm)) ⟨_, _, _, _, _, _, rfl, rfl, by decide, neN (by omega)⟩
theorem words22 : True := by
  k_with_none
  trivial
theorem Calls.useM {w : World} {f q : Addr} {self : Value} {vs : List Value} {need ku : Nat} {news news0 : List (Addr × Obj)} {Post : List (Addr × Obj) → Value → Prop}
    {mean : ExcName → Option Value} {mg mb : Str → Option Value} {dp un : Nat} {gd : Option (List Code)} {cn : Str} {cs : Scope} {a : Addr} {ccd : Value} {cl : List (Str × Addr)} {outer : List Env} {A₀ : Around} {base h₀ : Heap} {L : Addr} {m : Str → Option Value} {s : Shared}
    {Q E : Value → Shared → Prop} (C : Calls w f (self :: vs) need ku news Post) (N0 : News h₀ L s.heap news0) (hq : (q, methodObj (.ref f) self) ∈ news0)
    (B : Below A₀ base outer h₀) (F : Fr h₀ L s.heap m) (X : (hk.heap_1 w.params).In h₀) (N : News h₀ L s.heap news) (T : Top V LS mean mg mb h₀) (hk : cs.kind = .function) (hd' : dp + need < recursionLimit) (hu : un + ku < cLine)
    (h : ∀ r nx h' tk', Fr h₀ L h' m → News h₀ L h' nx → Post nx r → Q r { s with heap := h', toks := tk' }) :
    wpAny (model PySem.Challenge.rw_pc0211_01.row.prog w) (ktrTop dp un gd cn cs L a ccd cl outer) (call (.ref q) vs) Q E s :=
  call_meth N0 hq (C _ _ _ _ _ _ _ _ _ _ _ _ _ _ _ _ _ _ _ B F X N T hk hd' hu h)
theorem words23 : True := by
  k_with "eval Call" => (k_here; (with_reducible show wpAny _ _ (eval (Expr.Call (Expr.Name _ _) _ _ _) _) _ _ _); k_dflt (refine Call_ ?_))
  k_with "compareOp In str ref" => (k_here; k_dflt (first
    | (refine' in_top ?F ?X ?l ?k ?e ?_; (case F => k_asm); (case X => k_asm); (case l => k_is); (case k => (repeat constructor)); (case e => first | decide | exact plain_any (by assumption) _ (by decide)); k_whole)
    | (refine' in_topT ?F ?X ?l ?k ?e ?_; (case F => k_asm); (case X => k_asm); (case l => k_is); (case k => (repeat constructor)); (case e => decide); k_whole)))
  k_with "call ref" => (k_here; (with_reducible show wpAny _ _ (call (Value.ref 21) _) _ _ _); k_dflt (first
    | (refine' Calls.use (is_expr_two _ _ _ _ _ _ _ _ _ ?m2 ?m1) ?k1 ?k2 ?k3 ?k4 ?k5 ?kK ?kd ?ku ?_; (case k1 => k_asm); (case k2 => k_asm); (case k3 => k_asm); (case k4 => k_asm); (case m1 => k_mem); (case m2 => decide); (case k5 => k_asm); (case kK => first | exact rfl | assumption); (case kd => ktr_room); (case ku => ktr_units); intro r9 n9 h9 t9 F9 N9 ho9; (obtain ⟨e1, e2⟩ := ho9; subst e1; subst e2); (try k_sweep))
    | (refine' Calls.use (is_expr_ne _ _ _ _ _ _ _ _ _ _ ?m2 ?m1) ?k1 ?k2 ?k3 ?k4 ?k5 ?kK ?kd ?ku ?_; (case k1 => k_asm); (case k2 => k_asm); (case k3 => k_asm); (case k4 => k_asm); (case m1 => k_mem); (case m2 => first | assumption | decide); (case k5 => k_asm); (case kK => first | exact rfl | assumption); (case kd => ktr_room); (case ku => ktr_units); intro r9 n9 h9 t9 F9 N9 ho9; (obtain ⟨e1, e2⟩ := ho9; subst e1; subst e2); (try k_sweep))
    | (refine' Calls.use (is_expr_expr _ _ _ _ _ _ _ _ _ _ ?m1) ?k1 ?k2 ?k3 ?k4 ?k5 ?kK ?kd ?ku ?_; (case k1 => k_asm); (case k2 => k_asm); (case k3 => k_asm); (case k4 => k_asm); (case m1 => k_mem); (case k5 => k_asm); (case kK => first | exact rfl | assumption); (case kd => ktr_room); (case ku => ktr_units); intro r9 n9 h9 t9 F9 N9 ho9; (obtain ⟨e1, e2⟩ := ho9; subst e1; subst e2); (try k_sweep))))
  k_with "call ref" => (k_here; (with_reducible show wpAny _ _ (call (Value.ref 28) _) _ _ _); k_dflt (first
    | (refine' Calls.use (parts_of_expr _ _ _ _ _ _ _ _ ?m1) ?k1 ?k2 ?k3 ?k4 ?k5 ?kK ?kd ?ku ?_; (case k1 => k_asm); (case k2 => k_asm); (case k3 => k_asm); (case k4 => k_asm); (case m1 => k_mem); (case k5 => k_asm); (case kK => first | exact rfl | assumption); (case kd => ktr_room); (case ku => ktr_units); intro r9 n9 h9 t9 F9 N9 ho9; (obtain ⟨e1, e2⟩ := ho9; subst e1; subst e2); (try k_sweep))))
  k_with "call ref" => (k_here; (with_reducible show wpAny _ _ (call (Value.ref 35) _) _ _ _); k_dflt (first
    | (refine' Calls.use (is_sym_ _ _ _ _ _ _ _ ?m1) ?k1 ?k2 ?k3 ?k4 ?k5 ?kK ?kd ?ku ?_; (case k1 => k_asm); (case k2 => k_asm); (case k3 => k_asm); (case k4 => k_asm); (case m1 => k_mem); (case k5 => k_asm); (case kK => first | exact rfl | assumption); (case kd => ktr_room); (case ku => ktr_units); intro r9 n9 h9 t9 F9 N9 ho9; (obtain ⟨e1, e2⟩ := ho9; subst e1; subst e2); (try k_sweep))))
  k_with "call ref" => (k_here; (with_reducible show wpAny _ _ (call (Value.ref 21) _) _ _ _); k_dflt (first
    | (refine' Calls.use (is_expr_two _ _ _ _ _ _ _ _ _ ?m2 ?m1) ?k1 ?k2 ?k3 ?k4 ?k5 ?kK ?kd ?ku ?_; (case k1 => k_asm); (case k2 => k_asm); (case k3 => k_asm); (case k4 => k_asm); (case m1 => k_mem); (case m2 => decide); (case k5 => k_asm); (case kK => first | exact rfl | assumption); (case kd => ktr_room); (case ku => ktr_units); intro r9 n9 h9 t9 F9 N9 ho9; (obtain ⟨e1, e2⟩ := ho9; subst e1; subst e2); (try k_sweep))
    | (refine' Calls.use (is_expr_ne _ _ _ _ _ _ _ _ _ _ ?m2 ?m1) ?k1 ?k2 ?k3 ?k4 ?k5 ?kK ?kd ?ku ?_; (case k1 => k_asm); (case k2 => k_asm); (case k3 => k_asm); (case k4 => k_asm); (case m1 => k_mem); (case m2 => first | assumption | decide); (case k5 => k_asm); (case kK => first | exact rfl | assumption); (case kd => ktr_room); (case ku => ktr_units); intro r9 n9 h9 t9 F9 N9 ho9; (obtain ⟨e1, e2⟩ := ho9; subst e1; subst e2); (try k_sweep))
    | (refine' Calls.use (is_expr_expr _ _ _ _ _ _ _ _ _ _ ?m1) ?k1 ?k2 ?k3 ?k4 ?k5 ?kK ?kd ?ku ?_; (case k1 => k_asm); (case k2 => k_asm); (case k3 => k_asm); (case k4 => k_asm); (case m1 => k_mem); (case k5 => k_asm); (case kK => first | exact rfl | assumption); (case kd => ktr_room); (case ku => ktr_units); intro r9 n9 h9 t9 F9 N9 ho9; (obtain ⟨e1, e2⟩ := ho9; subst e1; subst e2); (try k_sweep))
    | (refine' Calls.use (is_expr_tree _ _ ?mt _ _ _ ?m1 ?m2) ?k1 ?k2 ?k3 ?k4 ?k5 ?kK ?kd ?ku ?_; (case k1 => k_asm); (case k2 => k_asm); (case k3 => k_asm); (case k4 => k_asm); (case m1 => (first | assumption | exact TreeIn.mono (fun _ h => .tail _ (.tail _ h)) _ _ (by assumption) | exact TreeIn.mono (fun _ h => .tail _ (.tail _ (.tail _ h))) _ _ (by assumption) | exact TreeIn.mono (fun _ h => .tail _ (.tail _ (.tail _ (.tail _ h)))) _ _ (by assumption) | exact TreeIn.mono (fun _ h => .tail _ (.tail _ (.tail _ (.tail _ (.tail _ h))))) _ _ (by assumption))); (case m2 => decide); (case k5 => k_asm); (case kK => first | exact rfl | assumption); (case kd => ktr_room); (case ku => ktr_units); intro r9 n9 h9 t9 F9 N9 ho9; (obtain ⟨e1, e2⟩ := ho9; subst e1; subst e2); (try k_sweep))))
  k_with "call ref" => (k_here; (with_reducible show wpAny _ _ (call (Value.ref 141) _) _ _ _); k_dflt (first
    | (rename AtSpec _ _ => hA9; (refine' Calls.use (hA9 _ _ _ _ _ _ _ _ _ _ _ ?m1 ?m2 ?m3 ?m4 ?m5 ?m6 ?m7) ?k1 ?k2 ?k3 ?k4 ?k5 ?kK ?kd ?ku ?_; (case k1 => k_asm); (case k2 => k_asm); (case k3 => k_asm); (case k4 => (first | k_asm | exact rot1 (by k_asm) | exact rot2 (by k_asm) | exact rot3 (by k_asm) | exact rot4 (by k_asm) | exact rot5 (by k_asm) | exact rot6 (by k_asm) | exact rot7 (by k_asm) | exact rot8 (by k_asm) | exact rot9 (by k_asm))); (case m1 => (first | assumption | exact TreeIn.mono (fun _ h => .tail _ h) _ _ (by assumption) | exact TreeIn.mono (fun _ h => .tail _ (.tail _ h)) _ _ (by assumption) | exact TreeIn.mono (fun _ h => .tail _ (.tail _ (.tail _ h))) _ _ (by assumption) | exact TreeIn.mono (fun _ h => .tail _ (.tail _ (.tail _ (.tail _ h)))) _ _ (by assumption) | exact TreeIn.mono (fun _ h => .tail _ (.tail _ (.tail _ (.tail _ (.tail _ h))))) _ _ (by assumption) | exact TreeIn.mono (fun _ h => .tail _ (.tail _ (.tail _ (.tail _ (.tail _ (.tail _ h)))))) _ _ (by assumption) | exact TreeIn.mono (fun _ h => .tail _ (.tail _ (.tail _ (.tail _ (.tail _ (.tail _ (.tail _ h))))))) _ _ (by assumption) | exact TreeIn.mono (fun _ h => .tail _ (.tail _ (.tail _ (.tail _ (.tail _ (.tail _ (.tail _ (.tail _ h)))))))) _ _ (by assumption) | exact TreeIn.mono (fun _ h => .tail _ (.tail _ (.tail _ (.tail _ (.tail _ (.tail _ (.tail _ (.tail _ (.tail _ h))))))))) _ _ (by assumption))); (case m2 => assumption); (case m3 => assumption); (case m4 => assumption); (case m5 => assumption); (case m6 => (first | assumption | exact all_cons1 (neN (by omega)) (by assumption) | exact all_cons1 (neN (by omega)) (all_cons1 (neN (by omega)) (by assumption)) | exact all_cons1 (neN (by omega)) (all_cons1 (neN (by omega)) (all_cons1 (neN (by omega)) (by assumption))) | exact all_cons1 (neN (by omega)) (all_cons1 (neN (by omega)) (all_cons1 (neN (by omega)) (all_cons1 (neN (by omega)) (by assumption)))) | exact all_cons1 (neN (by omega)) (all_cons1 (neN (by omega)) (all_cons1 (neN (by omega)) (all_cons1 (neN (by omega)) (all_cons1 (neN (by omega)) (by assumption))))) | exact all_cons1 (neN (by omega)) (all_cons1 (neN (by omega)) (all_cons1 (neN (by omega)) (all_cons1 (neN (by omega)) (all_cons1 (neN (by omega)) (all_cons1 (neN (by omega)) (by assumption)))))) | exact all_cons1 (neN (by omega)) (all_cons1 (neN (by omega)) (all_cons1 (neN (by omega)) (all_cons1 (neN (by omega)) (all_cons1 (neN (by omega)) (all_cons1 (neN (by omega)) (all_cons1 (neN (by omega)) (by assumption))))))) | exact all_cons1 (neN (by omega)) (all_cons1 (neN (by omega)) (all_cons1 (neN (by omega)) (all_cons1 (neN (by omega)) (all_cons1 (neN (by omega)) (all_cons1 (neN (by omega)) (all_cons1 (neN (by omega)) (all_cons1 (neN (by omega)) (by assumption)))))))) | exact all_cons1 (neN (by omega)) (all_cons1 (neN (by omega)) (all_cons1 (neN (by omega)) (all_cons1 (neN (by omega)) (all_cons1 (neN (by omega)) (all_cons1 (neN (by omega)) (all_cons1 (neN (by omega)) (all_cons1 (neN (by omega)) (all_cons1 (neN (by omega)) (by assumption))))))))))); (case m7 => decide); (case k5 => k_asm); (case kK => first | exact rfl | assumption); (case kd => ktr_room); (case ku => ktr_units); intro r9 n9 h9 t9 F9 N9 ho9; (obtain ⟨t19, t29, tk9, e1, e2⟩ := ho9; subst e1; subst e2); (try k_sweep)))))
  k_with "compareOp Eq ref ref" => (k_here; k_dflt (first
    | (refine' eq_tups ?N ?u ?m1 ?m2 ?_; (case N => k_asm); (case u => ktr_units); (case m1 => k_mem); (case m2 => k_mem); k_whole)
    | (refine' eq_syms ?N ?u ?m1 ?m2 ?e ?_; (case N => k_asm); (case u => ktr_units); (case m1 => k_mem); (case m2 => k_mem); (case e => first | decide | exact plain_ne (by assumption) _ (by decide)); k_whole)
    | (refine' eq_int_sym ?N ?u ?m1 ?m2 ?_; (case N => k_asm); (case u => ktr_units); (case m1 => k_mem); (case m2 => k_mem); k_whole)))
  k_with "compareOp NotEq ref ref" => (k_here; k_dflt (first
    | (refine' ne_nil0 ?N ?u ?m1 ?m2 ?_; (case N => k_asm); (case u => ktr_units); (case m1 => k_mem); (case m2 => first | exact isTuple_of (by k_asm) (by k_mem)); k_whole)
    | (refine' ne_cons ?N ?u ?m1 ?m2 ?_; (case N => k_asm); (case u => ktr_units); (case m1 => k_mem); (case m2 => first | exact isTuple_of (by k_asm) (by k_mem)); k_whole)))
  k_with "subscriptTail" => (k_here; (with_reducible show wpAny _ _ (subscriptTail _ _ (Value.ref _) (Value.ref _)) _ _ _); (with_unfolding_all refine' slice1 ?F ?N ?m1 ?z ?_ ?hs ?hg; (case F => k_asm); (case N => k_asm); (case m1 => k_mem); (case z => (first | decide | omega | (simp only [List.length_cons, List.length_nil]; omega))); (case hs => exact rfl); (case hg => intro _; exact rfl); k_whole); intro q9 h9 F9 N9 l9; (try k_lt l9); (try k_sweep))
  k_with "subscriptTail" => (k_here; (with_reducible show wpAny _ _ (subscriptTail _ _ (Value.ref _) (Value.int 0 _)) _ _ _); (with_unfolding_all refine' item_first ?N ?m ?_ ?hs; (case N => k_asm); (case m => k_mem); (case hs => exact rfl); k_whole))
  k_with "subscriptTail" => (k_here; (with_reducible show wpAny _ _ (subscriptTail _ _ (Value.ref _) (Value.int 1 _)) _ _ _); (with_unfolding_all refine' item_second ?N ?m ?_ ?hs; (case N => k_asm); (case m => k_mem); (case hs => exact rfl); k_whole))
  k_with "call builtin:len" => (k_here; (with_reducible show wpAny _ _ (call (Value.builtin "len") [Value.ref _]) _ _ _); k_dflt (refine' len_tup ?N ?m ?z ?e ?_; (case N => k_asm); (case m => k_mem); (case z => (first | decide | omega | (simp only [List.length_cons, List.length_nil]; omega))); (case e => first | (simp only [List.length_cons, List.length_nil, Nat.zero_add, Nat.reduceAdd]; exact rfl) | exact rfl); k_whole))
  k_with "eval Name" => (k_here; (with_reducible show wpAny _ _ (eval (Expr.Name _ _) (compEnvC _ _ _ _)) _ _ _); k_dflt (first
    | (refine' comp_local ?n ?v ?_ ?a ?b ?d; (case n => k_asm); (case v => first | assumption | exact rfl); (case a => exact rfl); (case b => exact rfl); (case d => decide); k_whole)
    | (refine' comp_cell ?N ?c ?m ?d ?_ ?a ?b ?e; (case N => k_asm); (case c => exact rfl); (case m => k_mem); (case d => first | assumption | exact rfl); (case a => exact rfl); (case b => exact rfl); (case e => decide); k_whole)
    | (refine' nameG_K ?F ?X ?T ?e ?_ ?g ?k ?x ?d; (case F => k_asm); (case X => k_asm); (case T => k_asm); (case e => k_is); (case g => exact rfl); (case k => exact rfl); (case x => exact rfl); (case d => decide); k_whole)))
  k_with "eval Call Attribute" => (k_here; (with_reducible show wpAny _ _ (eval (Expr.Call (Expr.Attribute _ _ _) _ _ _) _) _ _ _); k_dflt (refine MethodCall_ ?_))
  k_with "eval ListComp" => (k_here; k_dflt ((refine' comp_inv ?c1 ?c2 ?c3 ?c4 ?c5 ?_ ?c6); (case c1 => with_unfolding_all exact rfl); (case c2 => decide); (case c3 => exact rfl); (case c4 => decide); (case c5 => exact rfl); (case c6 => intro _; exact rfl); k_whole))
  k_with "call builtin:str.join" => (k_here; (with_reducible show wpAny _ _ (call (Value.builtin "str.join") [Value.str _ _, Value.ref _]) _ _ _); (with_reducible rename StrsAre _ _ => hS9); k_dflt (refine' join_mine (News.isList ?N ?m) ?i ?k ?_; (case N => k_asm); (case m => k_mem); (case i => simpa using hS9); (case k => assumption)); intro t9 k9)
  trivial
theorem dropF2 {h₀ h : Heap} {L : Addr} {q q1 q2 : Addr × Obj} {r : List (Addr × Obj)} (N : News h₀ L h (q :: q1 :: q2 :: r)) : News h₀ L h (q :: r) := fun p hp => N p (by
  simp only [List.mem_cons] at hp ⊢; rcases hp with h | h <;> simp [h])
def SquareSpec (w : World) (t : T) : Prop := ∀ (c : PC) (x dx : Addr) (rest : List (Addr × Obj)) (v : Value) (l d : Nat) (t1 t2 : Nat), TreeIn rest t v → WF t → l ≤ 10000 → d ≤ 80 → x ≠ dx → (∀ p ∈ rest, p.1 ≠ dx) →
  Calls w 262 [.ref x, v] (7 * (80 - d) + 9) (40 * (80 - d) + 64) (pst c x dx l d t1 t2 rest) (TextPost c x dx ((txt t (80 - d) l).2 : Nat) d (txt t (80 - d) l).1 rest)
theorem square_ (w : World) (t : T) (hA : AtSpec w t) : SquareSpec w t := by
  intro c x dx rest v l d t1 t2 hT hW hl hd8 hne hall
  unfold Calls; k_fill
  intro mean mg mb dp un gd cn cs a ccd cl outer A₀ base h₀ L m st R B F X N T hk hdp hun hret
  k_dflt ktr_enter
  k_steps
  exact hret _ _ _ _ (by k_asm) (by first | k_asm | exact drop1 (by k_asm) | exact drop2 (by k_asm) | exact drop3 (by k_asm) | exact drop4 (by k_asm) | exact drop5 (by k_asm) | exact drop6 (by k_asm) | exact drop7 (by k_asm) | exact drop8 (by k_asm) | exact drop9 (by k_asm) | exact news_tl (by k_asm) | exact news_tl (news_tl (by k_asm)) | exact news_tl (news_tl (news_tl (by k_asm))) | exact news_tl (news_tl (news_tl (news_tl (by k_asm))))) ⟨_, _, _, rfl, rfl⟩
theorem words24 : True := by
  k_with "call ref" => (k_here; (with_reducible show wpAny _ _ (call (Value.ref 262) _) _ _ _); k_dflt (first
    | (rename SquareSpec _ _ => hI9; (refine' Calls.use (hI9 _ _ _ _ _ _ _ _ _ ?m1 ?m2 ?m3 ?m4 ?m5 ?m6) ?k1 ?k2 ?k3 ?k4 ?k5 ?kK ?kd ?ku ?_; (case k1 => k_asm); (case k2 => k_asm); (case k3 => k_asm); (case k4 => (first | k_asm | exact rot1 (by k_asm) | exact rot2 (by k_asm) | exact rot3 (by k_asm) | exact rot4 (by k_asm) | exact rot5 (by k_asm) | exact rot6 (by k_asm) | exact rot7 (by k_asm) | exact rot8 (by k_asm) | exact rot9 (by k_asm))); (case m1 => (first | assumption | exact TreeIn.mono (fun _ h => .tail _ h) _ _ (by assumption) | exact TreeIn.mono (fun _ h => .tail _ (.tail _ h)) _ _ (by assumption) | exact TreeIn.mono (fun _ h => .tail _ (.tail _ (.tail _ h))) _ _ (by assumption) | exact TreeIn.mono (fun _ h => .tail _ (.tail _ (.tail _ (.tail _ h)))) _ _ (by assumption) | exact TreeIn.mono (fun _ h => .tail _ (.tail _ (.tail _ (.tail _ (.tail _ h))))) _ _ (by assumption) | exact TreeIn.mono (fun _ h => .tail _ (.tail _ (.tail _ (.tail _ (.tail _ (.tail _ h)))))) _ _ (by assumption) | exact TreeIn.mono (fun _ h => .tail _ (.tail _ (.tail _ (.tail _ (.tail _ (.tail _ (.tail _ h))))))) _ _ (by assumption) | exact TreeIn.mono (fun _ h => .tail _ (.tail _ (.tail _ (.tail _ (.tail _ (.tail _ (.tail _ (.tail _ h)))))))) _ _ (by assumption) | exact TreeIn.mono (fun _ h => .tail _ (.tail _ (.tail _ (.tail _ (.tail _ (.tail _ (.tail _ (.tail _ (.tail _ h))))))))) _ _ (by assumption))); (case m2 => assumption); (case m3 => assumption); (case m4 => assumption); (case m5 => assumption); (case m6 => (first | assumption | exact all_cons1 (neN (by omega)) (by assumption) | exact all_cons1 (neN (by omega)) (all_cons1 (neN (by omega)) (by assumption)) | exact all_cons1 (neN (by omega)) (all_cons1 (neN (by omega)) (all_cons1 (neN (by omega)) (by assumption))) | exact all_cons1 (neN (by omega)) (all_cons1 (neN (by omega)) (all_cons1 (neN (by omega)) (all_cons1 (neN (by omega)) (by assumption)))) | exact all_cons1 (neN (by omega)) (all_cons1 (neN (by omega)) (all_cons1 (neN (by omega)) (all_cons1 (neN (by omega)) (all_cons1 (neN (by omega)) (by assumption))))) | exact all_cons1 (neN (by omega)) (all_cons1 (neN (by omega)) (all_cons1 (neN (by omega)) (all_cons1 (neN (by omega)) (all_cons1 (neN (by omega)) (all_cons1 (neN (by omega)) (by assumption)))))) | exact all_cons1 (neN (by omega)) (all_cons1 (neN (by omega)) (all_cons1 (neN (by omega)) (all_cons1 (neN (by omega)) (all_cons1 (neN (by omega)) (all_cons1 (neN (by omega)) (all_cons1 (neN (by omega)) (by assumption))))))) | exact all_cons1 (neN (by omega)) (all_cons1 (neN (by omega)) (all_cons1 (neN (by omega)) (all_cons1 (neN (by omega)) (all_cons1 (neN (by omega)) (all_cons1 (neN (by omega)) (all_cons1 (neN (by omega)) (all_cons1 (neN (by omega)) (by assumption)))))))) | exact all_cons1 (neN (by omega)) (all_cons1 (neN (by omega)) (all_cons1 (neN (by omega)) (all_cons1 (neN (by omega)) (all_cons1 (neN (by omega)) (all_cons1 (neN (by omega)) (all_cons1 (neN (by omega)) (all_cons1 (neN (by omega)) (all_cons1 (neN (by omega)) (by assumption))))))))))); (case k5 => k_asm); (case kK => first | exact rfl | assumption); (case kd => ktr_room); (case ku => ktr_units); intro r9 n9 h9 t9 F9 N9 ho9; (obtain ⟨t19, t29, tk9, e1, e2⟩ := ho9; subst e1; subst e2); (try k_sweep)))))
  trivial
theorem bracketed_vec (w : World) (c : PC) (x dx : Addr) (rest : List (Addr × Obj)) (l d : Nat) (t1 t2 : Nat) (hl : l ≤ 10000) (hd8 : d ≤ 80) (hne : x ≠ dx) (hall : ∀ p ∈ rest, p.1 ≠ dx) (a1 p1 : Addr) (tk1 tk2 n1 n2 : Nat) (hm : (a1, tupOf [.str (Str.ofString "expr") tk1, .str (Str.ofString "vect") tk2, .ref p1] n1) ∈ rest) (tk : Nat) (vs : List Value) (ps : List T) (hp : (p1, tupOf vs n2) ∈ rest) (hA : ∀ t ∈ ps, AtSpec w t) (hF : ForestIn rest ps vs) (hW : WFs ps) (hlen : ps.length ≤ 4) :
  Calls w 255 [.ref x, .str (Str.ofString "vect") tk, .ref a1] (7 * (80 - d) + 11) (40 * (80 - d) + 72) (pst c x dx l d t1 t2 rest) (PairPost c x dx ((txts ps (80 - d) l).2 : Nat) d (glue .vec (txts ps (80 - d) l).1) rest) := by
  have hs2 := commas_small (k := 80 - d) hW hl hlen
  unfold Calls; k_fill
  intro mean mg mb dp un gd cn cs a ccd cl outer A₀ base h₀ L m st R B F X N T hk hdp hun hret
  k_dflt (refine' code_defC ?k1 ?k2 ?k3 ?k4 ?k5 ?kA ?kF ?kK ?k6 ?k7 ?k8 ?k9 ?kB ?kD ?_ ?c2 ?c3 ?c4; (case kA => exact rfl); (case kF => exact rfl); (case kK => assumption); (case k1 => k_asm); (case k2 => k_asm); (case k3 => k_asm); (case k4 => k_asm); (case k5 => k_asm); (case k6 => k_is); (case k7 => k_is); (case k8 => ktr_room); (case k9 => exact BindsTo.of_eq rfl); (case kB => exact rfl); (case kD => decide +kernel); (case c2 => exact rfl); (case c3 => exact rfl); (case c4 => exact rfl); k_whole; intro g' L' h' tk' cells' FG' F' N' Y' B' X' T' l1; (try k_lt l1); (have hY := CellsAre.one Y'); (obtain ⟨oc, hE, dc⟩ := hY); subst hE; (try simp only [List.cons_append, List.nil_append] at N'); (try dsimp only); (try k_fold))
  k_steps
  (try dsimp only)
  refine comp_tup rfl (by k_asm) (by k_asm) (.tail _ (.tail _ (.tail _ hp))) (by rw [ForestIn.length hF]; omega) (fun i ys nx => ∃ u1 u2, nx = (L' + 1, oc) :: pst c x dx ((txts (ps.take i) (80 - d) l).2 : Nat) d u1 u2 rest ∧ StrsAre ys (txts (ps.take i) (80 - d) l).1) ⟨_, _, rfl, .nil⟩ ?_ ?_ ?_
  · rintro i ys nx ⟨_, _, rfl, _⟩; exact .tail _ (.tail _ (.tail _ hp))
  · rintro i v ys nx own C h tk E' hi ⟨u1, u2, rfl, hys⟩ off F2 N2 ⟨mC, hnC, hmC⟩
    obtain ⟨t, hti, hTi⟩ := ForestIn.get hF hi
    have hWt := WFs.get hW hti
    have hI := square_ w t (hA t (List.mem_of_getElem? hti))
    have hT3 : TreeIn ((L' + 1, oc) :: (rest ++ own)) t v := TreeIn.mono (fun p hp => .tail _ (List.mem_append.mpr (.inl hp))) _ _ hTi
    have hl3 : (txts (ps.take i) (80 - d) l).2 ≤ 10000 := Nat.le_trans (txts_le _ _ _) hl
    have hall3 : ∀ p ∈ (L' + 1, oc) :: (rest ++ own), p.1 ≠ dx := by
      intro p hp
      rcases List.mem_cons.mp hp with rfl | hp
      · exact neN (by omega)
      · rcases List.mem_append.mp hp with hp | hp
        · exact hall p hp
        · exact Ne.symm (off _ (.tail _ (.tail _ (.head _))) p hp)
    have N3 : News g' L' h (pst c x dx ((txts (ps.take i) (80 - d) l).2 : Nat) d u1 u2 ((L' + 1, oc) :: (rest ++ own))) := rot1 N2
    have hsn : txts (ps.take (i + 1)) (80 - d) l = ((txts (ps.take i) (80 - d) l).1 ++ [(txt t (80 - d) (txts (ps.take i) (80 - d) l).2).1], (txt t (80 - d) (txts (ps.take i) (80 - d) l).2).2) := by
      rw [List.take_add_one, hti]; exact txts_snoc _ _ _ _
    k_steps
    refine ⟨_, _, (L' + 1, oc) :: pst c x dx ((txt t (80 - d) (txts (ps.take i) (80 - d) l).2).2 : Nat) d _ _ rest, rfl, by k_asm, unrot1 (by k_asm), ?_, ⟨_, _, by rw [hsn], by rw [hsn]; exact StrsAre.snoc hys _ _⟩⟩
    intro p hp q hq
    simp only [List.mem_cons] at hp
    rcases hp with rfl | rfl | rfl | hp
    · exact off _ (.head _) q hq
    · exact off _ (.tail _ (.head _)) q hq
    · exact off _ (.tail _ (.tail _ (.head _))) q hq
    · exact off _ (.tail _ (.tail _ (.tail _ hp))) q hq
  · rintro ys nx D e h tk ⟨u1, u2, rfl, hys⟩ F2 N2 off
    rw [ForestIn.length hF, List.take_of_length_le (Nat.le_refl _)] at N2 hys
    have hjs := join_small (k := 80 - d) hW hlen hl
    change StrsAre ys (txts ps (80 - d) l).1 at hys
    have hs3 : (Str.join (Str.ofString ", ") (txts ps (80 - d) l).1).length ≤ 400000 := hs2
    have e1 : glue .vec (txts ps (80 - d) l).1 = Str.ofString "[" ++ Str.join (Str.ofString ", ") (txts ps (80 - d) l).1 ++ Str.ofString "]" := rfl
    rw [e1] at hret
    k_steps
    exact hret _ _ _ _ (by k_asm) (dropF2 (by k_asm)) ⟨_, _, _, _, _, _, rfl, rfl, by decide, neN (by omega)⟩
theorem words25 : True := by
  k_with_none
  trivial
theorem unr_end {h₀ h' : Heap} {L : Addr} {m' : Str → Option Value} {s₁ : Shared} {tk : Nat} {a b i : Addr × Obj} {r : List (Addr × Obj)} {rest : (Str → Option Value) → List (Addr × Obj) → Prop} (F : Fr h₀ L h' m') (N : News h₀ L h' (a :: b :: i :: r)) (off : ∀ p ∈ a :: b :: r, p.1 ≠ i.1) (k : rest m' (a :: b :: r)) :
    UnrEndW h₀ L s₁ [i] rest { s₁ with heap := h', toks := tk } :=
  ⟨h', tk, m', a :: b :: r, rfl, F, fun p hp => N p (by
    simp only [List.cons_append, List.nil_append, List.mem_cons] at hp ⊢; rcases hp with h | h | h | h <;> simp [h]), fun p hp q hq e => off p hp (by rw [List.mem_singleton.mp hq] at e; exact e), k⟩
theorem words26 : True := by
  k_with "eval Call" => (k_here; (with_reducible show wpAny _ _ (eval (Expr.Call (Expr.Name _ _) _ _ _) _) _ _ _); k_dflt (refine Call_ ?_))
  k_with "compareOp In str ref" => (k_here; k_dflt (first
    | (refine' in_top ?F ?X ?l ?k ?e ?_; (case F => k_asm); (case X => k_asm); (case l => k_is); (case k => (repeat constructor)); (case e => first | decide | exact plain_any (by assumption) _ (by decide)); k_whole)
    | (refine' in_topT ?F ?X ?l ?k ?e ?_; (case F => k_asm); (case X => k_asm); (case l => k_is); (case k => (repeat constructor)); (case e => decide); k_whole)))
  k_with "call ref" => (k_here; (with_reducible show wpAny _ _ (call (Value.ref 21) _) _ _ _); k_dflt (first
    | (refine' Calls.use (is_expr_two _ _ _ _ _ _ _ _ _ ?m2 ?m1) ?k1 ?k2 ?k3 ?k4 ?k5 ?kK ?kd ?ku ?_; (case k1 => k_asm); (case k2 => k_asm); (case k3 => k_asm); (case k4 => k_asm); (case m1 => k_mem); (case m2 => decide); (case k5 => k_asm); (case kK => first | exact rfl | assumption); (case kd => ktr_room); (case ku => ktr_units); intro r9 n9 h9 t9 F9 N9 ho9; (obtain ⟨e1, e2⟩ := ho9; subst e1; subst e2); (try k_sweep))
    | (refine' Calls.use (is_expr_ne _ _ _ _ _ _ _ _ _ _ ?m2 ?m1) ?k1 ?k2 ?k3 ?k4 ?k5 ?kK ?kd ?ku ?_; (case k1 => k_asm); (case k2 => k_asm); (case k3 => k_asm); (case k4 => k_asm); (case m1 => k_mem); (case m2 => first | assumption | decide); (case k5 => k_asm); (case kK => first | exact rfl | assumption); (case kd => ktr_room); (case ku => ktr_units); intro r9 n9 h9 t9 F9 N9 ho9; (obtain ⟨e1, e2⟩ := ho9; subst e1; subst e2); (try k_sweep))
    | (refine' Calls.use (is_expr_expr _ _ _ _ _ _ _ _ _ _ ?m1) ?k1 ?k2 ?k3 ?k4 ?k5 ?kK ?kd ?ku ?_; (case k1 => k_asm); (case k2 => k_asm); (case k3 => k_asm); (case k4 => k_asm); (case m1 => k_mem); (case k5 => k_asm); (case kK => first | exact rfl | assumption); (case kd => ktr_room); (case ku => ktr_units); intro r9 n9 h9 t9 F9 N9 ho9; (obtain ⟨e1, e2⟩ := ho9; subst e1; subst e2); (try k_sweep))))
  k_with "call ref" => (k_here; (with_reducible show wpAny _ _ (call (Value.ref 28) _) _ _ _); k_dflt (first
    | (refine' Calls.use (parts_of_expr _ _ _ _ _ _ _ _ ?m1) ?k1 ?k2 ?k3 ?k4 ?k5 ?kK ?kd ?ku ?_; (case k1 => k_asm); (case k2 => k_asm); (case k3 => k_asm); (case k4 => k_asm); (case m1 => k_mem); (case k5 => k_asm); (case kK => first | exact rfl | assumption); (case kd => ktr_room); (case ku => ktr_units); intro r9 n9 h9 t9 F9 N9 ho9; (obtain ⟨e1, e2⟩ := ho9; subst e1; subst e2); (try k_sweep))))
  k_with "call ref" => (k_here; (with_reducible show wpAny _ _ (call (Value.ref 35) _) _ _ _); k_dflt (first
    | (refine' Calls.use (is_sym_ _ _ _ _ _ _ _ ?m1) ?k1 ?k2 ?k3 ?k4 ?k5 ?kK ?kd ?ku ?_; (case k1 => k_asm); (case k2 => k_asm); (case k3 => k_asm); (case k4 => k_asm); (case m1 => k_mem); (case k5 => k_asm); (case kK => first | exact rfl | assumption); (case kd => ktr_room); (case ku => ktr_units); intro r9 n9 h9 t9 F9 N9 ho9; (obtain ⟨e1, e2⟩ := ho9; subst e1; subst e2); (try k_sweep))))
  k_with "call ref" => (k_here; (with_reducible show wpAny _ _ (call (Value.ref 21) _) _ _ _); k_dflt (first
    | (refine' Calls.use (is_expr_two _ _ _ _ _ _ _ _ _ ?m2 ?m1) ?k1 ?k2 ?k3 ?k4 ?k5 ?kK ?kd ?ku ?_; (case k1 => k_asm); (case k2 => k_asm); (case k3 => k_asm); (case k4 => k_asm); (case m1 => k_mem); (case m2 => decide); (case k5 => k_asm); (case kK => first | exact rfl | assumption); (case kd => ktr_room); (case ku => ktr_units); intro r9 n9 h9 t9 F9 N9 ho9; (obtain ⟨e1, e2⟩ := ho9; subst e1; subst e2); (try k_sweep))
    | (refine' Calls.use (is_expr_ne _ _ _ _ _ _ _ _ _ _ ?m2 ?m1) ?k1 ?k2 ?k3 ?k4 ?k5 ?kK ?kd ?ku ?_; (case k1 => k_asm); (case k2 => k_asm); (case k3 => k_asm); (case k4 => k_asm); (case m1 => k_mem); (case m2 => first | assumption | decide); (case k5 => k_asm); (case kK => first | exact rfl | assumption); (case kd => ktr_room); (case ku => ktr_units); intro r9 n9 h9 t9 F9 N9 ho9; (obtain ⟨e1, e2⟩ := ho9; subst e1; subst e2); (try k_sweep))
    | (refine' Calls.use (is_expr_expr _ _ _ _ _ _ _ _ _ _ ?m1) ?k1 ?k2 ?k3 ?k4 ?k5 ?kK ?kd ?ku ?_; (case k1 => k_asm); (case k2 => k_asm); (case k3 => k_asm); (case k4 => k_asm); (case m1 => k_mem); (case k5 => k_asm); (case kK => first | exact rfl | assumption); (case kd => ktr_room); (case ku => ktr_units); intro r9 n9 h9 t9 F9 N9 ho9; (obtain ⟨e1, e2⟩ := ho9; subst e1; subst e2); (try k_sweep))
    | (refine' Calls.use (is_expr_tree _ _ ?mt _ _ _ ?m1 ?m2) ?k1 ?k2 ?k3 ?k4 ?k5 ?kK ?kd ?ku ?_; (case k1 => k_asm); (case k2 => k_asm); (case k3 => k_asm); (case k4 => k_asm); (case m1 => (first | assumption | exact TreeIn.mono (fun _ h => .tail _ (.tail _ h)) _ _ (by assumption) | exact TreeIn.mono (fun _ h => .tail _ (.tail _ (.tail _ h))) _ _ (by assumption) | exact TreeIn.mono (fun _ h => .tail _ (.tail _ (.tail _ (.tail _ h)))) _ _ (by assumption) | exact TreeIn.mono (fun _ h => .tail _ (.tail _ (.tail _ (.tail _ (.tail _ h))))) _ _ (by assumption))); (case m2 => decide); (case k5 => k_asm); (case kK => first | exact rfl | assumption); (case kd => ktr_room); (case ku => ktr_units); intro r9 n9 h9 t9 F9 N9 ho9; (obtain ⟨e1, e2⟩ := ho9; subst e1; subst e2); (try k_sweep))))
  k_with "call ref" => (k_here; (with_reducible show wpAny _ _ (call (Value.ref 141) _) _ _ _); k_dflt (first
    | (rename AtSpec _ _ => hA9; (refine' Calls.use (hA9 _ _ _ _ _ _ _ _ _ _ _ ?m1 ?m2 ?m3 ?m4 ?m5 ?m6 ?m7) ?k1 ?k2 ?k3 ?k4 ?k5 ?kK ?kd ?ku ?_; (case k1 => k_asm); (case k2 => k_asm); (case k3 => k_asm); (case k4 => (first | k_asm | exact rot1 (by k_asm) | exact rot2 (by k_asm) | exact rot3 (by k_asm) | exact rot4 (by k_asm) | exact rot5 (by k_asm) | exact rot6 (by k_asm) | exact rot7 (by k_asm) | exact rot8 (by k_asm) | exact rot9 (by k_asm))); (case m1 => (first | assumption | exact TreeIn.mono (fun _ h => .tail _ h) _ _ (by assumption) | exact TreeIn.mono (fun _ h => .tail _ (.tail _ h)) _ _ (by assumption) | exact TreeIn.mono (fun _ h => .tail _ (.tail _ (.tail _ h))) _ _ (by assumption) | exact TreeIn.mono (fun _ h => .tail _ (.tail _ (.tail _ (.tail _ h)))) _ _ (by assumption) | exact TreeIn.mono (fun _ h => .tail _ (.tail _ (.tail _ (.tail _ (.tail _ h))))) _ _ (by assumption) | exact TreeIn.mono (fun _ h => .tail _ (.tail _ (.tail _ (.tail _ (.tail _ (.tail _ h)))))) _ _ (by assumption) | exact TreeIn.mono (fun _ h => .tail _ (.tail _ (.tail _ (.tail _ (.tail _ (.tail _ (.tail _ h))))))) _ _ (by assumption) | exact TreeIn.mono (fun _ h => .tail _ (.tail _ (.tail _ (.tail _ (.tail _ (.tail _ (.tail _ (.tail _ h)))))))) _ _ (by assumption) | exact TreeIn.mono (fun _ h => .tail _ (.tail _ (.tail _ (.tail _ (.tail _ (.tail _ (.tail _ (.tail _ (.tail _ h))))))))) _ _ (by assumption))); (case m2 => assumption); (case m3 => assumption); (case m4 => assumption); (case m5 => assumption); (case m6 => (first | assumption | exact all_cons1 (neN (by omega)) (by assumption) | exact all_cons1 (neN (by omega)) (all_cons1 (neN (by omega)) (by assumption)) | exact all_cons1 (neN (by omega)) (all_cons1 (neN (by omega)) (all_cons1 (neN (by omega)) (by assumption))) | exact all_cons1 (neN (by omega)) (all_cons1 (neN (by omega)) (all_cons1 (neN (by omega)) (all_cons1 (neN (by omega)) (by assumption)))) | exact all_cons1 (neN (by omega)) (all_cons1 (neN (by omega)) (all_cons1 (neN (by omega)) (all_cons1 (neN (by omega)) (all_cons1 (neN (by omega)) (by assumption))))) | exact all_cons1 (neN (by omega)) (all_cons1 (neN (by omega)) (all_cons1 (neN (by omega)) (all_cons1 (neN (by omega)) (all_cons1 (neN (by omega)) (all_cons1 (neN (by omega)) (by assumption)))))) | exact all_cons1 (neN (by omega)) (all_cons1 (neN (by omega)) (all_cons1 (neN (by omega)) (all_cons1 (neN (by omega)) (all_cons1 (neN (by omega)) (all_cons1 (neN (by omega)) (all_cons1 (neN (by omega)) (by assumption))))))) | exact all_cons1 (neN (by omega)) (all_cons1 (neN (by omega)) (all_cons1 (neN (by omega)) (all_cons1 (neN (by omega)) (all_cons1 (neN (by omega)) (all_cons1 (neN (by omega)) (all_cons1 (neN (by omega)) (all_cons1 (neN (by omega)) (by assumption)))))))) | exact all_cons1 (neN (by omega)) (all_cons1 (neN (by omega)) (all_cons1 (neN (by omega)) (all_cons1 (neN (by omega)) (all_cons1 (neN (by omega)) (all_cons1 (neN (by omega)) (all_cons1 (neN (by omega)) (all_cons1 (neN (by omega)) (all_cons1 (neN (by omega)) (by assumption))))))))))); (case m7 => decide); (case k5 => k_asm); (case kK => first | exact rfl | assumption); (case kd => ktr_room); (case ku => ktr_units); intro r9 n9 h9 t9 F9 N9 ho9; (obtain ⟨t19, t29, tk9, e1, e2⟩ := ho9; subst e1; subst e2); (try k_sweep)))))
  k_with "compareOp Eq ref ref" => (k_here; k_dflt (first
    | (refine' eq_tups ?N ?u ?m1 ?m2 ?_; (case N => k_asm); (case u => ktr_units); (case m1 => k_mem); (case m2 => k_mem); k_whole)
    | (refine' eq_syms ?N ?u ?m1 ?m2 ?e ?_; (case N => k_asm); (case u => ktr_units); (case m1 => k_mem); (case m2 => k_mem); (case e => first | decide | exact plain_ne (by assumption) _ (by decide)); k_whole)
    | (refine' eq_int_sym ?N ?u ?m1 ?m2 ?_; (case N => k_asm); (case u => ktr_units); (case m1 => k_mem); (case m2 => k_mem); k_whole)))
  k_with "compareOp NotEq ref ref" => (k_here; k_dflt (first
    | (refine' ne_nil0 ?N ?u ?m1 ?m2 ?_; (case N => k_asm); (case u => ktr_units); (case m1 => k_mem); (case m2 => first | exact isTuple_of (by k_asm) (by k_mem)); k_whole)
    | (refine' ne_cons ?N ?u ?m1 ?m2 ?_; (case N => k_asm); (case u => ktr_units); (case m1 => k_mem); (case m2 => first | exact isTuple_of (by k_asm) (by k_mem)); k_whole)))
  k_with "subscriptTail" => (k_here; (with_reducible show wpAny _ _ (subscriptTail _ _ (Value.ref _) (Value.ref _)) _ _ _); (with_unfolding_all refine' slice1 ?F ?N ?m1 ?z ?_ ?hs ?hg; (case F => k_asm); (case N => k_asm); (case m1 => k_mem); (case z => (first | decide | omega | (simp only [List.length_cons, List.length_nil]; omega))); (case hs => exact rfl); (case hg => intro _; exact rfl); k_whole); intro q9 h9 F9 N9 l9; (try k_lt l9); (try k_sweep))
  k_with "subscriptTail" => (k_here; (with_reducible show wpAny _ _ (subscriptTail _ _ (Value.ref _) (Value.int 0 _)) _ _ _); (with_unfolding_all refine' item_first ?N ?m ?_ ?hs; (case N => k_asm); (case m => k_mem); (case hs => exact rfl); k_whole))
  k_with "subscriptTail" => (k_here; (with_reducible show wpAny _ _ (subscriptTail _ _ (Value.ref _) (Value.int 1 _)) _ _ _); (with_unfolding_all refine' item_second ?N ?m ?_ ?hs; (case N => k_asm); (case m => k_mem); (case hs => exact rfl); k_whole))
  k_with "call builtin:len" => (k_here; (with_reducible show wpAny _ _ (call (Value.builtin "len") [Value.ref _]) _ _ _); k_dflt (refine' len_tup ?N ?m ?z ?e ?_; (case N => k_asm); (case m => k_mem); (case z => (first | decide | omega | (simp only [List.length_cons, List.length_nil]; omega))); (case e => first | (simp only [List.length_cons, List.length_nil, Nat.zero_add, Nat.reduceAdd]; exact rfl) | exact rfl); k_whole))
  k_with "eval Name" => (k_here; (with_reducible show wpAny _ _ (eval (Expr.Name _ _) (compEnvC _ _ _ _)) _ _ _); k_dflt (first
    | (refine' comp_local ?n ?v ?_ ?a ?b ?d; (case n => k_asm); (case v => first | assumption | exact rfl); (case a => exact rfl); (case b => exact rfl); (case d => decide); k_whole)
    | (refine' comp_cell ?N ?c ?m ?d ?_ ?a ?b ?e; (case N => k_asm); (case c => exact rfl); (case m => k_mem); (case d => first | assumption | exact rfl); (case a => exact rfl); (case b => exact rfl); (case e => decide); k_whole)
    | (refine' nameG_K ?F ?X ?T ?e ?_ ?g ?k ?x ?d; (case F => k_asm); (case X => k_asm); (case T => k_asm); (case e => k_is); (case g => exact rfl); (case k => exact rfl); (case x => exact rfl); (case d => decide); k_whole)))
  k_with "eval Call Attribute" => (k_here; (with_reducible show wpAny _ _ (eval (Expr.Call (Expr.Attribute _ _ _) _ _ _) _) _ _ _); k_dflt (refine MethodCall_ ?_))
  k_with "eval ListComp" => (k_here; k_dflt ((refine' comp_inv ?c1 ?c2 ?c3 ?c4 ?c5 ?_ ?c6); (case c1 => with_unfolding_all exact rfl); (case c2 => decide); (case c3 => exact rfl); (case c4 => decide); (case c5 => exact rfl); (case c6 => intro _; exact rfl); k_whole))
  k_with "call builtin:str.join" => (k_here; (with_reducible show wpAny _ _ (call (Value.builtin "str.join") [Value.str _ _, Value.ref _]) _ _ _); (with_reducible rename StrsAre _ _ => hS9); k_dflt (refine' join_mine (News.isList ?N ?m) ?i ?k ?_; (case N => k_asm); (case m => k_mem); (case i => simpa using hS9); (case k => assumption)); intro t9 k9)
  k_with "UnrEndW" => (k_here; k_dflt (refine' unr_end ?F ?N ?off ⟨?sb, ?_⟩; (case F => k_asm); (case N => k_asm); (case off => ((repeat' (first | (refine tbn_neAll ?_; tbn_find) | (refine all_cons1 (neN (by omega)) ?_))))); (case sb => k_subL)))
  k_with "call ref" => (k_here; (with_reducible show wpAny _ _ (call (Value.ref 158) _) _ _ _); k_dflt (first
    | (rename CallsGP _ 158 _ _ _ _ _ _ _ _ _ _ _ => hG9; (refine' Calls.use (hG9 _ _ _ ?m1 ?m2) ?k1 ?k2 ?k3 ?k4 ?k5 ?kK ?kd ?ku ?_; (case k1 => k_asm); (case k2 => k_asm); (case k3 => k_asm); (case k4 => (first | k_asm | exact rot1 (by k_asm) | exact rot2 (by k_asm) | exact rot3 (by k_asm) | exact rot4 (by k_asm) | exact rot5 (by k_asm) | exact rot6 (by k_asm) | exact rot7 (by k_asm) | exact rot8 (by k_asm) | exact rot9 (by k_asm))); (case m1 => (first | exact fun _ h => h | exact (fun _ h => .tail _ h) | exact (fun _ h => .tail _ (.tail _ h)) | exact (fun _ h => .tail _ (.tail _ (.tail _ h))) | exact (fun _ h => .tail _ (.tail _ (.tail _ (.tail _ h)))) | exact (fun _ h => .tail _ (.tail _ (.tail _ (.tail _ (.tail _ h))))) | exact (fun _ h => .tail _ (.tail _ (.tail _ (.tail _ (.tail _ (.tail _ h)))))) | exact (fun _ h => .tail _ (.tail _ (.tail _ (.tail _ (.tail _ (.tail _ (.tail _ h))))))) | exact (fun _ h => .tail _ (.tail _ (.tail _ (.tail _ (.tail _ (.tail _ (.tail _ (.tail _ h)))))))) | exact (fun _ h => .tail _ (.tail _ (.tail _ (.tail _ (.tail _ (.tail _ (.tail _ (.tail _ (.tail _ h))))))))))); (case m2 => (first | assumption | exact all_cons1 (neN (by omega)) (by assumption) | exact all_cons1 (neN (by omega)) (all_cons1 (neN (by omega)) (by assumption)) | exact all_cons1 (neN (by omega)) (all_cons1 (neN (by omega)) (all_cons1 (neN (by omega)) (by assumption))) | exact all_cons1 (neN (by omega)) (all_cons1 (neN (by omega)) (all_cons1 (neN (by omega)) (all_cons1 (neN (by omega)) (by assumption)))) | exact all_cons1 (neN (by omega)) (all_cons1 (neN (by omega)) (all_cons1 (neN (by omega)) (all_cons1 (neN (by omega)) (all_cons1 (neN (by omega)) (by assumption))))) | exact all_cons1 (neN (by omega)) (all_cons1 (neN (by omega)) (all_cons1 (neN (by omega)) (all_cons1 (neN (by omega)) (all_cons1 (neN (by omega)) (all_cons1 (neN (by omega)) (by assumption)))))) | exact all_cons1 (neN (by omega)) (all_cons1 (neN (by omega)) (all_cons1 (neN (by omega)) (all_cons1 (neN (by omega)) (all_cons1 (neN (by omega)) (all_cons1 (neN (by omega)) (all_cons1 (neN (by omega)) (by assumption))))))) | exact all_cons1 (neN (by omega)) (all_cons1 (neN (by omega)) (all_cons1 (neN (by omega)) (all_cons1 (neN (by omega)) (all_cons1 (neN (by omega)) (all_cons1 (neN (by omega)) (all_cons1 (neN (by omega)) (all_cons1 (neN (by omega)) (by assumption)))))))) | exact all_cons1 (neN (by omega)) (all_cons1 (neN (by omega)) (all_cons1 (neN (by omega)) (all_cons1 (neN (by omega)) (all_cons1 (neN (by omega)) (all_cons1 (neN (by omega)) (all_cons1 (neN (by omega)) (all_cons1 (neN (by omega)) (all_cons1 (neN (by omega)) (by assumption))))))))))); (case k5 => k_asm); (case kK => first | exact rfl | assumption); (case kd => ktr_room); (case ku => ktr_units); intro r9 n9 h9 t9 F9 N9 ho9; (obtain ⟨t19, t29, q9, lev9, tk19, tk29, e1, e2, hl9, hq9⟩ := ho9; subst e1; subst e2); (try k_sweep)))))
  trivial
theorem head_call (w : World) (c : PC) (x dx : Addr) (rest : List (Addr × Obj)) (l d : Nat) (t1 t2 : Nat) (hl : l ≤ 10000) (hd8 : d ≤ 80) (hne : x ≠ dx) (hall : ∀ p ∈ rest, p.1 ≠ dx) (a1 p1 : Addr) (tk1 tk2 n1 n2 : Nat) (hm : (a1, tupOf [.str (Str.ofString "expr") tk1, .str (Str.ofString "call") tk2, .ref p1] n1) ∈ rest) (need ku : Nat) (hnd : 4 ≤ need) (hku : 40 ≤ ku) (l' : Int) (tx : Str) (hb : CallsGP w 158 [.ref x, .ref a1] need ku c x dx l d rest l' tx) :
  Calls w 153 [.ref x, .str (Str.ofString "call") tk2, .ref a1] (need + 1) (ku + 4) (pst c x dx l d t1 t2 rest) (PairPost c x dx l' d tx rest) := by
  unfold Calls; k_fill
  intro mean mg mb dp un gd cn cs a ccd cl outer A₀ base h₀ L m st R B F X N T hk hdp hun hret
  k_dflt (refine' code_defC ?k1 ?k2 ?k3 ?k4 ?k5 ?kA ?kF ?kK ?k6 ?k7 ?k8 ?k9 ?kB ?kD ?_ ?c2 ?c3 ?c4; (case kA => exact rfl); (case kF => exact rfl); (case kK => assumption); (case k1 => k_asm); (case k2 => k_asm); (case k3 => k_asm); (case k4 => k_asm); (case k5 => k_asm); (case k6 => k_is); (case k7 => k_is); (case k8 => ktr_room); (case k9 => exact BindsTo.of_eq rfl); (case kB => exact rfl); (case kD => decide +kernel); (case c2 => exact rfl); (case c3 => exact rfl); (case c4 => exact rfl); k_whole; intro g' L' h' tk' cells' FG' F' N' Y' B' X' T' l1; (try k_lt l1); (have hY := CellsAre.one Y'); (obtain ⟨oc, hE, dc⟩ := hY); subst hE; (try simp only [List.cons_append, List.nil_append] at N'); (try dsimp only); (try k_fold))
  k_steps
  exact hret _ _ _ _ (by k_asm) (by first | k_asm | exact dropT1 (by k_asm) | exact dropT2 (by k_asm) | exact dropT3 (by k_asm) | exact dropT4 (by k_asm) | exact dropT5 (by k_asm) | exact dropT6 (by k_asm) | exact dropT7 (by k_asm) | exact dropT8 (by k_asm) | exact dropT9 (by k_asm)) ⟨_, _, _, _, _, _, rfl, rfl, by assumption, by assumption⟩
theorem words27 : True := by
  k_with "pyIter ref" => (k_here; (with_reducible show wpAny _ _ (pyIter (Value.ref _)) (fun it s₂ => TurnsAt _ _ _ _ _ _ _ _ _ it s₂) _ _); (rename Fr _ _ _ _ => lF'); (with_unfolding_all refine iter_tupTurns (by rfl) lF' (by k_asm) (by k_mem) (by rfl) (by rfl) ?_); clear lF'; intro i' l1; (try k_lt l1))
  k_with "call ref" => (k_here; k_dflt (first | (refine' Calls.useM (joined_dot _ _ _ _ _ _ _ _ _ ?m3 ?m2 _ _ _ _ _ 0 ?m1 _) ?k0 ?kq ?k1 ?k2 ?k3 ?k4 ?k5 ?kK ?kd ?ku ?_; (case k0 => k_asm); (case kq => k_mem); (case k1 => k_asm); (case k2 => k_asm); (case k3 => k_asm); (case k4 => (first | k_asm | exact rot1 (by k_asm) | exact rot2 (by k_asm) | exact rot3 (by k_asm) | exact rot4 (by k_asm) | exact rot5 (by k_asm) | exact rot6 (by k_asm) | exact rot7 (by k_asm) | exact rot8 (by k_asm) | exact rot9 (by k_asm))); (case m1 => k_mem); (case m2 => (first | assumption | exact all_cons1 (neN (by omega)) (by assumption) | exact all_cons1 (neN (by omega)) (all_cons1 (neN (by omega)) (by assumption)) | exact all_cons1 (neN (by omega)) (all_cons1 (neN (by omega)) (all_cons1 (neN (by omega)) (by assumption))) | exact all_cons1 (neN (by omega)) (all_cons1 (neN (by omega)) (all_cons1 (neN (by omega)) (all_cons1 (neN (by omega)) (by assumption)))) | exact all_cons1 (neN (by omega)) (all_cons1 (neN (by omega)) (all_cons1 (neN (by omega)) (all_cons1 (neN (by omega)) (all_cons1 (neN (by omega)) (by assumption))))) | exact all_cons1 (neN (by omega)) (all_cons1 (neN (by omega)) (all_cons1 (neN (by omega)) (all_cons1 (neN (by omega)) (all_cons1 (neN (by omega)) (all_cons1 (neN (by omega)) (by assumption)))))) | exact all_cons1 (neN (by omega)) (all_cons1 (neN (by omega)) (all_cons1 (neN (by omega)) (all_cons1 (neN (by omega)) (all_cons1 (neN (by omega)) (all_cons1 (neN (by omega)) (all_cons1 (neN (by omega)) (by assumption))))))) | exact all_cons1 (neN (by omega)) (all_cons1 (neN (by omega)) (all_cons1 (neN (by omega)) (all_cons1 (neN (by omega)) (all_cons1 (neN (by omega)) (all_cons1 (neN (by omega)) (all_cons1 (neN (by omega)) (all_cons1 (neN (by omega)) (by assumption)))))))) | exact all_cons1 (neN (by omega)) (all_cons1 (neN (by omega)) (all_cons1 (neN (by omega)) (all_cons1 (neN (by omega)) (all_cons1 (neN (by omega)) (all_cons1 (neN (by omega)) (all_cons1 (neN (by omega)) (all_cons1 (neN (by omega)) (all_cons1 (neN (by omega)) (by assumption))))))))))); (case m3 => assumption); (case k5 => k_asm); (case kK => first | exact rfl | assumption); (case kd => ktr_room); (case ku => ktr_units); intro r9 n9 h9 t9 F9 N9 ho9; (obtain ⟨t19, t29, e1, e2⟩ := ho9; subst e1; subst e2); (try k_sweep)) | (refine' Calls.useM (joined_ref _ _ _ _ _ _ _ _ _ ?m3 ?m2 _ _ _ _ _ 0 ?m1 _) ?k0 ?kq ?k1 ?k2 ?k3 ?k4 ?k5 ?kK ?kd ?ku ?_; (case k0 => k_asm); (case kq => k_mem); (case k1 => k_asm); (case k2 => k_asm); (case k3 => k_asm); (case k4 => (first | k_asm | exact rot1 (by k_asm) | exact rot2 (by k_asm) | exact rot3 (by k_asm) | exact rot4 (by k_asm) | exact rot5 (by k_asm) | exact rot6 (by k_asm) | exact rot7 (by k_asm) | exact rot8 (by k_asm) | exact rot9 (by k_asm))); (case m1 => k_mem); (case m2 => (first | assumption | exact all_cons1 (neN (by omega)) (by assumption) | exact all_cons1 (neN (by omega)) (all_cons1 (neN (by omega)) (by assumption)) | exact all_cons1 (neN (by omega)) (all_cons1 (neN (by omega)) (all_cons1 (neN (by omega)) (by assumption))) | exact all_cons1 (neN (by omega)) (all_cons1 (neN (by omega)) (all_cons1 (neN (by omega)) (all_cons1 (neN (by omega)) (by assumption)))) | exact all_cons1 (neN (by omega)) (all_cons1 (neN (by omega)) (all_cons1 (neN (by omega)) (all_cons1 (neN (by omega)) (all_cons1 (neN (by omega)) (by assumption))))) | exact all_cons1 (neN (by omega)) (all_cons1 (neN (by omega)) (all_cons1 (neN (by omega)) (all_cons1 (neN (by omega)) (all_cons1 (neN (by omega)) (all_cons1 (neN (by omega)) (by assumption)))))) | exact all_cons1 (neN (by omega)) (all_cons1 (neN (by omega)) (all_cons1 (neN (by omega)) (all_cons1 (neN (by omega)) (all_cons1 (neN (by omega)) (all_cons1 (neN (by omega)) (all_cons1 (neN (by omega)) (by assumption))))))) | exact all_cons1 (neN (by omega)) (all_cons1 (neN (by omega)) (all_cons1 (neN (by omega)) (all_cons1 (neN (by omega)) (all_cons1 (neN (by omega)) (all_cons1 (neN (by omega)) (all_cons1 (neN (by omega)) (all_cons1 (neN (by omega)) (by assumption)))))))) | exact all_cons1 (neN (by omega)) (all_cons1 (neN (by omega)) (all_cons1 (neN (by omega)) (all_cons1 (neN (by omega)) (all_cons1 (neN (by omega)) (all_cons1 (neN (by omega)) (all_cons1 (neN (by omega)) (all_cons1 (neN (by omega)) (all_cons1 (neN (by omega)) (by assumption))))))))))); (case m3 => assumption); (case k5 => k_asm); (case kK => first | exact rfl | assumption); (case kd => ktr_room); (case ku => ktr_units); intro r9 n9 h9 t9 F9 N9 ho9; (obtain ⟨t19, t29, e1, e2⟩ := ho9; subst e1; subst e2); (try k_sweep)) | (refine' Calls.useM (joined_tup _ _ _ _ _ _ _ _ _ ?m3 ?m2 _ _ _ _ _ 0 ?m1 _) ?k0 ?kq ?k1 ?k2 ?k3 ?k4 ?k5 ?kK ?kd ?ku ?_; (case k0 => k_asm); (case kq => k_mem); (case k1 => k_asm); (case k2 => k_asm); (case k3 => k_asm); (case k4 => (first | k_asm | exact rot1 (by k_asm) | exact rot2 (by k_asm) | exact rot3 (by k_asm) | exact rot4 (by k_asm) | exact rot5 (by k_asm) | exact rot6 (by k_asm) | exact rot7 (by k_asm) | exact rot8 (by k_asm) | exact rot9 (by k_asm))); (case m1 => k_mem); (case m2 => (first | assumption | exact all_cons1 (neN (by omega)) (by assumption) | exact all_cons1 (neN (by omega)) (all_cons1 (neN (by omega)) (by assumption)) | exact all_cons1 (neN (by omega)) (all_cons1 (neN (by omega)) (all_cons1 (neN (by omega)) (by assumption))) | exact all_cons1 (neN (by omega)) (all_cons1 (neN (by omega)) (all_cons1 (neN (by omega)) (all_cons1 (neN (by omega)) (by assumption)))) | exact all_cons1 (neN (by omega)) (all_cons1 (neN (by omega)) (all_cons1 (neN (by omega)) (all_cons1 (neN (by omega)) (all_cons1 (neN (by omega)) (by assumption))))) | exact all_cons1 (neN (by omega)) (all_cons1 (neN (by omega)) (all_cons1 (neN (by omega)) (all_cons1 (neN (by omega)) (all_cons1 (neN (by omega)) (all_cons1 (neN (by omega)) (by assumption)))))) | exact all_cons1 (neN (by omega)) (all_cons1 (neN (by omega)) (all_cons1 (neN (by omega)) (all_cons1 (neN (by omega)) (all_cons1 (neN (by omega)) (all_cons1 (neN (by omega)) (all_cons1 (neN (by omega)) (by assumption))))))) | exact all_cons1 (neN (by omega)) (all_cons1 (neN (by omega)) (all_cons1 (neN (by omega)) (all_cons1 (neN (by omega)) (all_cons1 (neN (by omega)) (all_cons1 (neN (by omega)) (all_cons1 (neN (by omega)) (all_cons1 (neN (by omega)) (by assumption)))))))) | exact all_cons1 (neN (by omega)) (all_cons1 (neN (by omega)) (all_cons1 (neN (by omega)) (all_cons1 (neN (by omega)) (all_cons1 (neN (by omega)) (all_cons1 (neN (by omega)) (all_cons1 (neN (by omega)) (all_cons1 (neN (by omega)) (all_cons1 (neN (by omega)) (by assumption))))))))))); (case m3 => assumption); (case k5 => k_asm); (case kK => first | exact rfl | assumption); (case kd => ktr_room); (case ku => ktr_units); intro r9 n9 h9 t9 F9 N9 ho9; (obtain ⟨t19, t29, e1, e2⟩ := ho9; subst e1; subst e2); (try k_sweep)) | (refine' Calls.useM (joined_vec _ _ _ _ _ _ _ _ _ ?m3 ?m2 _ _ _ _ _ 0 ?m1 _) ?k0 ?kq ?k1 ?k2 ?k3 ?k4 ?k5 ?kK ?kd ?ku ?_; (case k0 => k_asm); (case kq => k_mem); (case k1 => k_asm); (case k2 => k_asm); (case k3 => k_asm); (case k4 => (first | k_asm | exact rot1 (by k_asm) | exact rot2 (by k_asm) | exact rot3 (by k_asm) | exact rot4 (by k_asm) | exact rot5 (by k_asm) | exact rot6 (by k_asm) | exact rot7 (by k_asm) | exact rot8 (by k_asm) | exact rot9 (by k_asm))); (case m1 => k_mem); (case m2 => (first | assumption | exact all_cons1 (neN (by omega)) (by assumption) | exact all_cons1 (neN (by omega)) (all_cons1 (neN (by omega)) (by assumption)) | exact all_cons1 (neN (by omega)) (all_cons1 (neN (by omega)) (all_cons1 (neN (by omega)) (by assumption))) | exact all_cons1 (neN (by omega)) (all_cons1 (neN (by omega)) (all_cons1 (neN (by omega)) (all_cons1 (neN (by omega)) (by assumption)))) | exact all_cons1 (neN (by omega)) (all_cons1 (neN (by omega)) (all_cons1 (neN (by omega)) (all_cons1 (neN (by omega)) (all_cons1 (neN (by omega)) (by assumption))))) | exact all_cons1 (neN (by omega)) (all_cons1 (neN (by omega)) (all_cons1 (neN (by omega)) (all_cons1 (neN (by omega)) (all_cons1 (neN (by omega)) (all_cons1 (neN (by omega)) (by assumption)))))) | exact all_cons1 (neN (by omega)) (all_cons1 (neN (by omega)) (all_cons1 (neN (by omega)) (all_cons1 (neN (by omega)) (all_cons1 (neN (by omega)) (all_cons1 (neN (by omega)) (all_cons1 (neN (by omega)) (by assumption))))))) | exact all_cons1 (neN (by omega)) (all_cons1 (neN (by omega)) (all_cons1 (neN (by omega)) (all_cons1 (neN (by omega)) (all_cons1 (neN (by omega)) (all_cons1 (neN (by omega)) (all_cons1 (neN (by omega)) (all_cons1 (neN (by omega)) (by assumption)))))))) | exact all_cons1 (neN (by omega)) (all_cons1 (neN (by omega)) (all_cons1 (neN (by omega)) (all_cons1 (neN (by omega)) (all_cons1 (neN (by omega)) (all_cons1 (neN (by omega)) (all_cons1 (neN (by omega)) (all_cons1 (neN (by omega)) (all_cons1 (neN (by omega)) (by assumption))))))))))); (case m3 => assumption); (case k5 => k_asm); (case kK => first | exact rfl | assumption); (case kd => ktr_room); (case ku => ktr_units); intro r9 n9 h9 t9 F9 N9 ho9; (obtain ⟨t19, t29, e1, e2⟩ := ho9; subst e1; subst e2); (try k_sweep))))
  k_with "call ref" => (k_here; k_dflt (first | (refine' Calls.useM (postfix_tup _ _ _ _ _ _ _ _ _ ?m3 ?m2 _ _ _ _ _ 0 ?m1 _) ?k0 ?kq ?k1 ?k2 ?k3 ?k4 ?k5 ?kK ?kd ?ku ?_; (case k0 => k_asm); (case kq => k_mem); (case k1 => k_asm); (case k2 => k_asm); (case k3 => k_asm); (case k4 => (first | k_asm | exact rot1 (by k_asm) | exact rot2 (by k_asm) | exact rot3 (by k_asm) | exact rot4 (by k_asm) | exact rot5 (by k_asm) | exact rot6 (by k_asm) | exact rot7 (by k_asm) | exact rot8 (by k_asm) | exact rot9 (by k_asm))); (case m1 => k_mem); (case m2 => (first | assumption | exact all_cons1 (neN (by omega)) (by assumption) | exact all_cons1 (neN (by omega)) (all_cons1 (neN (by omega)) (by assumption)) | exact all_cons1 (neN (by omega)) (all_cons1 (neN (by omega)) (all_cons1 (neN (by omega)) (by assumption))) | exact all_cons1 (neN (by omega)) (all_cons1 (neN (by omega)) (all_cons1 (neN (by omega)) (all_cons1 (neN (by omega)) (by assumption)))) | exact all_cons1 (neN (by omega)) (all_cons1 (neN (by omega)) (all_cons1 (neN (by omega)) (all_cons1 (neN (by omega)) (all_cons1 (neN (by omega)) (by assumption))))) | exact all_cons1 (neN (by omega)) (all_cons1 (neN (by omega)) (all_cons1 (neN (by omega)) (all_cons1 (neN (by omega)) (all_cons1 (neN (by omega)) (all_cons1 (neN (by omega)) (by assumption)))))) | exact all_cons1 (neN (by omega)) (all_cons1 (neN (by omega)) (all_cons1 (neN (by omega)) (all_cons1 (neN (by omega)) (all_cons1 (neN (by omega)) (all_cons1 (neN (by omega)) (all_cons1 (neN (by omega)) (by assumption))))))) | exact all_cons1 (neN (by omega)) (all_cons1 (neN (by omega)) (all_cons1 (neN (by omega)) (all_cons1 (neN (by omega)) (all_cons1 (neN (by omega)) (all_cons1 (neN (by omega)) (all_cons1 (neN (by omega)) (all_cons1 (neN (by omega)) (by assumption)))))))) | exact all_cons1 (neN (by omega)) (all_cons1 (neN (by omega)) (all_cons1 (neN (by omega)) (all_cons1 (neN (by omega)) (all_cons1 (neN (by omega)) (all_cons1 (neN (by omega)) (all_cons1 (neN (by omega)) (all_cons1 (neN (by omega)) (all_cons1 (neN (by omega)) (by assumption))))))))))); (case m3 => assumption); (case k5 => k_asm); (case kK => first | exact rfl | assumption); (case kd => ktr_room); (case ku => ktr_units); intro r9 n9 h9 t9 F9 N9 ho9; (obtain ⟨t19, t29, e1, e2⟩ := ho9; subst e1; subst e2); (try k_sweep)) | (refine' Calls.useM (postfix_vec _ _ _ _ _ _ _ _ _ ?m3 ?m2 _ _ _ _ _ 0 ?m1 _) ?k0 ?kq ?k1 ?k2 ?k3 ?k4 ?k5 ?kK ?kd ?ku ?_; (case k0 => k_asm); (case kq => k_mem); (case k1 => k_asm); (case k2 => k_asm); (case k3 => k_asm); (case k4 => (first | k_asm | exact rot1 (by k_asm) | exact rot2 (by k_asm) | exact rot3 (by k_asm) | exact rot4 (by k_asm) | exact rot5 (by k_asm) | exact rot6 (by k_asm) | exact rot7 (by k_asm) | exact rot8 (by k_asm) | exact rot9 (by k_asm))); (case m1 => k_mem); (case m2 => (first | assumption | exact all_cons1 (neN (by omega)) (by assumption) | exact all_cons1 (neN (by omega)) (all_cons1 (neN (by omega)) (by assumption)) | exact all_cons1 (neN (by omega)) (all_cons1 (neN (by omega)) (all_cons1 (neN (by omega)) (by assumption))) | exact all_cons1 (neN (by omega)) (all_cons1 (neN (by omega)) (all_cons1 (neN (by omega)) (all_cons1 (neN (by omega)) (by assumption)))) | exact all_cons1 (neN (by omega)) (all_cons1 (neN (by omega)) (all_cons1 (neN (by omega)) (all_cons1 (neN (by omega)) (all_cons1 (neN (by omega)) (by assumption))))) | exact all_cons1 (neN (by omega)) (all_cons1 (neN (by omega)) (all_cons1 (neN (by omega)) (all_cons1 (neN (by omega)) (all_cons1 (neN (by omega)) (all_cons1 (neN (by omega)) (by assumption)))))) | exact all_cons1 (neN (by omega)) (all_cons1 (neN (by omega)) (all_cons1 (neN (by omega)) (all_cons1 (neN (by omega)) (all_cons1 (neN (by omega)) (all_cons1 (neN (by omega)) (all_cons1 (neN (by omega)) (by assumption))))))) | exact all_cons1 (neN (by omega)) (all_cons1 (neN (by omega)) (all_cons1 (neN (by omega)) (all_cons1 (neN (by omega)) (all_cons1 (neN (by omega)) (all_cons1 (neN (by omega)) (all_cons1 (neN (by omega)) (all_cons1 (neN (by omega)) (by assumption)))))))) | exact all_cons1 (neN (by omega)) (all_cons1 (neN (by omega)) (all_cons1 (neN (by omega)) (all_cons1 (neN (by omega)) (all_cons1 (neN (by omega)) (all_cons1 (neN (by omega)) (all_cons1 (neN (by omega)) (all_cons1 (neN (by omega)) (all_cons1 (neN (by omega)) (by assumption))))))))))); (case m3 => assumption); (case k5 => k_asm); (case kK => first | exact rfl | assumption); (case kd => ktr_room); (case ku => ktr_units); intro r9 n9 h9 t9 F9 N9 ho9; (obtain ⟨t19, t29, e1, e2⟩ := ho9; subst e1; subst e2); (try k_sweep))))
  k_with "call ref" => (k_here; k_dflt (first | (rename CallsGP _ 238 _ _ _ _ _ _ _ _ _ _ _ => hG9; (refine' Calls.useM (hG9 _ _ _ ?m1 ?m2) ?k0 ?kq ?k1 ?k2 ?k3 ?k4 ?k5 ?kK ?kd ?ku ?_; (case k0 => k_asm); (case kq => k_mem); (case k1 => k_asm); (case k2 => k_asm); (case k3 => k_asm); (case k4 => (first | k_asm | exact rot1 (by k_asm) | exact rot2 (by k_asm) | exact rot3 (by k_asm) | exact rot4 (by k_asm) | exact rot5 (by k_asm) | exact rot6 (by k_asm) | exact rot7 (by k_asm) | exact rot8 (by k_asm) | exact rot9 (by k_asm))); (case m1 => (first | exact fun _ h => h | exact (fun _ h => .tail _ h) | exact (fun _ h => .tail _ (.tail _ h)) | exact (fun _ h => .tail _ (.tail _ (.tail _ h))) | exact (fun _ h => .tail _ (.tail _ (.tail _ (.tail _ h)))) | exact (fun _ h => .tail _ (.tail _ (.tail _ (.tail _ (.tail _ h))))) | exact (fun _ h => .tail _ (.tail _ (.tail _ (.tail _ (.tail _ (.tail _ h)))))) | exact (fun _ h => .tail _ (.tail _ (.tail _ (.tail _ (.tail _ (.tail _ (.tail _ h))))))) | exact (fun _ h => .tail _ (.tail _ (.tail _ (.tail _ (.tail _ (.tail _ (.tail _ (.tail _ h)))))))) | exact (fun _ h => .tail _ (.tail _ (.tail _ (.tail _ (.tail _ (.tail _ (.tail _ (.tail _ (.tail _ h))))))))))); (case m2 => (first | assumption | exact all_cons1 (neN (by omega)) (by assumption) | exact all_cons1 (neN (by omega)) (all_cons1 (neN (by omega)) (by assumption)) | exact all_cons1 (neN (by omega)) (all_cons1 (neN (by omega)) (all_cons1 (neN (by omega)) (by assumption))) | exact all_cons1 (neN (by omega)) (all_cons1 (neN (by omega)) (all_cons1 (neN (by omega)) (all_cons1 (neN (by omega)) (by assumption)))) | exact all_cons1 (neN (by omega)) (all_cons1 (neN (by omega)) (all_cons1 (neN (by omega)) (all_cons1 (neN (by omega)) (all_cons1 (neN (by omega)) (by assumption))))) | exact all_cons1 (neN (by omega)) (all_cons1 (neN (by omega)) (all_cons1 (neN (by omega)) (all_cons1 (neN (by omega)) (all_cons1 (neN (by omega)) (all_cons1 (neN (by omega)) (by assumption)))))) | exact all_cons1 (neN (by omega)) (all_cons1 (neN (by omega)) (all_cons1 (neN (by omega)) (all_cons1 (neN (by omega)) (all_cons1 (neN (by omega)) (all_cons1 (neN (by omega)) (all_cons1 (neN (by omega)) (by assumption))))))) | exact all_cons1 (neN (by omega)) (all_cons1 (neN (by omega)) (all_cons1 (neN (by omega)) (all_cons1 (neN (by omega)) (all_cons1 (neN (by omega)) (all_cons1 (neN (by omega)) (all_cons1 (neN (by omega)) (all_cons1 (neN (by omega)) (by assumption)))))))) | exact all_cons1 (neN (by omega)) (all_cons1 (neN (by omega)) (all_cons1 (neN (by omega)) (all_cons1 (neN (by omega)) (all_cons1 (neN (by omega)) (all_cons1 (neN (by omega)) (all_cons1 (neN (by omega)) (all_cons1 (neN (by omega)) (all_cons1 (neN (by omega)) (by assumption))))))))))); (case k5 => k_asm); (case kK => first | exact rfl | assumption); (case kd => ktr_room); (case ku => ktr_units); intro r9 n9 h9 t9 F9 N9 ho9; (obtain ⟨t19, t29, q9, lev9, tk19, tk29, e1, e2, hl9, hq9⟩ := ho9; subst e1; subst e2); (try k_sweep))) | (rename CallsGP _ 255 _ _ _ _ _ _ _ _ _ _ _ => hG9; (refine' Calls.useM (hG9 _ _ _ ?m1 ?m2) ?k0 ?kq ?k1 ?k2 ?k3 ?k4 ?k5 ?kK ?kd ?ku ?_; (case k0 => k_asm); (case kq => k_mem); (case k1 => k_asm); (case k2 => k_asm); (case k3 => k_asm); (case k4 => (first | k_asm | exact rot1 (by k_asm) | exact rot2 (by k_asm) | exact rot3 (by k_asm) | exact rot4 (by k_asm) | exact rot5 (by k_asm) | exact rot6 (by k_asm) | exact rot7 (by k_asm) | exact rot8 (by k_asm) | exact rot9 (by k_asm))); (case m1 => (first | exact fun _ h => h | exact (fun _ h => .tail _ h) | exact (fun _ h => .tail _ (.tail _ h)) | exact (fun _ h => .tail _ (.tail _ (.tail _ h))) | exact (fun _ h => .tail _ (.tail _ (.tail _ (.tail _ h)))) | exact (fun _ h => .tail _ (.tail _ (.tail _ (.tail _ (.tail _ h))))) | exact (fun _ h => .tail _ (.tail _ (.tail _ (.tail _ (.tail _ (.tail _ h)))))) | exact (fun _ h => .tail _ (.tail _ (.tail _ (.tail _ (.tail _ (.tail _ (.tail _ h))))))) | exact (fun _ h => .tail _ (.tail _ (.tail _ (.tail _ (.tail _ (.tail _ (.tail _ (.tail _ h)))))))) | exact (fun _ h => .tail _ (.tail _ (.tail _ (.tail _ (.tail _ (.tail _ (.tail _ (.tail _ (.tail _ h))))))))))); (case m2 => (first | assumption | exact all_cons1 (neN (by omega)) (by assumption) | exact all_cons1 (neN (by omega)) (all_cons1 (neN (by omega)) (by assumption)) | exact all_cons1 (neN (by omega)) (all_cons1 (neN (by omega)) (all_cons1 (neN (by omega)) (by assumption))) | exact all_cons1 (neN (by omega)) (all_cons1 (neN (by omega)) (all_cons1 (neN (by omega)) (all_cons1 (neN (by omega)) (by assumption)))) | exact all_cons1 (neN (by omega)) (all_cons1 (neN (by omega)) (all_cons1 (neN (by omega)) (all_cons1 (neN (by omega)) (all_cons1 (neN (by omega)) (by assumption))))) | exact all_cons1 (neN (by omega)) (all_cons1 (neN (by omega)) (all_cons1 (neN (by omega)) (all_cons1 (neN (by omega)) (all_cons1 (neN (by omega)) (all_cons1 (neN (by omega)) (by assumption)))))) | exact all_cons1 (neN (by omega)) (all_cons1 (neN (by omega)) (all_cons1 (neN (by omega)) (all_cons1 (neN (by omega)) (all_cons1 (neN (by omega)) (all_cons1 (neN (by omega)) (all_cons1 (neN (by omega)) (by assumption))))))) | exact all_cons1 (neN (by omega)) (all_cons1 (neN (by omega)) (all_cons1 (neN (by omega)) (all_cons1 (neN (by omega)) (all_cons1 (neN (by omega)) (all_cons1 (neN (by omega)) (all_cons1 (neN (by omega)) (all_cons1 (neN (by omega)) (by assumption)))))))) | exact all_cons1 (neN (by omega)) (all_cons1 (neN (by omega)) (all_cons1 (neN (by omega)) (all_cons1 (neN (by omega)) (all_cons1 (neN (by omega)) (all_cons1 (neN (by omega)) (all_cons1 (neN (by omega)) (all_cons1 (neN (by omega)) (all_cons1 (neN (by omega)) (by assumption))))))))))); (case k5 => k_asm); (case kK => first | exact rfl | assumption); (case kd => ktr_room); (case ku => ktr_units); intro r9 n9 h9 t9 F9 N9 ho9; (obtain ⟨t19, t29, q9, lev9, tk19, tk29, e1, e2, hl9, hq9⟩ := ho9; subst e1; subst e2); (try k_sweep)))))
  trivial
theorem head_dot (w : World) (c : PC) (x dx : Addr) (rest : List (Addr × Obj)) (l d : Nat) (t1 t2 : Nat) (hl : l ≤ 10000) (hd8 : d ≤ 80) (hne : x ≠ dx) (hall : ∀ p ∈ rest, p.1 ≠ dx) (a1 p1 : Addr) (tk1 tk2 n1 n2 : Nat) (hm : (a1, tupOf [.str (Str.ofString "expr") tk1, .str (Str.ofString ".") tk2, .ref p1] n1) ∈ rest) (need ku : Nat) (hnd : 4 ≤ need) (hku : 40 ≤ ku) (l' : Int) (tx : Str) (hb : CallsGP w 238 [.ref x, .str (Str.ofString ".") tk2, .ref a1] need ku c x dx l d rest l' tx) :
  Calls w 153 [.ref x, .str (Str.ofString ".") tk2, .ref a1] (need + 1) (ku + 4) (pst c x dx l d t1 t2 rest) (PairPost c x dx l' d tx rest) := by
  unfold Calls; k_fill
  intro mean mg mb dp un gd cn cs a ccd cl outer A₀ base h₀ L m st R B F X N T hk hdp hun hret
  k_dflt (refine' code_defC ?k1 ?k2 ?k3 ?k4 ?k5 ?kA ?kF ?kK ?k6 ?k7 ?k8 ?k9 ?kB ?kD ?_ ?c2 ?c3 ?c4; (case kA => exact rfl); (case kF => exact rfl); (case kK => assumption); (case k1 => k_asm); (case k2 => k_asm); (case k3 => k_asm); (case k4 => k_asm); (case k5 => k_asm); (case k6 => k_is); (case k7 => k_is); (case k8 => ktr_room); (case k9 => exact BindsTo.of_eq rfl); (case kB => exact rfl); (case kD => decide +kernel); (case c2 => exact rfl); (case c3 => exact rfl); (case c4 => exact rfl); k_whole; intro g' L' h' tk' cells' FG' F' N' Y' B' X' T' l1; (try k_lt l1); (have hY := CellsAre.one Y'); (obtain ⟨oc, hE, dc⟩ := hY); subst hE; (try simp only [List.cons_append, List.nil_append] at N'); (try dsimp only); (try k_fold))
  k_steps
  exact hret _ _ _ _ (by k_asm) (by first | k_asm | exact dropT1 (by k_asm) | exact dropT2 (by k_asm) | exact dropT3 (by k_asm) | exact dropT4 (by k_asm) | exact dropT5 (by k_asm) | exact dropT6 (by k_asm) | exact dropT7 (by k_asm) | exact dropT8 (by k_asm) | exact dropT9 (by k_asm)) ⟨_, _, _, _, _, _, rfl, rfl, by assumption, by assumption⟩
theorem head_ref (w : World) (c : PC) (x dx : Addr) (rest : List (Addr × Obj)) (l d : Nat) (t1 t2 : Nat) (hl : l ≤ 10000) (hd8 : d ≤ 80) (hne : x ≠ dx) (hall : ∀ p ∈ rest, p.1 ≠ dx) (a1 p1 : Addr) (tk1 tk2 n1 n2 : Nat) (hm : (a1, tupOf [.str (Str.ofString "expr") tk1, .str (Str.ofString "ref") tk2, .ref p1] n1) ∈ rest) (need ku : Nat) (hnd : 4 ≤ need) (hku : 40 ≤ ku) (l' : Int) (tx : Str) (hb : CallsGP w 238 [.ref x, .str (Str.ofString "ref") tk2, .ref a1] need ku c x dx l d rest l' tx) :
  Calls w 153 [.ref x, .str (Str.ofString "ref") tk2, .ref a1] (need + 1) (ku + 4) (pst c x dx l d t1 t2 rest) (PairPost c x dx l' d tx rest) := by
  unfold Calls; k_fill
  intro mean mg mb dp un gd cn cs a ccd cl outer A₀ base h₀ L m st R B F X N T hk hdp hun hret
  k_dflt (refine' code_defC ?k1 ?k2 ?k3 ?k4 ?k5 ?kA ?kF ?kK ?k6 ?k7 ?k8 ?k9 ?kB ?kD ?_ ?c2 ?c3 ?c4; (case kA => exact rfl); (case kF => exact rfl); (case kK => assumption); (case k1 => k_asm); (case k2 => k_asm); (case k3 => k_asm); (case k4 => k_asm); (case k5 => k_asm); (case k6 => k_is); (case k7 => k_is); (case k8 => ktr_room); (case k9 => exact BindsTo.of_eq rfl); (case kB => exact rfl); (case kD => decide +kernel); (case c2 => exact rfl); (case c3 => exact rfl); (case c4 => exact rfl); k_whole; intro g' L' h' tk' cells' FG' F' N' Y' B' X' T' l1; (try k_lt l1); (have hY := CellsAre.one Y'); (obtain ⟨oc, hE, dc⟩ := hY); subst hE; (try simp only [List.cons_append, List.nil_append] at N'); (try dsimp only); (try k_fold))
  k_steps
  exact hret _ _ _ _ (by k_asm) (by first | k_asm | exact dropT1 (by k_asm) | exact dropT2 (by k_asm) | exact dropT3 (by k_asm) | exact dropT4 (by k_asm) | exact dropT5 (by k_asm) | exact dropT6 (by k_asm) | exact dropT7 (by k_asm) | exact dropT8 (by k_asm) | exact dropT9 (by k_asm)) ⟨_, _, _, _, _, _, rfl, rfl, by assumption, by assumption⟩
theorem head_tup (w : World) (c : PC) (x dx : Addr) (rest : List (Addr × Obj)) (l d : Nat) (t1 t2 : Nat) (hl : l ≤ 10000) (hd8 : d ≤ 80) (hne : x ≠ dx) (hall : ∀ p ∈ rest, p.1 ≠ dx) (a1 p1 : Addr) (tk1 tk2 n1 n2 : Nat) (hm : (a1, tupOf [.str (Str.ofString "expr") tk1, .str (Str.ofString "tuple") tk2, .ref p1] n1) ∈ rest) (need ku : Nat) (hnd : 4 ≤ need) (hku : 40 ≤ ku) (l' : Int) (tx : Str) (hb : CallsGP w 255 [.ref x, .str (Str.ofString "tuple") tk2, .ref a1] need ku c x dx l d rest l' tx) :
  Calls w 153 [.ref x, .str (Str.ofString "tuple") tk2, .ref a1] (need + 1) (ku + 4) (pst c x dx l d t1 t2 rest) (PairPost c x dx l' d tx rest) := by
  unfold Calls; k_fill
  intro mean mg mb dp un gd cn cs a ccd cl outer A₀ base h₀ L m st R B F X N T hk hdp hun hret
  k_dflt (refine' code_defC ?k1 ?k2 ?k3 ?k4 ?k5 ?kA ?kF ?kK ?k6 ?k7 ?k8 ?k9 ?kB ?kD ?_ ?c2 ?c3 ?c4; (case kA => exact rfl); (case kF => exact rfl); (case kK => assumption); (case k1 => k_asm); (case k2 => k_asm); (case k3 => k_asm); (case k4 => k_asm); (case k5 => k_asm); (case k6 => k_is); (case k7 => k_is); (case k8 => ktr_room); (case k9 => exact BindsTo.of_eq rfl); (case kB => exact rfl); (case kD => decide +kernel); (case c2 => exact rfl); (case c3 => exact rfl); (case c4 => exact rfl); k_whole; intro g' L' h' tk' cells' FG' F' N' Y' B' X' T' l1; (try k_lt l1); (have hY := CellsAre.one Y'); (obtain ⟨oc, hE, dc⟩ := hY); subst hE; (try simp only [List.cons_append, List.nil_append] at N'); (try dsimp only); (try k_fold))
  k_steps
  exact hret _ _ _ _ (by k_asm) (by first | k_asm | exact dropT1 (by k_asm) | exact dropT2 (by k_asm) | exact dropT3 (by k_asm) | exact dropT4 (by k_asm) | exact dropT5 (by k_asm) | exact dropT6 (by k_asm) | exact dropT7 (by k_asm) | exact dropT8 (by k_asm) | exact dropT9 (by k_asm)) ⟨_, _, _, _, _, _, rfl, rfl, by assumption, by assumption⟩
theorem head_vec (w : World) (c : PC) (x dx : Addr) (rest : List (Addr × Obj)) (l d : Nat) (t1 t2 : Nat) (hl : l ≤ 10000) (hd8 : d ≤ 80) (hne : x ≠ dx) (hall : ∀ p ∈ rest, p.1 ≠ dx) (a1 p1 : Addr) (tk1 tk2 n1 n2 : Nat) (hm : (a1, tupOf [.str (Str.ofString "expr") tk1, .str (Str.ofString "vect") tk2, .ref p1] n1) ∈ rest) (need ku : Nat) (hnd : 4 ≤ need) (hku : 40 ≤ ku) (l' : Int) (tx : Str) (hb : CallsGP w 255 [.ref x, .str (Str.ofString "vect") tk2, .ref a1] need ku c x dx l d rest l' tx) :
  Calls w 153 [.ref x, .str (Str.ofString "vect") tk2, .ref a1] (need + 1) (ku + 4) (pst c x dx l d t1 t2 rest) (PairPost c x dx l' d tx rest) := by
  unfold Calls; k_fill
  intro mean mg mb dp un gd cn cs a ccd cl outer A₀ base h₀ L m st R B F X N T hk hdp hun hret
  k_dflt (refine' code_defC ?k1 ?k2 ?k3 ?k4 ?k5 ?kA ?kF ?kK ?k6 ?k7 ?k8 ?k9 ?kB ?kD ?_ ?c2 ?c3 ?c4; (case kA => exact rfl); (case kF => exact rfl); (case kK => assumption); (case k1 => k_asm); (case k2 => k_asm); (case k3 => k_asm); (case k4 => k_asm); (case k5 => k_asm); (case k6 => k_is); (case k7 => k_is); (case k8 => ktr_room); (case k9 => exact BindsTo.of_eq rfl); (case kB => exact rfl); (case kD => decide +kernel); (case c2 => exact rfl); (case c3 => exact rfl); (case c4 => exact rfl); k_whole; intro g' L' h' tk' cells' FG' F' N' Y' B' X' T' l1; (try k_lt l1); (have hY := CellsAre.one Y'); (obtain ⟨oc, hE, dc⟩ := hY); subst hE; (try simp only [List.cons_append, List.nil_append] at N'); (try dsimp only); (try k_fold))
  k_steps
  exact hret _ _ _ _ (by k_asm) (by first | k_asm | exact dropT1 (by k_asm) | exact dropT2 (by k_asm) | exact dropT3 (by k_asm) | exact dropT4 (by k_asm) | exact dropT5 (by k_asm) | exact dropT6 (by k_asm) | exact dropT7 (by k_asm) | exact dropT8 (by k_asm) | exact dropT9 (by k_asm)) ⟨_, _, _, _, _, _, rfl, rfl, by assumption, by assumption⟩
theorem Calls.mono {w : World} {f : Addr} {vs : List Value} {need ku need' ku' : Nat} {news : List (Addr × Obj)} {Post : List (Addr × Obj) → Value → Prop} (C : Calls w f vs need ku news Post) (h1 : need ≤ need') (h2 : ku ≤ ku') : Calls w f vs need' ku' news Post :=
  fun mean mg mb dp un gd cn cs a ccd cl outer A₀ base h₀ L m s R B F X N T hk hd' hu h => C mean mg mb dp un gd cn cs a ccd cl outer A₀ base h₀ L m s R B F X N T hk (by omega) (by omega) h
theorem txt_dots (t : T) (k r : Nat) (h : r = 0 ∨ k = 0) : txt t k r = (dots, r) := by
  cases t <;> rw [txt, if_pos h]
theorem at_build (w : World) (t : T) (c : PC) (x dx : Addr) (rest : List (Addr × Obj)) (v : Value) (l d : Nat) (least : Int) (tk t1 t2 : Nat) (hd8 : d ≤ 80) (hne : x ≠ dx) (hall : ∀ p ∈ rest, p.1 ≠ dx) (hle : least ≤ 15)
    (hb : 0 < l → d < 80 → ∀ t1 t2, Calls w 148 [.ref x, v] (7 * (80 - d) + 7) (40 * (80 - d) + 56) (pst c x dx l d t1 t2 rest) (PairPost c x dx ((txt t (80 - d) l).2 : Nat) d (txt t (80 - d) l).1 rest)) :
    Calls w 141 [.ref x, v, .int least tk] (7 * (80 - d) + 8) (40 * (80 - d) + 60) (pst c x dx l d t1 t2 rest) (TextPost c x dx ((txt t (80 - d) l).2 : Nat) d (txt t (80 - d) l).1 rest) := by
  refine (at_of w c x dx l d t1 t2 rest hne hall _ v _ least tk (7 * (80 - d) + 7) (40 * (80 - d) + 56) hle fun u1 u2 => ?_).mono (by omega) (by omega)
  by_cases h0 : 0 < l ∧ d < 80
  · exact hb h0.1 h0.2 u1 u2
  · rw [txt_dots t (80 - d) l (by omega)]
    exact (both_dots w c x dx l d u1 u2 rest hne hall v (by omega)).mono (by omega) (by omega)
theorem at_sym (w : World) (y : Str) : AtSpec w (.sym y) := by
  intro c x dx rest v l d least tk t1 t2 hT hW hl hd8 hne hall hle
  refine at_build w _ c x dx rest v l d least tk t1 t2 hd8 hne hall hle fun h0 h8 u1 u2 => ?_
  rw [TreeIn] at hT
  obtain ⟨a, tk1, tk2, n, rfl, hm⟩ := hT
  rw [WF] at hW
  rw [txt, if_neg (by omega)]
  have e : ((l - 1 : Nat) : Int) = (l : Int) - 1 := by omega
  simp only [e]
  exact (both_sym w c x dx l d u1 u2 rest hne hall a y tk1 tk2 n hW hm (by omega) (by omega)).mono (by omega) (by omega)
theorem at_int (w : World) (i : Int) : AtSpec w (.int i) := by
  intro c x dx rest v l d least tk t1 t2 hT hW hl hd8 hne hall hle
  refine at_build w _ c x dx rest v l d least tk t1 t2 hd8 hne hall hle fun h0 h8 u1 u2 => ?_
  rw [TreeIn] at hT
  obtain ⟨a, tk1, tk2, n, rfl, hm⟩ := hT
  rw [WF] at hW
  rw [txt, if_neg (by omega)]
  have e : ((l - 1 : Nat) : Int) = (l : Int) - 1 := by omega
  simp only [e]
  exact (both_int w c x dx l d u1 u2 rest hne hall a i tk1 tk2 n hW.1 hW.2 hm (by omega) (by omega)).mono (by omega) (by omega)
/-- from a head's contract to both's -/
theorem both_from (w : World) (c : PC) (x dx : Addr) (rest : List (Addr × Obj)) (l d : Nat) (u1 u2 : Nat) (hne : x ≠ dx) (hall : ∀ p ∈ rest, p.1 ≠ dx) (h0 : 0 < l) (h8 : d < 80) (y : Str) (a p : Addr) (tk1 tk2 n : Nat) (hm : (a, tupOf [.str (Str.ofString "expr") tk1, .str y tk2, .ref p] n) ∈ rest) (need ku : Nat) (l' : Nat) (tx : Str)
    (hb : ∀ t1 t2, Calls w 153 [.ref x, .str y tk2, .ref a] need ku (pst c x dx ((l - 1 : Nat) : Int) ((d + 1 : Nat) : Int) t1 t2 rest) (PairPost c x dx (l' : Int) ((d + 1 : Nat) : Int) tx rest)) (hn : need + 1 ≤ 7 * (80 - d) + 7) (hk : ku + 4 ≤ 40 * (80 - d) + 56) :
    Calls w 148 [.ref x, .ref a] (7 * (80 - d) + 7) (40 * (80 - d) + 56) (pst c x dx l d u1 u2 rest) (PairPost c x dx (l' : Int) d tx rest) := by
  refine (both_expr w c x dx l d u1 u2 rest hne hall l' tx y need ku a p tk1 tk2 n hm (by omega) (by omega) fun v1 v2 => ?_).mono hn hk
  have el : (l : Int) - 1 = ((l - 1 : Nat) : Int) := by omega
  have ed : (d : Int) + 1 = ((d + 1 : Nat) : Int) := by omega
  rw [el, ed]
  exact hb v1 v2
theorem at_dot (w : World) (t : T) (hA : AtSpec w t) : AtSpec w (.dot t) := by
  intro c x dx rest v l d least tk t1 t2 hT hW hl hd8 hne hall hle
  refine at_build w _ c x dx rest v l d least tk t1 t2 hd8 hne hall hle fun h0 h8 u1 u2 => ?_
  rw [TreeIn] at hT
  obtain ⟨a, tk1, tk2, n, p, n2, v1, b, tk3, tk4, n3, rfl, hm, hp, hb1, hT⟩ := hT
  rw [WF] at hW
  have e8 : 80 - d - 1 = 80 - (d + 1) := by omega
  rw [txt, if_neg (by omega), e8]
  refine both_from w c x dx rest l d u1 u2 hne hall h0 h8 _ a p tk1 tk2 n hm (7 * (80 - (d + 1)) + 10) (40 * (80 - (d + 1)) + 72) _ _ (fun v1' v2' => ?_) (by omega) (by omega)
  refine (head_dot w c x dx rest (l - 1) (d + 1) v1' v2' (by omega) (by omega) hne hall a p tk1 tk2 n n2 hm (7 * (80 - (d + 1)) + 9) (40 * (80 - (d + 1)) + 68) (by omega) (by omega) _ _ fun rest' w1 w2 hs hall' => ?_).mono (by omega) (by omega)
  exact postfix_dot w c x dx rest' (l - 1) (d + 1) w1 w2 (by omega) (by omega) hne hall' a p tk1 tk2 n n2 (hs _ hm) tk2 v1 b n3 tk3 tk4 t (hs _ hp) (hs _ hb1) (TreeIn.mono hs _ _ hT) hW hA
theorem at_call (w : World) (ps : List T) (hA : ∀ t ∈ ps, AtSpec w t) : AtSpec w (.node .call ps) := by
  intro c x dx rest v l d least tk t1 t2 hT hW hl hd8 hne hall hle
  refine at_build w _ c x dx rest v l d least tk t1 t2 hd8 hne hall hle fun h0 h8 u1 u2 => ?_
  rw [TreeIn] at hT
  obtain ⟨a, tk1, tk2, n, p, n2, vs, rfl, hm, hp, hF⟩ := hT
  rw [WF] at hW
  obtain ⟨hlen, ⟨qs, rfl⟩, hWs⟩ := hW
  rw [WFs] at hWs
  rw [ForestIn] at hF
  obtain ⟨vc, vs', rfl, hTc, hF⟩ := hF
  have e8 : 80 - d - 1 = 80 - (d + 1) := by omega
  have hT1 := hTc
  rw [TreeIn] at hT1
  obtain ⟨b, tk3, tk4, n3, rfl, hb1⟩ := hT1
  have hlen' : qs.length ≤ 4 := by simp only [List.length_cons] at hlen; omega
  have hL := listed_ w qs fun t ht => hA t (.tail _ ht)
  have hvl := hF.length
  rw [txt, if_neg (by omega), e8, txts]
  refine both_from w c x dx rest l d u1 u2 hne hall h0 h8 _ a p tk1 tk2 n hm (7 * (80 - (d + 1)) + 13) (40 * (80 - (d + 1)) + 80) _ _ (fun v1' v2' => ?_) (by omega) (by omega)
  refine (head_call w c x dx rest (l - 1) (d + 1) v1' v2' (by omega) (by omega) hne hall a p tk1 tk2 n n2 hm (7 * (80 - (d + 1)) + 12) (40 * (80 - (d + 1)) + 76) (by omega) (by omega) _ _ fun rest' w1 w2 hs hall' => ?_).mono (by omega) (by omega)
  refine (call_ w c x dx rest' (l - 1) (d + 1) w1 w2 (by omega) (by omega) hne hall' a p tk1 tk2 n n2 (hs _ hm) b n3 tk3 tk4 vs' qs (hs _ hp) (hs _ hb1) (ForestIn.mono hs _ _ hF) hlen' (7 * (80 - (d + 1)) + 11) (40 * (80 - (d + 1)) + 72) (by omega) (by omega) _ _ fun rest2 z1 z2 hs2 hall2 => ?_).mono (by omega) (by omega)
  have hs3 := fun q hq => hs2 q (hs q hq)
  cases qs with
  | nil =>
    rw [ForestIn] at hF
    subst hF
    exact plain_call_nil w c x dx rest2 (l - 1) (d + 1) z1 z2 (by omega) (by omega) hne hall2 a p tk1 tk2 n n2 (hs3 _ hm) (.ref b) (at_sym w _) (TreeIn.mono hs3 _ _ hTc) hWs.1 [] rfl (hs3 _ hp) hL (by rw [ForestIn]) hWs.2 hlen'
  | cons q1 qs =>
    have hF' := ForestIn.mono hs3 _ _ hF
    rw [ForestIn] at hF
    obtain ⟨v1, vs'', rfl, hT1, hF⟩ := hF
    exact plain_call_cons w c x dx rest2 (l - 1) (d + 1) z1 z2 (by omega) (by omega) hne hall2 a p tk1 tk2 n n2 (hs3 _ hm) (.ref b) (at_sym w _) (TreeIn.mono hs3 _ _ hTc) hWs.1 q1 (q1 :: qs) v1 vs'' (by simp only [List.length_cons] at hvl hlen'; omega) (TreeIn.mono hs3 _ _ hT1) (hs3 _ hp) hL hF' hWs.2 hlen'
theorem at_ref (w : World) (ps : List T) (hA : ∀ t ∈ ps, AtSpec w t) : AtSpec w (.node .ref ps) := by
  intro c x dx rest v l d least tk t1 t2 hT hW hl hd8 hne hall hle
  refine at_build w _ c x dx rest v l d least tk t1 t2 hd8 hne hall hle fun h0 h8 u1 u2 => ?_
  rw [TreeIn] at hT
  obtain ⟨a, tk1, tk2, n, p, n2, vs, rfl, hm, hp, hF⟩ := hT
  rw [WF] at hW
  obtain ⟨hlen, ⟨qs, rfl⟩, hWs⟩ := hW
  rw [WFs] at hWs
  rw [ForestIn] at hF
  obtain ⟨vc, vs', rfl, hTc, hF⟩ := hF
  have e8 : 80 - d - 1 = 80 - (d + 1) := by omega
  have hlen' : qs.length ≤ 4 := by simp only [List.length_cons] at hlen; omega
  have hL := listed_ w qs fun t ht => hA t (.tail _ ht)
  have hvl := hF.length
  rw [txt, if_neg (by omega), e8, txts]
  refine both_from w c x dx rest l d u1 u2 hne hall h0 h8 _ a p tk1 tk2 n hm (7 * (80 - (d + 1)) + 12) (40 * (80 - (d + 1)) + 76) _ _ (fun v1' v2' => ?_) (by omega) (by omega)
  refine (head_ref w c x dx rest (l - 1) (d + 1) v1' v2' (by omega) (by omega) hne hall a p tk1 tk2 n n2 hm (7 * (80 - (d + 1)) + 11) (40 * (80 - (d + 1)) + 72) (by omega) (by omega) _ _ fun rest' w1 w2 hs hall' => ?_).mono (by omega) (by omega)
  exact postfix_ref w c x dx rest' (l - 1) (d + 1) w1 w2 (by omega) (by omega) hne hall' a p tk1 tk2 n n2 (hs _ hm) tk2 vc vs' qs (hs _ hp) (TreeIn.mono hs _ _ hTc) hWs.1 (at_sym w _) hL (ForestIn.mono hs _ _ hF) hWs.2 hlen' (by omega)
theorem at_tup (w : World) (ps : List T) (hA : ∀ t ∈ ps, AtSpec w t) : AtSpec w (.node .tup ps) := by
  intro c x dx rest v l d least tk t1 t2 hT hW hl hd8 hne hall hle
  refine at_build w _ c x dx rest v l d least tk t1 t2 hd8 hne hall hle fun h0 h8 u1 u2 => ?_
  rw [TreeIn] at hT
  obtain ⟨a, tk1, tk2, n, p, n2, vs, rfl, hm, hp, hF⟩ := hT
  rw [WF] at hW
  obtain ⟨hlen, -, hWs⟩ := hW
  have e8 : 80 - d - 1 = 80 - (d + 1) := by omega
  have hL := listed_ w ps hA
  have hvl := hF.length
  rw [txt, if_neg (by omega), e8]
  refine both_from w c x dx rest l d u1 u2 hne hall h0 h8 _ a p tk1 tk2 n hm (7 * (80 - (d + 1)) + 12) (40 * (80 - (d + 1)) + 76) _ _ (fun v1' v2' => ?_) (by omega) (by omega)
  refine (head_tup w c x dx rest (l - 1) (d + 1) v1' v2' (by omega) (by omega) hne hall a p tk1 tk2 n n2 hm (7 * (80 - (d + 1)) + 11) (40 * (80 - (d + 1)) + 72) (by omega) (by omega) _ _ fun rest' w1 w2 hs hall' => ?_).mono (by omega) (by omega)
  exact bracketed_tup w c x dx rest' (l - 1) (d + 1) w1 w2 (by omega) (by omega) hne hall' a p tk1 tk2 n n2 (hs _ hm) tk2 vs ps (hs _ hp) hL (ForestIn.mono hs _ _ hF) hWs hlen (by omega)
theorem at_vec (w : World) (ps : List T) (hA : ∀ t ∈ ps, AtSpec w t) : AtSpec w (.node .vec ps) := by
  intro c x dx rest v l d least tk t1 t2 hT hW hl hd8 hne hall hle
  refine at_build w _ c x dx rest v l d least tk t1 t2 hd8 hne hall hle fun h0 h8 u1 u2 => ?_
  rw [TreeIn] at hT
  obtain ⟨a, tk1, tk2, n, p, n2, vs, rfl, hm, hp, hF⟩ := hT
  rw [WF] at hW
  obtain ⟨hlen, -, hWs⟩ := hW
  have e8 : 80 - d - 1 = 80 - (d + 1) := by omega
  rw [txt, if_neg (by omega), e8]
  refine both_from w c x dx rest l d u1 u2 hne hall h0 h8 _ a p tk1 tk2 n hm (7 * (80 - (d + 1)) + 12) (40 * (80 - (d + 1)) + 76) _ _ (fun v1' v2' => ?_) (by omega) (by omega)
  refine (head_vec w c x dx rest (l - 1) (d + 1) v1' v2' (by omega) (by omega) hne hall a p tk1 tk2 n n2 hm (7 * (80 - (d + 1)) + 11) (40 * (80 - (d + 1)) + 72) (by omega) (by omega) _ _ fun rest' w1 w2 hs hall' => ?_).mono (by omega) (by omega)
  exact bracketed_vec w c x dx rest' (l - 1) (d + 1) w1 w2 (by omega) (by omega) hne hall' a p tk1 tk2 n n2 (hs _ hm) tk2 vs ps (hs _ hp) hA (ForestIn.mono hs _ _ hF) hWs hlen
mutual
theorem at_all (w : World) : ∀ t : T, AtSpec w t
  | .sym y => at_sym w y
  | .int i => at_int w i
  | .dot t => at_dot w t (at_all w t)
  | .node .call ps => at_call w ps (at_alls w ps)
  | .node .ref ps => at_ref w ps (at_alls w ps)
  | .node .tup ps => at_tup w ps (at_alls w ps)
  | .node .vec ps => at_vec w ps (at_alls w ps)
theorem at_alls (w : World) : ∀ ps : List T, ∀ t ∈ ps, AtSpec w t
  | [], _, h => nomatch h
  | p :: ps, t, h => (List.mem_cons.mp h).elim (fun e => e ▸ at_all w p) (fun h => at_alls w ps t h)
end
theorem words28 : True := by
  k_with_none
  k_with "eval Call" => (k_here; (with_reducible show wpAny _ _ (eval (Expr.Call (Expr.Name _ _) _ _ _) _) _ _ _); k_dflt (refine Call_ ?_))
  k_with "compareOp In str ref" => (k_here; k_dflt (first
    | (refine' in_top ?F ?X ?l ?k ?e ?_; (case F => k_asm); (case X => k_asm); (case l => k_is); (case k => (repeat constructor)); (case e => first | decide | exact plain_any (by assumption) _ (by decide)); k_whole)
    | (refine' in_topT ?F ?X ?l ?k ?e ?_; (case F => k_asm); (case X => k_asm); (case l => k_is); (case k => (repeat constructor)); (case e => decide); k_whole)))
  k_with "call ref" => (k_here; (with_reducible show wpAny _ _ (call (Value.ref 21) _) _ _ _); k_dflt (first
    | (refine' Calls.use (is_expr_two _ _ _ _ _ _ _ _ _ ?m2 ?m1) ?k1 ?k2 ?k3 ?k4 ?k5 ?kK ?kd ?ku ?_; (case k1 => k_asm); (case k2 => k_asm); (case k3 => k_asm); (case k4 => k_asm); (case m1 => k_mem); (case m2 => decide); (case k5 => k_asm); (case kK => first | exact rfl | assumption); (case kd => ktr_room); (case ku => ktr_units); intro r9 n9 h9 t9 F9 N9 ho9; (obtain ⟨e1, e2⟩ := ho9; subst e1; subst e2); (try k_sweep))
    | (refine' Calls.use (is_expr_ne _ _ _ _ _ _ _ _ _ _ ?m2 ?m1) ?k1 ?k2 ?k3 ?k4 ?k5 ?kK ?kd ?ku ?_; (case k1 => k_asm); (case k2 => k_asm); (case k3 => k_asm); (case k4 => k_asm); (case m1 => k_mem); (case m2 => first | assumption | decide); (case k5 => k_asm); (case kK => first | exact rfl | assumption); (case kd => ktr_room); (case ku => ktr_units); intro r9 n9 h9 t9 F9 N9 ho9; (obtain ⟨e1, e2⟩ := ho9; subst e1; subst e2); (try k_sweep))
    | (refine' Calls.use (is_expr_expr _ _ _ _ _ _ _ _ _ _ ?m1) ?k1 ?k2 ?k3 ?k4 ?k5 ?kK ?kd ?ku ?_; (case k1 => k_asm); (case k2 => k_asm); (case k3 => k_asm); (case k4 => k_asm); (case m1 => k_mem); (case k5 => k_asm); (case kK => first | exact rfl | assumption); (case kd => ktr_room); (case ku => ktr_units); intro r9 n9 h9 t9 F9 N9 ho9; (obtain ⟨e1, e2⟩ := ho9; subst e1; subst e2); (try k_sweep))))
  k_with "call ref" => (k_here; (with_reducible show wpAny _ _ (call (Value.ref 28) _) _ _ _); k_dflt (first
    | (refine' Calls.use (parts_of_expr _ _ _ _ _ _ _ _ ?m1) ?k1 ?k2 ?k3 ?k4 ?k5 ?kK ?kd ?ku ?_; (case k1 => k_asm); (case k2 => k_asm); (case k3 => k_asm); (case k4 => k_asm); (case m1 => k_mem); (case k5 => k_asm); (case kK => first | exact rfl | assumption); (case kd => ktr_room); (case ku => ktr_units); intro r9 n9 h9 t9 F9 N9 ho9; (obtain ⟨e1, e2⟩ := ho9; subst e1; subst e2); (try k_sweep))))
  k_with "call ref" => (k_here; (with_reducible show wpAny _ _ (call (Value.ref 35) _) _ _ _); k_dflt (first
    | (refine' Calls.use (is_sym_ _ _ _ _ _ _ _ ?m1) ?k1 ?k2 ?k3 ?k4 ?k5 ?kK ?kd ?ku ?_; (case k1 => k_asm); (case k2 => k_asm); (case k3 => k_asm); (case k4 => k_asm); (case m1 => k_mem); (case k5 => k_asm); (case kK => first | exact rfl | assumption); (case kd => ktr_room); (case ku => ktr_units); intro r9 n9 h9 t9 F9 N9 ho9; (obtain ⟨e1, e2⟩ := ho9; subst e1; subst e2); (try k_sweep))))
  k_with "call ref" => (k_here; (with_reducible show wpAny _ _ (call (Value.ref 21) _) _ _ _); k_dflt (first
    | (refine' Calls.use (is_expr_two _ _ _ _ _ _ _ _ _ ?m2 ?m1) ?k1 ?k2 ?k3 ?k4 ?k5 ?kK ?kd ?ku ?_; (case k1 => k_asm); (case k2 => k_asm); (case k3 => k_asm); (case k4 => k_asm); (case m1 => k_mem); (case m2 => decide); (case k5 => k_asm); (case kK => first | exact rfl | assumption); (case kd => ktr_room); (case ku => ktr_units); intro r9 n9 h9 t9 F9 N9 ho9; (obtain ⟨e1, e2⟩ := ho9; subst e1; subst e2); (try k_sweep))
    | (refine' Calls.use (is_expr_ne _ _ _ _ _ _ _ _ _ _ ?m2 ?m1) ?k1 ?k2 ?k3 ?k4 ?k5 ?kK ?kd ?ku ?_; (case k1 => k_asm); (case k2 => k_asm); (case k3 => k_asm); (case k4 => k_asm); (case m1 => k_mem); (case m2 => first | assumption | decide); (case k5 => k_asm); (case kK => first | exact rfl | assumption); (case kd => ktr_room); (case ku => ktr_units); intro r9 n9 h9 t9 F9 N9 ho9; (obtain ⟨e1, e2⟩ := ho9; subst e1; subst e2); (try k_sweep))
    | (refine' Calls.use (is_expr_expr _ _ _ _ _ _ _ _ _ _ ?m1) ?k1 ?k2 ?k3 ?k4 ?k5 ?kK ?kd ?ku ?_; (case k1 => k_asm); (case k2 => k_asm); (case k3 => k_asm); (case k4 => k_asm); (case m1 => k_mem); (case k5 => k_asm); (case kK => first | exact rfl | assumption); (case kd => ktr_room); (case ku => ktr_units); intro r9 n9 h9 t9 F9 N9 ho9; (obtain ⟨e1, e2⟩ := ho9; subst e1; subst e2); (try k_sweep))
    | (refine' Calls.use (is_expr_tree _ _ ?mt _ _ _ ?m1 ?m2) ?k1 ?k2 ?k3 ?k4 ?k5 ?kK ?kd ?ku ?_; (case k1 => k_asm); (case k2 => k_asm); (case k3 => k_asm); (case k4 => k_asm); (case m1 => (first | assumption | exact TreeIn.mono (fun _ h => .tail _ (.tail _ h)) _ _ (by assumption) | exact TreeIn.mono (fun _ h => .tail _ (.tail _ (.tail _ h))) _ _ (by assumption) | exact TreeIn.mono (fun _ h => .tail _ (.tail _ (.tail _ (.tail _ h)))) _ _ (by assumption) | exact TreeIn.mono (fun _ h => .tail _ (.tail _ (.tail _ (.tail _ (.tail _ h))))) _ _ (by assumption))); (case m2 => decide); (case k5 => k_asm); (case kK => first | exact rfl | assumption); (case kd => ktr_room); (case ku => ktr_units); intro r9 n9 h9 t9 F9 N9 ho9; (obtain ⟨e1, e2⟩ := ho9; subst e1; subst e2); (try k_sweep))))
  k_with "call ref" => (k_here; (with_reducible show wpAny _ _ (call (Value.ref 141) _) _ _ _); k_dflt (first
    | (rename AtSpec _ _ => hA9; (refine' Calls.use (hA9 _ _ _ _ _ _ _ _ _ _ _ ?m1 ?m2 ?m3 ?m4 ?m5 ?m6 ?m7) ?k1 ?k2 ?k3 ?k4 ?k5 ?kK ?kd ?ku ?_; (case k1 => k_asm); (case k2 => k_asm); (case k3 => k_asm); (case k4 => (first | k_asm | exact rot1 (by k_asm) | exact rot2 (by k_asm) | exact rot3 (by k_asm) | exact rot4 (by k_asm) | exact rot5 (by k_asm) | exact rot6 (by k_asm) | exact rot7 (by k_asm) | exact rot8 (by k_asm) | exact rot9 (by k_asm))); (case m1 => (first | assumption | exact TreeIn.mono (fun _ h => .tail _ h) _ _ (by assumption) | exact TreeIn.mono (fun _ h => .tail _ (.tail _ h)) _ _ (by assumption) | exact TreeIn.mono (fun _ h => .tail _ (.tail _ (.tail _ h))) _ _ (by assumption) | exact TreeIn.mono (fun _ h => .tail _ (.tail _ (.tail _ (.tail _ h)))) _ _ (by assumption) | exact TreeIn.mono (fun _ h => .tail _ (.tail _ (.tail _ (.tail _ (.tail _ h))))) _ _ (by assumption) | exact TreeIn.mono (fun _ h => .tail _ (.tail _ (.tail _ (.tail _ (.tail _ (.tail _ h)))))) _ _ (by assumption) | exact TreeIn.mono (fun _ h => .tail _ (.tail _ (.tail _ (.tail _ (.tail _ (.tail _ (.tail _ h))))))) _ _ (by assumption) | exact TreeIn.mono (fun _ h => .tail _ (.tail _ (.tail _ (.tail _ (.tail _ (.tail _ (.tail _ (.tail _ h)))))))) _ _ (by assumption) | exact TreeIn.mono (fun _ h => .tail _ (.tail _ (.tail _ (.tail _ (.tail _ (.tail _ (.tail _ (.tail _ (.tail _ h))))))))) _ _ (by assumption))); (case m2 => assumption); (case m3 => assumption); (case m4 => assumption); (case m5 => assumption); (case m6 => (first | assumption | exact all_cons1 (neN (by omega)) (by assumption) | exact all_cons1 (neN (by omega)) (all_cons1 (neN (by omega)) (by assumption)) | exact all_cons1 (neN (by omega)) (all_cons1 (neN (by omega)) (all_cons1 (neN (by omega)) (by assumption))) | exact all_cons1 (neN (by omega)) (all_cons1 (neN (by omega)) (all_cons1 (neN (by omega)) (all_cons1 (neN (by omega)) (by assumption)))) | exact all_cons1 (neN (by omega)) (all_cons1 (neN (by omega)) (all_cons1 (neN (by omega)) (all_cons1 (neN (by omega)) (all_cons1 (neN (by omega)) (by assumption))))) | exact all_cons1 (neN (by omega)) (all_cons1 (neN (by omega)) (all_cons1 (neN (by omega)) (all_cons1 (neN (by omega)) (all_cons1 (neN (by omega)) (all_cons1 (neN (by omega)) (by assumption)))))) | exact all_cons1 (neN (by omega)) (all_cons1 (neN (by omega)) (all_cons1 (neN (by omega)) (all_cons1 (neN (by omega)) (all_cons1 (neN (by omega)) (all_cons1 (neN (by omega)) (all_cons1 (neN (by omega)) (by assumption))))))) | exact all_cons1 (neN (by omega)) (all_cons1 (neN (by omega)) (all_cons1 (neN (by omega)) (all_cons1 (neN (by omega)) (all_cons1 (neN (by omega)) (all_cons1 (neN (by omega)) (all_cons1 (neN (by omega)) (all_cons1 (neN (by omega)) (by assumption)))))))) | exact all_cons1 (neN (by omega)) (all_cons1 (neN (by omega)) (all_cons1 (neN (by omega)) (all_cons1 (neN (by omega)) (all_cons1 (neN (by omega)) (all_cons1 (neN (by omega)) (all_cons1 (neN (by omega)) (all_cons1 (neN (by omega)) (all_cons1 (neN (by omega)) (by assumption))))))))))); (case m7 => decide); (case k5 => k_asm); (case kK => first | exact rfl | assumption); (case kd => ktr_room); (case ku => ktr_units); intro r9 n9 h9 t9 F9 N9 ho9; (obtain ⟨t19, t29, tk9, e1, e2⟩ := ho9; subst e1; subst e2); (try k_sweep)))))
  k_with "compareOp Eq ref ref" => (k_here; k_dflt (first
    | (refine' eq_tups ?N ?u ?m1 ?m2 ?_; (case N => k_asm); (case u => ktr_units); (case m1 => k_mem); (case m2 => k_mem); k_whole)
    | (refine' eq_syms ?N ?u ?m1 ?m2 ?e ?_; (case N => k_asm); (case u => ktr_units); (case m1 => k_mem); (case m2 => k_mem); (case e => first | decide | exact plain_ne (by assumption) _ (by decide)); k_whole)
    | (refine' eq_int_sym ?N ?u ?m1 ?m2 ?_; (case N => k_asm); (case u => ktr_units); (case m1 => k_mem); (case m2 => k_mem); k_whole)))
  k_with "compareOp NotEq ref ref" => (k_here; k_dflt (first
    | (refine' ne_nil0 ?N ?u ?m1 ?m2 ?_; (case N => k_asm); (case u => ktr_units); (case m1 => k_mem); (case m2 => first | exact isTuple_of (by k_asm) (by k_mem)); k_whole)
    | (refine' ne_cons ?N ?u ?m1 ?m2 ?_; (case N => k_asm); (case u => ktr_units); (case m1 => k_mem); (case m2 => first | exact isTuple_of (by k_asm) (by k_mem)); k_whole)))
  k_with "subscriptTail" => (k_here; (with_reducible show wpAny _ _ (subscriptTail _ _ (Value.ref _) (Value.ref _)) _ _ _); (with_unfolding_all refine' slice1 ?F ?N ?m1 ?z ?_ ?hs ?hg; (case F => k_asm); (case N => k_asm); (case m1 => k_mem); (case z => (first | decide | omega | (simp only [List.length_cons, List.length_nil]; omega))); (case hs => exact rfl); (case hg => intro _; exact rfl); k_whole); intro q9 h9 F9 N9 l9; (try k_lt l9); (try k_sweep))
  k_with "subscriptTail" => (k_here; (with_reducible show wpAny _ _ (subscriptTail _ _ (Value.ref _) (Value.int 0 _)) _ _ _); (with_unfolding_all refine' item_first ?N ?m ?_ ?hs; (case N => k_asm); (case m => k_mem); (case hs => exact rfl); k_whole))
  k_with "subscriptTail" => (k_here; (with_reducible show wpAny _ _ (subscriptTail _ _ (Value.ref _) (Value.int 1 _)) _ _ _); (with_unfolding_all refine' item_second ?N ?m ?_ ?hs; (case N => k_asm); (case m => k_mem); (case hs => exact rfl); k_whole))
  k_with "call builtin:len" => (k_here; (with_reducible show wpAny _ _ (call (Value.builtin "len") [Value.ref _]) _ _ _); k_dflt (refine' len_tup ?N ?m ?z ?e ?_; (case N => k_asm); (case m => k_mem); (case z => (first | decide | omega | (simp only [List.length_cons, List.length_nil]; omega))); (case e => first | (simp only [List.length_cons, List.length_nil, Nat.zero_add, Nat.reduceAdd]; exact rfl) | exact rfl); k_whole))
  k_with "eval Name" => (k_here; (with_reducible show wpAny _ _ (eval (Expr.Name _ _) (compEnvC _ _ _ _)) _ _ _); k_dflt (first
    | (refine' comp_local ?n ?v ?_ ?a ?b ?d; (case n => k_asm); (case v => first | assumption | exact rfl); (case a => exact rfl); (case b => exact rfl); (case d => decide); k_whole)
    | (refine' comp_cell ?N ?c ?m ?d ?_ ?a ?b ?e; (case N => k_asm); (case c => exact rfl); (case m => k_mem); (case d => first | assumption | exact rfl); (case a => exact rfl); (case b => exact rfl); (case e => decide); k_whole)
    | (refine' nameG_K ?F ?X ?T ?e ?_ ?g ?k ?x ?d; (case F => k_asm); (case X => k_asm); (case T => k_asm); (case e => k_is); (case g => exact rfl); (case k => exact rfl); (case x => exact rfl); (case d => decide); k_whole)))
  k_with "eval Call Attribute" => (k_here; (with_reducible show wpAny _ _ (eval (Expr.Call (Expr.Attribute _ _ _) _ _ _) _) _ _ _); k_dflt (refine MethodCall_ ?_))
  k_with "eval ListComp" => (k_here; k_dflt ((refine' comp_inv ?c1 ?c2 ?c3 ?c4 ?c5 ?_ ?c6); (case c1 => with_unfolding_all exact rfl); (case c2 => decide); (case c3 => exact rfl); (case c4 => decide); (case c5 => exact rfl); (case c6 => intro _; exact rfl); k_whole))
  k_with "call builtin:str.join" => (k_here; (with_reducible show wpAny _ _ (call (Value.builtin "str.join") [Value.str _ _, Value.ref _]) _ _ _); (with_reducible rename StrsAre _ _ => hS9); k_dflt (refine' join_mine (News.isList ?N ?m) ?i ?k ?_; (case N => k_asm); (case m => k_mem); (case i => simpa using hS9); (case k => assumption)); intro t9 k9)
  trivial
theorem under_make {dp un : Nat} {gd : Option (List Code)} {cn : Str} {cs : Scope} {L a : Addr} {ccd : Value} {cl : List (Str × Addr)} {outer : List Env} {C : Addr} {pos : List Value} :
    (ktrTop dp un gd cn cs L a ccd cl outer).under (.builtin "type.__call__" ⟨.ref C :: pos, []⟩) = ktrTop (dp + 1) (un + 1) gd cn cs L a ccd cl outer := by
  rfl
theorem init_ (w : World) (news : List (Addr × Obj)) (x dx : Addr) (hne : x ≠ dx) (hall : ∀ p ∈ news, p.1 ≠ dx) (r : Nat) (tk : Nat) :
  Calls w 134 [.ref x, .int (r : Int) tk] 1 8 ((x, prt dx) :: (dx, dictOf [] 0) :: news) (fun nx res => ∃ c t1 t2, nx = pst c x dx (r : Int) ((0 : Nat) : Int) t1 t2 news ∧ res = .none) := by
  unfold Calls; k_fill
  intro mean mg mb dp un gd cn cs a ccd cl outer A₀ base h₀ L m st R B F X N T hk hdp hun hret
  k_dflt ktr_enter
  k_steps
  exact hret _ _ _ _ (by k_asm) (by k_asm) ⟨⟨_, _, _, _⟩, _, _, rfl, rfl⟩
theorem make_printer {w : World} {news : List (Addr × Obj)}
    {mean : ExcName → Option Value} {mg mb : Str → Option Value} {dp un : Nat} {gd : Option (List Code)} {cn : Str} {cs : Scope} {a : Addr} {ccd : Value} {cl : List (Str × Addr)} {outer : List Env} {A₀ : Around} {base h₀ : Heap} {L : Addr} {m : Str → Option Value} {s : Shared}
    {Q E : Value → Shared → Prop} {r tk : Nat}
    (B : Below A₀ base outer h₀) (F : Fr h₀ L s.heap m) (X : (hk.heap_1 w.params).In h₀) (N : News h₀ L s.heap news) (T : Top V LS mean mg mb h₀) (hk : cs.kind = .function) (hd' : dp + 2 < recursionLimit) (hu : un + 9 < cLine)
    (h : ∀ x dx c t1 t2 h' tk', @Ne Nat x dx → (∀ p ∈ news, p.1 ≠ dx) → Fr h₀ L h' m → News h₀ L h' (pst c x dx (r : Int) ((0 : Nat) : Int) t1 t2 news) → Q (.ref x) { s with heap := h', toks := tk' }) :
    wpAny (model PySem.Challenge.rw_pc0211_01.row.prog w) (ktrTop dp un gd cn cs L a ccd cl outer) (call (.ref 334) [.int (r : Int) tk]) Q E s := by
  k_fill
  refine call_cls F X N (by k_is) (by k_is) (by k_is) fun x dx h' F' N' l1 l2 => ?_
  rw [under_make]
  have hne : x ≠ dx := Nat.ne_of_gt l2
  have hall : ∀ p ∈ news, p.1 ≠ dx := fun p hp => Nat.ne_of_lt (l1 p hp)
  refine init_ w news x dx hne hall r tk mean mg mb (dp + 1) (un + 1) gd cn cs a ccd cl outer A₀ base h₀ L m _ _ B F' X N' T hk (by omega) (by omega) fun r nx h2 tk2 F2 N2 z => ?_
  obtain ⟨c, t1, t2, rfl, rfl⟩ := z
  exact ⟨rfl, h x dx c t1 t2 h2 tk2 hne hall F2 N2⟩
theorem words29 : True := by
  k_with "call ref" => (k_here; (with_reducible show wpAny _ _ (call (Value.ref 141) _) _ _ _); k_dflt (first
    | (refine' Calls.use (at_all _ _ ⟨_, _, _, _⟩ _ _ _ _ _ 0 _ _ _ _ ?m1 ?m2 ?m3 ?m4 ?m5 ?m6 ?m7) ?k1 ?k2 ?k3 ?k4 ?k5 ?kK ?kd ?ku ?_; (case k1 => k_asm); (case k2 => k_asm); (case k3 => k_asm); (case k4 => (first | k_asm | exact rot1 (by k_asm) | exact rot2 (by k_asm) | exact rot3 (by k_asm) | exact rot4 (by k_asm) | exact rot5 (by k_asm) | exact rot6 (by k_asm) | exact rot7 (by k_asm) | exact rot8 (by k_asm) | exact rot9 (by k_asm))); (case m1 => (first | assumption | exact TreeIn.mono (fun _ h => .tail _ h) _ _ (by assumption) | exact TreeIn.mono (fun _ h => .tail _ (.tail _ h)) _ _ (by assumption) | exact TreeIn.mono (fun _ h => .tail _ (.tail _ (.tail _ h))) _ _ (by assumption) | exact TreeIn.mono (fun _ h => .tail _ (.tail _ (.tail _ (.tail _ h)))) _ _ (by assumption) | exact TreeIn.mono (fun _ h => .tail _ (.tail _ (.tail _ (.tail _ (.tail _ h))))) _ _ (by assumption) | exact TreeIn.mono (fun _ h => .tail _ (.tail _ (.tail _ (.tail _ (.tail _ (.tail _ h)))))) _ _ (by assumption) | exact TreeIn.mono (fun _ h => .tail _ (.tail _ (.tail _ (.tail _ (.tail _ (.tail _ (.tail _ h))))))) _ _ (by assumption) | exact TreeIn.mono (fun _ h => .tail _ (.tail _ (.tail _ (.tail _ (.tail _ (.tail _ (.tail _ (.tail _ h)))))))) _ _ (by assumption) | exact TreeIn.mono (fun _ h => .tail _ (.tail _ (.tail _ (.tail _ (.tail _ (.tail _ (.tail _ (.tail _ (.tail _ h))))))))) _ _ (by assumption))); (case m2 => assumption); (case m3 => assumption); (case m4 => decide); (case m5 => assumption); (case m6 => (first | assumption | exact all_cons1 (neN (by omega)) (by assumption) | exact all_cons1 (neN (by omega)) (all_cons1 (neN (by omega)) (by assumption)) | exact all_cons1 (neN (by omega)) (all_cons1 (neN (by omega)) (all_cons1 (neN (by omega)) (by assumption))) | exact all_cons1 (neN (by omega)) (all_cons1 (neN (by omega)) (all_cons1 (neN (by omega)) (all_cons1 (neN (by omega)) (by assumption)))) | exact all_cons1 (neN (by omega)) (all_cons1 (neN (by omega)) (all_cons1 (neN (by omega)) (all_cons1 (neN (by omega)) (all_cons1 (neN (by omega)) (by assumption))))) | exact all_cons1 (neN (by omega)) (all_cons1 (neN (by omega)) (all_cons1 (neN (by omega)) (all_cons1 (neN (by omega)) (all_cons1 (neN (by omega)) (all_cons1 (neN (by omega)) (by assumption)))))) | exact all_cons1 (neN (by omega)) (all_cons1 (neN (by omega)) (all_cons1 (neN (by omega)) (all_cons1 (neN (by omega)) (all_cons1 (neN (by omega)) (all_cons1 (neN (by omega)) (all_cons1 (neN (by omega)) (by assumption))))))) | exact all_cons1 (neN (by omega)) (all_cons1 (neN (by omega)) (all_cons1 (neN (by omega)) (all_cons1 (neN (by omega)) (all_cons1 (neN (by omega)) (all_cons1 (neN (by omega)) (all_cons1 (neN (by omega)) (all_cons1 (neN (by omega)) (by assumption)))))))) | exact all_cons1 (neN (by omega)) (all_cons1 (neN (by omega)) (all_cons1 (neN (by omega)) (all_cons1 (neN (by omega)) (all_cons1 (neN (by omega)) (all_cons1 (neN (by omega)) (all_cons1 (neN (by omega)) (all_cons1 (neN (by omega)) (all_cons1 (neN (by omega)) (by assumption))))))))))); (case m7 => decide); (case k5 => k_asm); (case kK => first | exact rfl | assumption); (case kd => ktr_room); (case ku => ktr_units); intro r9 n9 h9 t9 F9 N9 ho9; (obtain ⟨t19, t29, tk9, e1, e2⟩ := ho9; subst e1; subst e2); (try k_sweep))))
  trivial
theorem statement_ (w : World) (c : PC) (x dx : Addr) (rest : List (Addr × Obj)) (v : Value) (t : T) (r : Nat) (t1 t2 : Nat) (hT : TreeIn rest t v) (hW : WF t) (hr : r ≤ 10000) (hne : x ≠ dx) (hall : ∀ p ∈ rest, p.1 ≠ dx) :
  Calls w 297 [.ref x, v] 569 3264 (pst c x dx (r : Int) ((0 : Nat) : Int) t1 t2 rest) (TextPost c x dx ((txt t 80 r).2 : Nat) ((0 : Nat) : Int) (txt t 80 r).1 rest) := by
  unfold Calls; k_fill
  intro mean mg mb dp un gd cn cs a ccd cl outer A₀ base h₀ L m st R B F X N T hk hdp hun hret
  k_dflt ktr_enter
  k_steps
  exact hret _ _ _ _ (by k_asm) (by first | k_asm | exact drop1 (by k_asm) | exact drop2 (by k_asm) | exact drop3 (by k_asm) | exact drop4 (by k_asm) | exact drop5 (by k_asm) | exact drop6 (by k_asm) | exact drop7 (by k_asm) | exact drop8 (by k_asm) | exact drop9 (by k_asm) | exact news_tl (by k_asm) | exact news_tl (news_tl (by k_asm)) | exact news_tl (news_tl (news_tl (by k_asm))) | exact news_tl (news_tl (news_tl (news_tl (by k_asm))))) ⟨_, _, _, rfl, rfl⟩
theorem words30 : True := by
  k_with "call ref" => (k_here; (with_reducible show wpAny _ _ (call (Value.ref 334) _) _ _ _); k_dflt (refine' make_printer ?k1 ?k2 ?k3 ?k4 ?k5 ?kK ?kd ?ku ?_; (case k1 => k_asm); (case k2 => k_asm); (case k3 => k_asm); (case k4 => k_asm); (case k5 => k_asm); (case kK => first | exact rfl | assumption); (case kd => ktr_room); (case ku => ktr_units); intro x9 d9 c9 t19 t29 h9 t9 hx9 ha9 F9 N9; (try k_sweep)))
  k_with "call ref" => (k_here; (with_reducible show wpAny _ _ (call (Value.ref 297) _) _ _ _); k_dflt (first
    | (refine' Calls.use (statement_ _ _ _ _ _ _ _ _ _ _ ?m1 ?m2 ?m3 ?m4 ?m5) ?k1 ?k2 ?k3 ?k4 ?k5 ?kK ?kd ?ku ?_; (case k1 => k_asm); (case k2 => k_asm); (case k3 => k_asm); (case k4 => (first | k_asm | exact rot1 (by k_asm) | exact rot2 (by k_asm) | exact rot3 (by k_asm) | exact rot4 (by k_asm) | exact rot5 (by k_asm) | exact rot6 (by k_asm) | exact rot7 (by k_asm) | exact rot8 (by k_asm) | exact rot9 (by k_asm))); (case m1 => (first | assumption | exact TreeIn.mono (fun _ h => .tail _ h) _ _ (by assumption) | exact TreeIn.mono (fun _ h => .tail _ (.tail _ h)) _ _ (by assumption) | exact TreeIn.mono (fun _ h => .tail _ (.tail _ (.tail _ h))) _ _ (by assumption) | exact TreeIn.mono (fun _ h => .tail _ (.tail _ (.tail _ (.tail _ h)))) _ _ (by assumption) | exact TreeIn.mono (fun _ h => .tail _ (.tail _ (.tail _ (.tail _ (.tail _ h))))) _ _ (by assumption) | exact TreeIn.mono (fun _ h => .tail _ (.tail _ (.tail _ (.tail _ (.tail _ (.tail _ h)))))) _ _ (by assumption) | exact TreeIn.mono (fun _ h => .tail _ (.tail _ (.tail _ (.tail _ (.tail _ (.tail _ (.tail _ h))))))) _ _ (by assumption) | exact TreeIn.mono (fun _ h => .tail _ (.tail _ (.tail _ (.tail _ (.tail _ (.tail _ (.tail _ (.tail _ h)))))))) _ _ (by assumption) | exact TreeIn.mono (fun _ h => .tail _ (.tail _ (.tail _ (.tail _ (.tail _ (.tail _ (.tail _ (.tail _ (.tail _ h))))))))) _ _ (by assumption))); (case m2 => assumption); (case m3 => assumption); (case m4 => assumption); (case m5 => (first | assumption | exact all_cons1 (neN (by omega)) (by assumption) | exact all_cons1 (neN (by omega)) (all_cons1 (neN (by omega)) (by assumption)) | exact all_cons1 (neN (by omega)) (all_cons1 (neN (by omega)) (all_cons1 (neN (by omega)) (by assumption))) | exact all_cons1 (neN (by omega)) (all_cons1 (neN (by omega)) (all_cons1 (neN (by omega)) (all_cons1 (neN (by omega)) (by assumption)))) | exact all_cons1 (neN (by omega)) (all_cons1 (neN (by omega)) (all_cons1 (neN (by omega)) (all_cons1 (neN (by omega)) (all_cons1 (neN (by omega)) (by assumption))))) | exact all_cons1 (neN (by omega)) (all_cons1 (neN (by omega)) (all_cons1 (neN (by omega)) (all_cons1 (neN (by omega)) (all_cons1 (neN (by omega)) (all_cons1 (neN (by omega)) (by assumption)))))) | exact all_cons1 (neN (by omega)) (all_cons1 (neN (by omega)) (all_cons1 (neN (by omega)) (all_cons1 (neN (by omega)) (all_cons1 (neN (by omega)) (all_cons1 (neN (by omega)) (all_cons1 (neN (by omega)) (by assumption))))))) | exact all_cons1 (neN (by omega)) (all_cons1 (neN (by omega)) (all_cons1 (neN (by omega)) (all_cons1 (neN (by omega)) (all_cons1 (neN (by omega)) (all_cons1 (neN (by omega)) (all_cons1 (neN (by omega)) (all_cons1 (neN (by omega)) (by assumption)))))))) | exact all_cons1 (neN (by omega)) (all_cons1 (neN (by omega)) (all_cons1 (neN (by omega)) (all_cons1 (neN (by omega)) (all_cons1 (neN (by omega)) (all_cons1 (neN (by omega)) (all_cons1 (neN (by omega)) (all_cons1 (neN (by omega)) (all_cons1 (neN (by omega)) (by assumption))))))))))); (case k5 => k_asm); (case kK => first | exact rfl | assumption); (case kd => ktr_room); (case ku => ktr_units); intro r9 n9 h9 t9 F9 N9 ho9; (obtain ⟨t19, t29, tk9, e1, e2⟩ := ho9; subst e1; subst e2); (try k_sweep))))
  trivial
theorem tree_text_ (w : World) (news : List (Addr × Obj)) (v : Value) (t : T) (r tk : Nat) (hT : TreeIn news t v) (hW : WF t) (hr : r ≤ 10000) :
  Calls w 352 [v, .int (r : Int) tk] 571 3272 news (fun nx res => nx = news ∧ ∃ tk, res = .str (txt t 80 r).1 tk) := by
  unfold Calls; k_fill
  intro mean mg mb dp un gd cn cs a ccd cl outer A₀ base h₀ L m st R B F X N T hk hdp hun hret
  k_dflt ktr_enter
  k_steps
  exact hret _ _ _ _ (by k_asm) (news_tl (news_tl (by k_asm))) ⟨rfl, _, rfl⟩
theorem words31 : True := by
  k_with_none
  trivial
section
variable {h₀ h : Heap} {L : Addr} {a q1 q2 q3 q4 q5 q6 q7 q8 q9 : Addr × Obj} {r : List (Addr × Obj)}
theorem rotA1 (N : News h₀ L h (q1 :: a :: r)) : News h₀ L h (a :: q1 :: r) := fun p hp => N p (by
  simp only [List.mem_cons] at hp ⊢; rcases hp with h | h | h <;> simp [h])
theorem dropA1 (N : News h₀ L h (a :: q1 :: r)) : News h₀ L h (a :: r) := fun p hp => N p (by
  simp only [List.mem_cons] at hp ⊢; rcases hp with h | h <;> simp [h])
theorem rotA2 (N : News h₀ L h (q1 :: q2 :: a :: r)) : News h₀ L h (a :: q1 :: q2 :: r) := fun p hp => N p (by
  simp only [List.mem_cons] at hp ⊢; rcases hp with h | h | h | h <;> simp [h])
theorem dropA2 (N : News h₀ L h (a :: q1 :: q2 :: r)) : News h₀ L h (a :: r) := fun p hp => N p (by
  simp only [List.mem_cons] at hp ⊢; rcases hp with h | h <;> simp [h])
theorem rotA3 (N : News h₀ L h (q1 :: q2 :: q3 :: a :: r)) : News h₀ L h (a :: q1 :: q2 :: q3 :: r) := fun p hp => N p (by
  simp only [List.mem_cons] at hp ⊢; rcases hp with h | h | h | h | h <;> simp [h])
theorem dropA3 (N : News h₀ L h (a :: q1 :: q2 :: q3 :: r)) : News h₀ L h (a :: r) := fun p hp => N p (by
  simp only [List.mem_cons] at hp ⊢; rcases hp with h | h <;> simp [h])
theorem rotA4 (N : News h₀ L h (q1 :: q2 :: q3 :: q4 :: a :: r)) : News h₀ L h (a :: q1 :: q2 :: q3 :: q4 :: r) := fun p hp => N p (by
  simp only [List.mem_cons] at hp ⊢; rcases hp with h | h | h | h | h | h <;> simp [h])
theorem dropA4 (N : News h₀ L h (a :: q1 :: q2 :: q3 :: q4 :: r)) : News h₀ L h (a :: r) := fun p hp => N p (by
  simp only [List.mem_cons] at hp ⊢; rcases hp with h | h <;> simp [h])
theorem rotA5 (N : News h₀ L h (q1 :: q2 :: q3 :: q4 :: q5 :: a :: r)) : News h₀ L h (a :: q1 :: q2 :: q3 :: q4 :: q5 :: r) := fun p hp => N p (by
  simp only [List.mem_cons] at hp ⊢; rcases hp with h | h | h | h | h | h | h <;> simp [h])
theorem dropA5 (N : News h₀ L h (a :: q1 :: q2 :: q3 :: q4 :: q5 :: r)) : News h₀ L h (a :: r) := fun p hp => N p (by
  simp only [List.mem_cons] at hp ⊢; rcases hp with h | h <;> simp [h])
theorem rotA6 (N : News h₀ L h (q1 :: q2 :: q3 :: q4 :: q5 :: q6 :: a :: r)) : News h₀ L h (a :: q1 :: q2 :: q3 :: q4 :: q5 :: q6 :: r) := fun p hp => N p (by
  simp only [List.mem_cons] at hp ⊢; rcases hp with h | h | h | h | h | h | h | h <;> simp [h])
theorem dropA6 (N : News h₀ L h (a :: q1 :: q2 :: q3 :: q4 :: q5 :: q6 :: r)) : News h₀ L h (a :: r) := fun p hp => N p (by
  simp only [List.mem_cons] at hp ⊢; rcases hp with h | h <;> simp [h])
theorem rotA7 (N : News h₀ L h (q1 :: q2 :: q3 :: q4 :: q5 :: q6 :: q7 :: a :: r)) : News h₀ L h (a :: q1 :: q2 :: q3 :: q4 :: q5 :: q6 :: q7 :: r) := fun p hp => N p (by
  simp only [List.mem_cons] at hp ⊢; rcases hp with h | h | h | h | h | h | h | h | h <;> simp [h])
theorem dropA7 (N : News h₀ L h (a :: q1 :: q2 :: q3 :: q4 :: q5 :: q6 :: q7 :: r)) : News h₀ L h (a :: r) := fun p hp => N p (by
  simp only [List.mem_cons] at hp ⊢; rcases hp with h | h <;> simp [h])
theorem rotA8 (N : News h₀ L h (q1 :: q2 :: q3 :: q4 :: q5 :: q6 :: q7 :: q8 :: a :: r)) : News h₀ L h (a :: q1 :: q2 :: q3 :: q4 :: q5 :: q6 :: q7 :: q8 :: r) := fun p hp => N p (by
  simp only [List.mem_cons] at hp ⊢; rcases hp with h | h | h | h | h | h | h | h | h | h <;> simp [h])
theorem dropA8 (N : News h₀ L h (a :: q1 :: q2 :: q3 :: q4 :: q5 :: q6 :: q7 :: q8 :: r)) : News h₀ L h (a :: r) := fun p hp => N p (by
  simp only [List.mem_cons] at hp ⊢; rcases hp with h | h <;> simp [h])
theorem rotA9 (N : News h₀ L h (q1 :: q2 :: q3 :: q4 :: q5 :: q6 :: q7 :: q8 :: q9 :: a :: r)) : News h₀ L h (a :: q1 :: q2 :: q3 :: q4 :: q5 :: q6 :: q7 :: q8 :: q9 :: r) := fun p hp => N p (by
  simp only [List.mem_cons] at hp ⊢; rcases hp with h | h | h | h | h | h | h | h | h | h | h <;> simp [h])
theorem dropA9 (N : News h₀ L h (a :: q1 :: q2 :: q3 :: q4 :: q5 :: q6 :: q7 :: q8 :: q9 :: r)) : News h₀ L h (a :: r) := fun p hp => N p (by
  simp only [List.mem_cons] at hp ⊢; rcases hp with h | h <;> simp [h])
theorem unrotA1 (N : News h₀ L h (a :: q1 :: r)) : News h₀ L h (q1 :: a :: r) := rotA1 N
end
mutual
def height : T → Nat
  | .sym _ => 1
  | .int _ => 1
  | .dot t => height t + 1
  | .node _ ps => heights ps + 1
def heights : List T → Nat
  | [] => 0
  | t :: ps => max (height t) (heights ps)
end
theorem height_pos (t : T) : 0 < height t := by cases t <;> rw [height] <;> omega
theorem heights_get : ∀ {ps : List T} {t : T}, t ∈ ps → height t ≤ heights ps
  | p :: ps, t, h => by
    rw [heights]
    rcases List.mem_cons.mp h with rfl | h
    · exact Nat.le_max_left _ _
    · exact Nat.le_trans (heights_get h) (Nat.le_max_right _ _)
abbrev rst (ra : Addr) (r : Int) (tk e : Nat) (rest : List (Addr × Obj)) : List (Addr × Obj) := (ra, listOf (List.toArray [.int r tk]) e) :: rest
def RoomPost (ra : Addr) (r : Int) (tx : Str) (rest nx : List (Addr × Obj)) (res : Value) : Prop := ∃ tk' e' tk, nx = rst ra r tk' e' rest ∧ res = .str tx tk
def ToldI (w : World) (k : Nat) (ra : Addr) (l l' : Int) (t : T) (tx : Str) : Prop := ∀ (rest : List (Addr × Obj)) (v : Value) (tk e : Nat), TreeIn rest t v → (∀ p ∈ rest, p.1 ≠ ra) →
  Calls w 390 [v, .ref ra] (2 * k + 3) (8 * k + 30) (rst ra l tk e rest) (RoomPost ra l' tx rest)
def RowI (w : World) (k : Nat) (ra : Addr) (l l' : Int) (ps : List T) (tx : Str) : Prop := ∀ (rest : List (Addr × Obj)) (p : Addr) (n : Nat) (vs : List Value) (tk e : Nat), (p, tupOf vs n) ∈ rest → ForestIn rest ps vs → (∀ p ∈ rest, p.1 ≠ ra) →
  Calls w 383 [.ref p, .ref ra] (2 * k + 4) (8 * k + 34) (rst ra l tk e rest) (RoomPost ra l' tx rest)
section
variable {prog : Program} {w : World} {A : Around} {E : Value → Shared → Prop} {s : Shared} {h₀ : Heap} {L a b : Addr} {news : List (Addr × Obj)} {Q : Value → Shared → Prop} {n n2 : Nat}
theorem litem_first {value slice : Expr} {v : Value} {vs : List Value} {u : Nat} (N : News h₀ L s.heap news) (hm : (a, listOf (List.toArray (v :: vs)) n) ∈ news) (h : Q v s)
    (hs : subscripted slice false (.ref a) (.int 0 u) = operate [.ref a, .int 0 u] (getItem (.ref a) (.int 0 u)) := by with_unfolding_all rfl) (hg : ∀ r, letTemporaryGo value (.ref a) r = pure () := by intro _; with_unfolding_all rfl) :
    wpAny (model prog w) A (subscriptTail value slice (.ref a) (.int 0 u)) Q E s :=
  item_listL (N.isList hm) (by decide) (by decide) rfl h hs hg
theorem litem_second {value slice : Expr} {v v2 : Value} {vs : List Value} {u : Nat} (N : News h₀ L s.heap news) (hm : (a, listOf (List.toArray (v :: v2 :: vs)) n) ∈ news) (h : Q v2 s)
    (hs : subscripted slice false (.ref a) (.int 1 u) = operate [.ref a, .int 1 u] (getItem (.ref a) (.int 1 u)) := by with_unfolding_all rfl) (hg : ∀ r, letTemporaryGo value (.ref a) r = pure () := by intro _; with_unfolding_all rfl) :
    wpAny (model prog w) A (subscriptTail value slice (.ref a) (.int 1 u)) Q E s :=
  item_listL (N.isList hm) (by decide) (by decide) rfl h hs hg
end
theorem words32 : True := by
  k_with "eval Call" => (k_here; (with_reducible show wpAny _ _ (eval (Expr.Call (Expr.Name _ _) _ _ _) _) _ _ _); k_dflt (refine Call_ ?_))
  k_with "compareOp In str ref" => (k_here; k_dflt (first
    | (refine' in_top ?F ?X ?l ?k ?e ?_; (case F => k_asm); (case X => k_asm); (case l => k_is); (case k => (repeat constructor)); (case e => first | decide | exact plain_any (by assumption) _ (by decide)); k_whole)
    | (refine' in_topT ?F ?X ?l ?k ?e ?_; (case F => k_asm); (case X => k_asm); (case l => k_is); (case k => (repeat constructor)); (case e => decide); k_whole)))
  k_with "call ref" => (k_here; (with_reducible show wpAny _ _ (call (Value.ref 21) _) _ _ _); k_dflt (first
    | (refine' Calls.use (is_expr_two _ _ _ _ _ _ _ _ _ ?m2 ?m1) ?k1 ?k2 ?k3 ?k4 ?k5 ?kK ?kd ?ku ?_; (case k1 => k_asm); (case k2 => k_asm); (case k3 => k_asm); (case k4 => k_asm); (case m1 => k_mem); (case m2 => decide); (case k5 => k_asm); (case kK => first | exact rfl | assumption); (case kd => ktr_room); (case ku => ktr_units); intro r9 n9 h9 t9 F9 N9 ho9; (obtain ⟨e1, e2⟩ := ho9; subst e1; subst e2); (try k_sweep))
    | (refine' Calls.use (is_expr_ne _ _ _ _ _ _ _ _ _ _ ?m2 ?m1) ?k1 ?k2 ?k3 ?k4 ?k5 ?kK ?kd ?ku ?_; (case k1 => k_asm); (case k2 => k_asm); (case k3 => k_asm); (case k4 => k_asm); (case m1 => k_mem); (case m2 => first | assumption | decide); (case k5 => k_asm); (case kK => first | exact rfl | assumption); (case kd => ktr_room); (case ku => ktr_units); intro r9 n9 h9 t9 F9 N9 ho9; (obtain ⟨e1, e2⟩ := ho9; subst e1; subst e2); (try k_sweep))
    | (refine' Calls.use (is_expr_expr _ _ _ _ _ _ _ _ _ _ ?m1) ?k1 ?k2 ?k3 ?k4 ?k5 ?kK ?kd ?ku ?_; (case k1 => k_asm); (case k2 => k_asm); (case k3 => k_asm); (case k4 => k_asm); (case m1 => k_mem); (case k5 => k_asm); (case kK => first | exact rfl | assumption); (case kd => ktr_room); (case ku => ktr_units); intro r9 n9 h9 t9 F9 N9 ho9; (obtain ⟨e1, e2⟩ := ho9; subst e1; subst e2); (try k_sweep))))
  k_with "call ref" => (k_here; (with_reducible show wpAny _ _ (call (Value.ref 28) _) _ _ _); k_dflt (first
    | (refine' Calls.use (parts_of_expr _ _ _ _ _ _ _ _ ?m1) ?k1 ?k2 ?k3 ?k4 ?k5 ?kK ?kd ?ku ?_; (case k1 => k_asm); (case k2 => k_asm); (case k3 => k_asm); (case k4 => k_asm); (case m1 => k_mem); (case k5 => k_asm); (case kK => first | exact rfl | assumption); (case kd => ktr_room); (case ku => ktr_units); intro r9 n9 h9 t9 F9 N9 ho9; (obtain ⟨e1, e2⟩ := ho9; subst e1; subst e2); (try k_sweep))))
  k_with "call ref" => (k_here; (with_reducible show wpAny _ _ (call (Value.ref 35) _) _ _ _); k_dflt (first
    | (refine' Calls.use (is_sym_ _ _ _ _ _ _ _ ?m1) ?k1 ?k2 ?k3 ?k4 ?k5 ?kK ?kd ?ku ?_; (case k1 => k_asm); (case k2 => k_asm); (case k3 => k_asm); (case k4 => k_asm); (case m1 => k_mem); (case k5 => k_asm); (case kK => first | exact rfl | assumption); (case kd => ktr_room); (case ku => ktr_units); intro r9 n9 h9 t9 F9 N9 ho9; (obtain ⟨e1, e2⟩ := ho9; subst e1; subst e2); (try k_sweep))))
  k_with "call ref" => (k_here; (with_reducible show wpAny _ _ (call (Value.ref 21) _) _ _ _); k_dflt (first
    | (refine' Calls.use (is_expr_two _ _ _ _ _ _ _ _ _ ?m2 ?m1) ?k1 ?k2 ?k3 ?k4 ?k5 ?kK ?kd ?ku ?_; (case k1 => k_asm); (case k2 => k_asm); (case k3 => k_asm); (case k4 => k_asm); (case m1 => k_mem); (case m2 => decide); (case k5 => k_asm); (case kK => first | exact rfl | assumption); (case kd => ktr_room); (case ku => ktr_units); intro r9 n9 h9 t9 F9 N9 ho9; (obtain ⟨e1, e2⟩ := ho9; subst e1; subst e2); (try k_sweep))
    | (refine' Calls.use (is_expr_ne _ _ _ _ _ _ _ _ _ _ ?m2 ?m1) ?k1 ?k2 ?k3 ?k4 ?k5 ?kK ?kd ?ku ?_; (case k1 => k_asm); (case k2 => k_asm); (case k3 => k_asm); (case k4 => k_asm); (case m1 => k_mem); (case m2 => first | assumption | decide); (case k5 => k_asm); (case kK => first | exact rfl | assumption); (case kd => ktr_room); (case ku => ktr_units); intro r9 n9 h9 t9 F9 N9 ho9; (obtain ⟨e1, e2⟩ := ho9; subst e1; subst e2); (try k_sweep))
    | (refine' Calls.use (is_expr_expr _ _ _ _ _ _ _ _ _ _ ?m1) ?k1 ?k2 ?k3 ?k4 ?k5 ?kK ?kd ?ku ?_; (case k1 => k_asm); (case k2 => k_asm); (case k3 => k_asm); (case k4 => k_asm); (case m1 => k_mem); (case k5 => k_asm); (case kK => first | exact rfl | assumption); (case kd => ktr_room); (case ku => ktr_units); intro r9 n9 h9 t9 F9 N9 ho9; (obtain ⟨e1, e2⟩ := ho9; subst e1; subst e2); (try k_sweep))
    | (refine' Calls.use (is_expr_tree _ _ ?mt _ _ _ ?m1 ?m2) ?k1 ?k2 ?k3 ?k4 ?k5 ?kK ?kd ?ku ?_; (case k1 => k_asm); (case k2 => k_asm); (case k3 => k_asm); (case k4 => k_asm); (case m1 => (first | assumption | exact TreeIn.mono (fun _ h => .tail _ (.tail _ h)) _ _ (by assumption) | exact TreeIn.mono (fun _ h => .tail _ (.tail _ (.tail _ h))) _ _ (by assumption) | exact TreeIn.mono (fun _ h => .tail _ (.tail _ (.tail _ (.tail _ h)))) _ _ (by assumption) | exact TreeIn.mono (fun _ h => .tail _ (.tail _ (.tail _ (.tail _ (.tail _ h))))) _ _ (by assumption))); (case m2 => decide); (case k5 => k_asm); (case kK => first | exact rfl | assumption); (case kd => ktr_room); (case ku => ktr_units); intro r9 n9 h9 t9 F9 N9 ho9; (obtain ⟨e1, e2⟩ := ho9; subst e1; subst e2); (try k_sweep))))
  k_with "call ref" => (k_here; (with_reducible show wpAny _ _ (call (Value.ref 141) _) _ _ _); k_dflt (first
    | (rename AtSpec _ _ => hA9; (refine' Calls.use (hA9 _ _ _ _ _ _ _ _ _ _ _ ?m1 ?m2 ?m3 ?m4 ?m5 ?m6 ?m7) ?k1 ?k2 ?k3 ?k4 ?k5 ?kK ?kd ?ku ?_; (case k1 => k_asm); (case k2 => k_asm); (case k3 => k_asm); (case k4 => (first | k_asm | exact rot1 (by k_asm) | exact rot2 (by k_asm) | exact rot3 (by k_asm) | exact rot4 (by k_asm) | exact rot5 (by k_asm) | exact rot6 (by k_asm) | exact rot7 (by k_asm) | exact rot8 (by k_asm) | exact rot9 (by k_asm))); (case m1 => (first | assumption | exact TreeIn.mono (fun _ h => .tail _ h) _ _ (by assumption) | exact TreeIn.mono (fun _ h => .tail _ (.tail _ h)) _ _ (by assumption) | exact TreeIn.mono (fun _ h => .tail _ (.tail _ (.tail _ h))) _ _ (by assumption) | exact TreeIn.mono (fun _ h => .tail _ (.tail _ (.tail _ (.tail _ h)))) _ _ (by assumption) | exact TreeIn.mono (fun _ h => .tail _ (.tail _ (.tail _ (.tail _ (.tail _ h))))) _ _ (by assumption) | exact TreeIn.mono (fun _ h => .tail _ (.tail _ (.tail _ (.tail _ (.tail _ (.tail _ h)))))) _ _ (by assumption) | exact TreeIn.mono (fun _ h => .tail _ (.tail _ (.tail _ (.tail _ (.tail _ (.tail _ (.tail _ h))))))) _ _ (by assumption) | exact TreeIn.mono (fun _ h => .tail _ (.tail _ (.tail _ (.tail _ (.tail _ (.tail _ (.tail _ (.tail _ h)))))))) _ _ (by assumption) | exact TreeIn.mono (fun _ h => .tail _ (.tail _ (.tail _ (.tail _ (.tail _ (.tail _ (.tail _ (.tail _ (.tail _ h))))))))) _ _ (by assumption))); (case m2 => assumption); (case m3 => assumption); (case m4 => assumption); (case m5 => assumption); (case m6 => (first | assumption | exact all_cons1 (neN (by omega)) (by assumption) | exact all_cons1 (neN (by omega)) (all_cons1 (neN (by omega)) (by assumption)) | exact all_cons1 (neN (by omega)) (all_cons1 (neN (by omega)) (all_cons1 (neN (by omega)) (by assumption))) | exact all_cons1 (neN (by omega)) (all_cons1 (neN (by omega)) (all_cons1 (neN (by omega)) (all_cons1 (neN (by omega)) (by assumption)))) | exact all_cons1 (neN (by omega)) (all_cons1 (neN (by omega)) (all_cons1 (neN (by omega)) (all_cons1 (neN (by omega)) (all_cons1 (neN (by omega)) (by assumption))))) | exact all_cons1 (neN (by omega)) (all_cons1 (neN (by omega)) (all_cons1 (neN (by omega)) (all_cons1 (neN (by omega)) (all_cons1 (neN (by omega)) (all_cons1 (neN (by omega)) (by assumption)))))) | exact all_cons1 (neN (by omega)) (all_cons1 (neN (by omega)) (all_cons1 (neN (by omega)) (all_cons1 (neN (by omega)) (all_cons1 (neN (by omega)) (all_cons1 (neN (by omega)) (all_cons1 (neN (by omega)) (by assumption))))))) | exact all_cons1 (neN (by omega)) (all_cons1 (neN (by omega)) (all_cons1 (neN (by omega)) (all_cons1 (neN (by omega)) (all_cons1 (neN (by omega)) (all_cons1 (neN (by omega)) (all_cons1 (neN (by omega)) (all_cons1 (neN (by omega)) (by assumption)))))))) | exact all_cons1 (neN (by omega)) (all_cons1 (neN (by omega)) (all_cons1 (neN (by omega)) (all_cons1 (neN (by omega)) (all_cons1 (neN (by omega)) (all_cons1 (neN (by omega)) (all_cons1 (neN (by omega)) (all_cons1 (neN (by omega)) (all_cons1 (neN (by omega)) (by assumption))))))))))); (case m7 => decide); (case k5 => k_asm); (case kK => first | exact rfl | assumption); (case kd => ktr_room); (case ku => ktr_units); intro r9 n9 h9 t9 F9 N9 ho9; (obtain ⟨t19, t29, tk9, e1, e2⟩ := ho9; subst e1; subst e2); (try k_sweep)))))
  k_with "compareOp Eq ref ref" => (k_here; k_dflt (first
    | (refine' eq_tups ?N ?u ?m1 ?m2 ?_; (case N => k_asm); (case u => ktr_units); (case m1 => k_mem); (case m2 => k_mem); k_whole)
    | (refine' eq_syms ?N ?u ?m1 ?m2 ?e ?_; (case N => k_asm); (case u => ktr_units); (case m1 => k_mem); (case m2 => k_mem); (case e => first | decide | exact plain_ne (by assumption) _ (by decide)); k_whole)
    | (refine' eq_int_sym ?N ?u ?m1 ?m2 ?_; (case N => k_asm); (case u => ktr_units); (case m1 => k_mem); (case m2 => k_mem); k_whole)))
  k_with "compareOp NotEq ref ref" => (k_here; k_dflt (first
    | (refine' ne_nil0 ?N ?u ?m1 ?m2 ?_; (case N => k_asm); (case u => ktr_units); (case m1 => k_mem); (case m2 => first | exact isTuple_of (by k_asm) (by k_mem)); k_whole)
    | (refine' ne_cons ?N ?u ?m1 ?m2 ?_; (case N => k_asm); (case u => ktr_units); (case m1 => k_mem); (case m2 => first | exact isTuple_of (by k_asm) (by k_mem)); k_whole)))
  k_with "subscriptTail" => (k_here; (with_reducible show wpAny _ _ (subscriptTail _ _ (Value.ref _) (Value.ref _)) _ _ _); (with_unfolding_all refine' slice1 ?F ?N ?m1 ?z ?_ ?hs ?hg; (case F => k_asm); (case N => k_asm); (case m1 => k_mem); (case z => (first | decide | omega | (simp only [List.length_cons, List.length_nil]; omega))); (case hs => exact rfl); (case hg => intro _; exact rfl); k_whole); intro q9 h9 F9 N9 l9; (try k_lt l9); (try k_sweep))
  k_with "subscriptTail" => (k_here; (with_reducible show wpAny _ _ (subscriptTail _ _ (Value.ref _) (Value.int 0 _)) _ _ _); (with_unfolding_all refine' item_first ?N ?m ?_ ?hs; (case N => k_asm); (case m => k_mem); (case hs => exact rfl); k_whole))
  k_with "subscriptTail" => (k_here; (with_reducible show wpAny _ _ (subscriptTail _ _ (Value.ref _) (Value.int 1 _)) _ _ _); (with_unfolding_all refine' item_second ?N ?m ?_ ?hs; (case N => k_asm); (case m => k_mem); (case hs => exact rfl); k_whole))
  k_with "call builtin:len" => (k_here; (with_reducible show wpAny _ _ (call (Value.builtin "len") [Value.ref _]) _ _ _); k_dflt (refine' len_tup ?N ?m ?z ?e ?_; (case N => k_asm); (case m => k_mem); (case z => (first | decide | omega | (simp only [List.length_cons, List.length_nil]; omega))); (case e => first | (simp only [List.length_cons, List.length_nil, Nat.zero_add, Nat.reduceAdd]; exact rfl) | exact rfl); k_whole))
  k_with "eval Name" => (k_here; (with_reducible show wpAny _ _ (eval (Expr.Name _ _) (compEnvC _ _ _ _)) _ _ _); k_dflt (first
    | (refine' comp_local ?n ?v ?_ ?a ?b ?d; (case n => k_asm); (case v => first | assumption | exact rfl); (case a => exact rfl); (case b => exact rfl); (case d => decide); k_whole)
    | (refine' comp_cell ?N ?c ?m ?d ?_ ?a ?b ?e; (case N => k_asm); (case c => exact rfl); (case m => k_mem); (case d => first | assumption | exact rfl); (case a => exact rfl); (case b => exact rfl); (case e => decide); k_whole)
    | (refine' nameG_K ?F ?X ?T ?e ?_ ?g ?k ?x ?d; (case F => k_asm); (case X => k_asm); (case T => k_asm); (case e => k_is); (case g => exact rfl); (case k => exact rfl); (case x => exact rfl); (case d => decide); k_whole)))
  k_with "eval Call Attribute" => (k_here; (with_reducible show wpAny _ _ (eval (Expr.Call (Expr.Attribute _ _ _) _ _ _) _) _ _ _); k_dflt (refine MethodCall_ ?_))
  k_with "eval ListComp" => (k_here; k_dflt ((refine' comp_inv ?c1 ?c2 ?c3 ?c4 ?c5 ?_ ?c6); (case c1 => with_unfolding_all exact rfl); (case c2 => decide); (case c3 => exact rfl); (case c4 => decide); (case c5 => exact rfl); (case c6 => intro _; exact rfl); k_whole))
  k_with "call builtin:str.join" => (k_here; (with_reducible show wpAny _ _ (call (Value.builtin "str.join") [Value.str _ _, Value.ref _]) _ _ _); (with_reducible rename StrsAre _ _ => hS9); k_dflt (refine' join_mine (News.isList ?N ?m) ?i ?k ?_; (case N => k_asm); (case m => k_mem); (case i => simpa using hS9); (case k => assumption)); intro t9 k9)
  k_with "subscriptTail Name Constant ref int" => (k_here; (with_reducible show wpAny _ _ (subscriptTail _ _ (Value.ref _) (Value.int 0 _)) _ _ _); (with_unfolding_all refine' litem_first ?N ?m ?_ ?hs ?hg; (case N => k_asm); (case m => k_mem); (case hs => exact rfl); (case hg => intro _; exact rfl); k_whole))
  k_with "subscriptTail Name Constant ref int" => (k_here; (with_reducible show wpAny _ _ (subscriptTail _ _ (Value.ref _) (Value.int 1 _)) _ _ _); (with_unfolding_all refine' litem_second ?N ?m ?_ ?hs ?hg; (case N => k_asm); (case m => k_mem); (case hs => exact rfl); (case hg => intro _; exact rfl); k_whole))
  k_with "call ref" => (k_here; (with_reducible show wpAny _ _ (call (Value.ref 390) _) _ _ _); k_dflt (first
    | (rename ToldI _ _ _ _ _ _ _ => hT9; (refine' Calls.use (hT9 _ _ _ _ ?m1 ?m2) ?k1 ?k2 ?k3 ?k4 ?k5 ?kK ?kd ?ku ?_; (case k1 => k_asm); (case k2 => k_asm); (case k3 => k_asm); (case k4 => (first | k_asm | exact rotA1 (by k_asm) | exact rotA2 (by k_asm) | exact rotA3 (by k_asm) | exact rotA4 (by k_asm) | exact rotA5 (by k_asm) | exact rotA6 (by k_asm) | exact rotA7 (by k_asm) | exact rotA8 (by k_asm) | exact rotA9 (by k_asm))); (case m1 => (first | assumption | exact TreeIn.mono (fun _ h => .tail _ h) _ _ (by assumption) | exact TreeIn.mono (fun _ h => .tail _ (.tail _ h)) _ _ (by assumption) | exact TreeIn.mono (fun _ h => .tail _ (.tail _ (.tail _ h))) _ _ (by assumption) | exact TreeIn.mono (fun _ h => .tail _ (.tail _ (.tail _ (.tail _ h)))) _ _ (by assumption) | exact TreeIn.mono (fun _ h => .tail _ (.tail _ (.tail _ (.tail _ (.tail _ h))))) _ _ (by assumption) | exact TreeIn.mono (fun _ h => .tail _ (.tail _ (.tail _ (.tail _ (.tail _ (.tail _ h)))))) _ _ (by assumption) | exact TreeIn.mono (fun _ h => .tail _ (.tail _ (.tail _ (.tail _ (.tail _ (.tail _ (.tail _ h))))))) _ _ (by assumption) | exact TreeIn.mono (fun _ h => .tail _ (.tail _ (.tail _ (.tail _ (.tail _ (.tail _ (.tail _ (.tail _ h)))))))) _ _ (by assumption) | exact TreeIn.mono (fun _ h => .tail _ (.tail _ (.tail _ (.tail _ (.tail _ (.tail _ (.tail _ (.tail _ (.tail _ h))))))))) _ _ (by assumption))); (case m2 => (first | assumption | exact all_cons1 (neN (by omega)) (by assumption) | exact all_cons1 (neN (by omega)) (all_cons1 (neN (by omega)) (by assumption)) | exact all_cons1 (neN (by omega)) (all_cons1 (neN (by omega)) (all_cons1 (neN (by omega)) (by assumption))) | exact all_cons1 (neN (by omega)) (all_cons1 (neN (by omega)) (all_cons1 (neN (by omega)) (all_cons1 (neN (by omega)) (by assumption)))) | exact all_cons1 (neN (by omega)) (all_cons1 (neN (by omega)) (all_cons1 (neN (by omega)) (all_cons1 (neN (by omega)) (all_cons1 (neN (by omega)) (by assumption))))) | exact all_cons1 (neN (by omega)) (all_cons1 (neN (by omega)) (all_cons1 (neN (by omega)) (all_cons1 (neN (by omega)) (all_cons1 (neN (by omega)) (all_cons1 (neN (by omega)) (by assumption)))))) | exact all_cons1 (neN (by omega)) (all_cons1 (neN (by omega)) (all_cons1 (neN (by omega)) (all_cons1 (neN (by omega)) (all_cons1 (neN (by omega)) (all_cons1 (neN (by omega)) (all_cons1 (neN (by omega)) (by assumption))))))) | exact all_cons1 (neN (by omega)) (all_cons1 (neN (by omega)) (all_cons1 (neN (by omega)) (all_cons1 (neN (by omega)) (all_cons1 (neN (by omega)) (all_cons1 (neN (by omega)) (all_cons1 (neN (by omega)) (all_cons1 (neN (by omega)) (by assumption)))))))) | exact all_cons1 (neN (by omega)) (all_cons1 (neN (by omega)) (all_cons1 (neN (by omega)) (all_cons1 (neN (by omega)) (all_cons1 (neN (by omega)) (all_cons1 (neN (by omega)) (all_cons1 (neN (by omega)) (all_cons1 (neN (by omega)) (all_cons1 (neN (by omega)) (by assumption))))))))))); (case k5 => k_asm); (case kK => first | exact rfl | assumption); (case kd => ktr_room); (case ku => ktr_units); intro r9 n9 h9 t9 F9 N9 ho9; (obtain ⟨tk19, e9, tk9, e1, e2⟩ := ho9; subst e1; subst e2; clear hT9); (try k_sweep)))))
  k_with "call ref" => (k_here; (with_reducible show wpAny _ _ (call (Value.ref 383) _) _ _ _); k_dflt (first
    | (rename RowI _ _ _ _ _ _ _ => hR9; (refine' Calls.use (hR9 _ _ _ _ _ _ ?m1 ?m2 ?m3) ?k1 ?k2 ?k3 ?k4 ?k5 ?kK ?kd ?ku ?_; (case k1 => k_asm); (case k2 => k_asm); (case k3 => k_asm); (case k4 => (first | k_asm | exact rotA1 (by k_asm) | exact rotA2 (by k_asm) | exact rotA3 (by k_asm) | exact rotA4 (by k_asm) | exact rotA5 (by k_asm) | exact rotA6 (by k_asm) | exact rotA7 (by k_asm) | exact rotA8 (by k_asm) | exact rotA9 (by k_asm))); (case m1 => k_mem); (case m2 => (first | assumption | exact ForestIn.mono (fun _ h => .tail _ h) _ _ (by assumption) | exact ForestIn.mono (fun _ h => .tail _ (.tail _ h)) _ _ (by assumption) | exact ForestIn.mono (fun _ h => .tail _ (.tail _ (.tail _ h))) _ _ (by assumption) | exact ForestIn.mono (fun _ h => .tail _ (.tail _ (.tail _ (.tail _ h)))) _ _ (by assumption) | exact ForestIn.mono (fun _ h => .tail _ (.tail _ (.tail _ (.tail _ (.tail _ h))))) _ _ (by assumption) | exact ForestIn.mono (fun _ h => .tail _ (.tail _ (.tail _ (.tail _ (.tail _ (.tail _ h)))))) _ _ (by assumption) | exact ForestIn.mono (fun _ h => .tail _ (.tail _ (.tail _ (.tail _ (.tail _ (.tail _ (.tail _ h))))))) _ _ (by assumption) | exact ForestIn.mono (fun _ h => .tail _ (.tail _ (.tail _ (.tail _ (.tail _ (.tail _ (.tail _ (.tail _ h)))))))) _ _ (by assumption) | exact ForestIn.mono (fun _ h => .tail _ (.tail _ (.tail _ (.tail _ (.tail _ (.tail _ (.tail _ (.tail _ (.tail _ h))))))))) _ _ (by assumption))); (case m3 => (first | assumption | exact all_cons1 (neN (by omega)) (by assumption) | exact all_cons1 (neN (by omega)) (all_cons1 (neN (by omega)) (by assumption)) | exact all_cons1 (neN (by omega)) (all_cons1 (neN (by omega)) (all_cons1 (neN (by omega)) (by assumption))) | exact all_cons1 (neN (by omega)) (all_cons1 (neN (by omega)) (all_cons1 (neN (by omega)) (all_cons1 (neN (by omega)) (by assumption)))) | exact all_cons1 (neN (by omega)) (all_cons1 (neN (by omega)) (all_cons1 (neN (by omega)) (all_cons1 (neN (by omega)) (all_cons1 (neN (by omega)) (by assumption))))) | exact all_cons1 (neN (by omega)) (all_cons1 (neN (by omega)) (all_cons1 (neN (by omega)) (all_cons1 (neN (by omega)) (all_cons1 (neN (by omega)) (all_cons1 (neN (by omega)) (by assumption)))))) | exact all_cons1 (neN (by omega)) (all_cons1 (neN (by omega)) (all_cons1 (neN (by omega)) (all_cons1 (neN (by omega)) (all_cons1 (neN (by omega)) (all_cons1 (neN (by omega)) (all_cons1 (neN (by omega)) (by assumption))))))) | exact all_cons1 (neN (by omega)) (all_cons1 (neN (by omega)) (all_cons1 (neN (by omega)) (all_cons1 (neN (by omega)) (all_cons1 (neN (by omega)) (all_cons1 (neN (by omega)) (all_cons1 (neN (by omega)) (all_cons1 (neN (by omega)) (by assumption)))))))) | exact all_cons1 (neN (by omega)) (all_cons1 (neN (by omega)) (all_cons1 (neN (by omega)) (all_cons1 (neN (by omega)) (all_cons1 (neN (by omega)) (all_cons1 (neN (by omega)) (all_cons1 (neN (by omega)) (all_cons1 (neN (by omega)) (all_cons1 (neN (by omega)) (by assumption))))))))))); (case k5 => k_asm); (case kK => first | exact rfl | assumption); (case kd => ktr_room); (case ku => ktr_units); intro r9 n9 h9 t9 F9 N9 ho9; (obtain ⟨tk19, e9, tk9, e1, e2⟩ := ho9; subst e1; subst e2); (try k_sweep)))))
  trivial
theorem told_dots (w : World) (ra : Addr) (rest : List (Addr × Obj)) (hall : ∀ p ∈ rest, p.1 ≠ ra) (v : Value) (tk e : Nat) :
  Calls w 390 [v, .ref ra] 2 20 (rst ra 0 tk e rest) (RoomPost ra 0 dots rest) := by
  unfold Calls; k_fill
  intro mean mg mb dp un gd cn cs a ccd cl outer A₀ base h₀ L m st R B F X N T hk hdp hun hret
  k_dflt ktr_enter
  k_steps
  exact hret _ _ _ _ (by k_asm) (by first | k_asm | exact dropA1 (by k_asm) | exact dropA2 (by k_asm) | exact dropA3 (by k_asm) | exact dropA4 (by k_asm) | exact dropA5 (by k_asm) | exact dropA6 (by k_asm) | exact dropA7 (by k_asm) | exact dropA8 (by k_asm) | exact dropA9 (by k_asm) | exact news_tl (by k_asm) | exact news_tl (news_tl (by k_asm)) | exact news_tl (news_tl (news_tl (by k_asm)))) ⟨_, _, _, rfl, rfl⟩
theorem told_sym (w : World) (ra : Addr) (rest : List (Addr × Obj)) (hall : ∀ p ∈ rest, p.1 ≠ ra) (a1 : Addr) (y : Str) (tk1 tk2 n1 : Nat) (hm : (a1, tupOf [.str (Str.ofString "sym") tk1, .str y tk2] n1) ∈ rest) (r : Int) (tk e : Nat) (hr : 0 < r) :
  Calls w 390 [.ref a1, .ref ra] 2 20 (rst ra r tk e rest) (RoomPost ra (r - 1) y rest) := by
  unfold Calls; k_fill
  intro mean mg mb dp un gd cn cs a ccd cl outer A₀ base h₀ L m st R B F X N T hk hdp hun hret
  k_dflt ktr_enter
  k_steps
  exact hret _ _ _ _ (by k_asm) (by first | k_asm | exact dropA1 (by k_asm) | exact dropA2 (by k_asm) | exact dropA3 (by k_asm) | exact dropA4 (by k_asm) | exact dropA5 (by k_asm) | exact dropA6 (by k_asm) | exact dropA7 (by k_asm) | exact dropA8 (by k_asm) | exact dropA9 (by k_asm) | exact news_tl (by k_asm) | exact news_tl (news_tl (by k_asm)) | exact news_tl (news_tl (news_tl (by k_asm)))) ⟨_, _, _, rfl, rfl⟩
theorem told_int (w : World) (ra : Addr) (rest : List (Addr × Obj)) (hall : ∀ p ∈ rest, p.1 ≠ ra) (a1 : Addr) (y : Int) (h0 : 0 ≤ y) (h1 : y < 120) (tk1 tk2 n1 : Nat) (hm : (a1, tupOf [.str (Str.ofString "int") tk1, .int y tk2] n1) ∈ rest) (r : Int) (tk e : Nat) (hr : 0 < r) :
  Calls w 390 [.ref a1, .ref ra] 2 20 (rst ra r tk e rest) (RoomPost ra (r - 1) (Str.ofString (toString y)) rest) := by
  unfold Calls; k_fill
  intro mean mg mb dp un gd cn cs a ccd cl outer A₀ base h₀ L m st R B F X N T hk hdp hun hret
  k_dflt ktr_enter
  k_steps
  exact hret _ _ _ _ (by k_asm) (by first | k_asm | exact dropA1 (by k_asm) | exact dropA2 (by k_asm) | exact dropA3 (by k_asm) | exact dropA4 (by k_asm) | exact dropA5 (by k_asm) | exact dropA6 (by k_asm) | exact dropA7 (by k_asm) | exact dropA8 (by k_asm) | exact dropA9 (by k_asm) | exact news_tl (by k_asm) | exact news_tl (news_tl (by k_asm)) | exact news_tl (news_tl (news_tl (by k_asm)))) ⟨_, _, _, rfl, rfl⟩
theorem told_dot (w : World) (ra : Addr) (rest : List (Addr × Obj)) (hall : ∀ p ∈ rest, p.1 ≠ ra) (a1 p1 : Addr) (tk1 tk2 n1 n2 : Nat) (hm : (a1, tupOf [.str (Str.ofString "expr") tk1, .str (Str.ofString ".") tk2, .ref p1] n1) ∈ rest) (r : Int) (tk e k : Nat) (hr : 0 < r) (v1 : Value) (b : Addr) (tk3 tk4 n3 : Nat) (t : T) (l' : Int) (tx : Str) (htx : tx.length ≤ 400000) (hp : (p1, tupOf [v1, .ref b] n2) ∈ rest) (hb : (b, tupOf [.str (Str.ofString "sym") tk3, .str (Str.ofString "u") tk4] n3) ∈ rest) (hT : TreeIn rest t v1) (hA : ToldI w k ra (r - 1) l' t tx) :
  Calls w 390 [.ref a1, .ref ra] (2 * k + 5) (8 * k + 38) (rst ra r tk e rest) (RoomPost ra l' (tx ++ Str.ofString "." ++ Str.ofString "u") rest) := by
  unfold Calls; k_fill
  intro mean mg mb dp un gd cn cs a ccd cl outer A₀ base h₀ L m st R B F X N T hk hdp hun hret
  k_dflt ktr_enter
  k_steps
  exact hret _ _ _ _ (by k_asm) (by first | k_asm | exact dropA1 (by k_asm) | exact dropA2 (by k_asm) | exact dropA3 (by k_asm) | exact dropA4 (by k_asm) | exact dropA5 (by k_asm) | exact dropA6 (by k_asm) | exact dropA7 (by k_asm) | exact dropA8 (by k_asm) | exact dropA9 (by k_asm) | exact news_tl (by k_asm) | exact news_tl (news_tl (by k_asm)) | exact news_tl (news_tl (news_tl (by k_asm)))) ⟨_, _, _, rfl, rfl⟩
theorem told_call (w : World) (ra : Addr) (rest : List (Addr × Obj)) (hall : ∀ p ∈ rest, p.1 ≠ ra) (a1 p1 : Addr) (tk1 tk2 n1 n2 : Nat) (hm : (a1, tupOf [.str (Str.ofString "expr") tk1, .str (Str.ofString "call") tk2, .ref p1] n1) ∈ rest) (r : Int) (tk e k : Nat) (hr : 0 < r) (vc : Value) (vs : List Value) (t : T) (qs : List T) (l1 l2 : Int) (t1 tx : Str) (ht1 : t1.length ≤ 400000) (htx : tx.length ≤ 400000) (hz : vs.length ≤ 10) (hp : (p1, tupOf (vc :: vs) n2) ∈ rest) (hT : TreeIn rest t vc) (hF : ForestIn rest qs vs) (hA : ToldI w k ra (r - 1) l1 t t1) (hR : RowI w k ra l1 l2 qs tx) :
  Calls w 390 [.ref a1, .ref ra] (2 * k + 5) (8 * k + 38) (rst ra r tk e rest) (RoomPost ra l2 (t1 ++ Str.ofString "(" ++ tx ++ Str.ofString ")") rest) := by
  unfold Calls; k_fill
  intro mean mg mb dp un gd cn cs a ccd cl outer A₀ base h₀ L m st R B F X N T hk hdp hun hret
  k_dflt ktr_enter
  k_steps
  have i1 : Txt.item (Str.ofString "()") 0 = Str.ofString "(" := by decide
  have i2 : Txt.item (Str.ofString "()") 1 = Str.ofString ")" := by decide
  exact hret _ _ _ _ (by k_asm) (by first | k_asm | exact dropA1 (by k_asm) | exact dropA2 (by k_asm) | exact dropA3 (by k_asm) | exact dropA4 (by k_asm) | exact dropA5 (by k_asm) | exact dropA6 (by k_asm) | exact dropA7 (by k_asm) | exact dropA8 (by k_asm) | exact dropA9 (by k_asm) | exact news_tl (by k_asm) | exact news_tl (news_tl (by k_asm)) | exact news_tl (news_tl (news_tl (by k_asm)))) ⟨_, _, _, rfl, by rw [i1, i2]⟩
theorem told_ref (w : World) (ra : Addr) (rest : List (Addr × Obj)) (hall : ∀ p ∈ rest, p.1 ≠ ra) (a1 p1 : Addr) (tk1 tk2 n1 n2 : Nat) (hm : (a1, tupOf [.str (Str.ofString "expr") tk1, .str (Str.ofString "ref") tk2, .ref p1] n1) ∈ rest) (r : Int) (tk e k : Nat) (hr : 0 < r) (vc : Value) (vs : List Value) (t : T) (qs : List T) (l1 l2 : Int) (t1 tx : Str) (ht1 : t1.length ≤ 400000) (htx : tx.length ≤ 400000) (hz : vs.length ≤ 10) (hp : (p1, tupOf (vc :: vs) n2) ∈ rest) (hT : TreeIn rest t vc) (hF : ForestIn rest qs vs) (hA : ToldI w k ra (r - 1) l1 t t1) (hR : RowI w k ra l1 l2 qs tx) :
  Calls w 390 [.ref a1, .ref ra] (2 * k + 5) (8 * k + 38) (rst ra r tk e rest) (RoomPost ra l2 (t1 ++ Str.ofString "[" ++ tx ++ Str.ofString "]") rest) := by
  unfold Calls; k_fill
  intro mean mg mb dp un gd cn cs a ccd cl outer A₀ base h₀ L m st R B F X N T hk hdp hun hret
  k_dflt ktr_enter
  k_steps
  have i1 : Txt.item (Str.ofString "[]") 0 = Str.ofString "[" := by decide
  have i2 : Txt.item (Str.ofString "[]") 1 = Str.ofString "]" := by decide
  exact hret _ _ _ _ (by k_asm) (by first | k_asm | exact dropA1 (by k_asm) | exact dropA2 (by k_asm) | exact dropA3 (by k_asm) | exact dropA4 (by k_asm) | exact dropA5 (by k_asm) | exact dropA6 (by k_asm) | exact dropA7 (by k_asm) | exact dropA8 (by k_asm) | exact dropA9 (by k_asm) | exact news_tl (by k_asm) | exact news_tl (news_tl (by k_asm)) | exact news_tl (news_tl (news_tl (by k_asm)))) ⟨_, _, _, rfl, by rw [i1, i2]⟩
theorem told_tup (w : World) (ra : Addr) (rest : List (Addr × Obj)) (hall : ∀ p ∈ rest, p.1 ≠ ra) (a1 p1 : Addr) (tk1 tk2 n1 n2 : Nat) (hm : (a1, tupOf [.str (Str.ofString "expr") tk1, .str (Str.ofString "tuple") tk2, .ref p1] n1) ∈ rest) (r : Int) (tk e k : Nat) (hr : 0 < r) (vs : List Value) (qs : List T) (l1 : Int) (tx : Str) (htx : tx.length ≤ 400000) (hz : vs.length ≤ 10) (hp : (p1, tupOf vs n2) ∈ rest) (hF : ForestIn rest qs vs) (hR : RowI w k ra (r - 1) l1 qs tx) :
  Calls w 390 [.ref a1, .ref ra] (2 * k + 5) (8 * k + 38) (rst ra r tk e rest) (RoomPost ra l1 (Str.ofString "(" ++ tx ++ (if vs.length = 1 then Str.ofString "," else Str.ofString "") ++ Str.ofString ")") rest) := by
  unfold Calls; k_fill
  intro mean mg mb dp un gd cn cs a ccd cl outer A₀ base h₀ L m st R B F X N T hk hdp hun hret
  k_dflt ktr_enter
  k_steps
  all_goals first | exact hret _ _ _ _ (by k_asm) (by first | k_asm | exact dropA1 (by k_asm) | exact dropA2 (by k_asm) | exact dropA3 (by k_asm) | exact dropA4 (by k_asm) | exact dropA5 (by k_asm) | exact dropA6 (by k_asm) | exact dropA7 (by k_asm) | exact dropA8 (by k_asm) | exact dropA9 (by k_asm) | exact news_tl (by k_asm) | exact news_tl (news_tl (by k_asm)) | exact news_tl (news_tl (news_tl (by k_asm)))) ⟨_, _, _, rfl, by rw [if_pos (by omega)]⟩ | exact hret _ _ _ _ (by k_asm) (by first | k_asm | exact dropA1 (by k_asm) | exact dropA2 (by k_asm) | exact dropA3 (by k_asm) | exact dropA4 (by k_asm) | exact dropA5 (by k_asm) | exact dropA6 (by k_asm) | exact dropA7 (by k_asm) | exact dropA8 (by k_asm) | exact dropA9 (by k_asm) | exact news_tl (by k_asm) | exact news_tl (news_tl (by k_asm)) | exact news_tl (news_tl (news_tl (by k_asm)))) ⟨_, _, _, rfl, by rw [if_neg (by omega)]⟩
theorem told_vec (w : World) (ra : Addr) (rest : List (Addr × Obj)) (hall : ∀ p ∈ rest, p.1 ≠ ra) (a1 p1 : Addr) (tk1 tk2 n1 n2 : Nat) (hm : (a1, tupOf [.str (Str.ofString "expr") tk1, .str (Str.ofString "vect") tk2, .ref p1] n1) ∈ rest) (r : Int) (tk e k : Nat) (hr : 0 < r) (vs : List Value) (qs : List T) (l1 : Int) (tx : Str) (htx : tx.length ≤ 400000) (hz : vs.length ≤ 10) (hp : (p1, tupOf vs n2) ∈ rest) (hF : ForestIn rest qs vs) (hR : RowI w k ra (r - 1) l1 qs tx) :
  Calls w 390 [.ref a1, .ref ra] (2 * k + 5) (8 * k + 38) (rst ra r tk e rest) (RoomPost ra l1 (Str.ofString "[" ++ tx ++ Str.ofString "]") rest) := by
  unfold Calls; k_fill
  intro mean mg mb dp un gd cn cs a ccd cl outer A₀ base h₀ L m st R B F X N T hk hdp hun hret
  k_dflt ktr_enter
  k_steps
  exact hret _ _ _ _ (by k_asm) (by first | k_asm | exact dropA1 (by k_asm) | exact dropA2 (by k_asm) | exact dropA3 (by k_asm) | exact dropA4 (by k_asm) | exact dropA5 (by k_asm) | exact dropA6 (by k_asm) | exact dropA7 (by k_asm) | exact dropA8 (by k_asm) | exact dropA9 (by k_asm) | exact news_tl (by k_asm) | exact news_tl (news_tl (by k_asm)) | exact news_tl (news_tl (news_tl (by k_asm)))) ⟨_, _, _, rfl, rfl⟩
def ToldSpec (w : World) (t : T) : Prop := ∀ (k : Nat) (ra : Addr) (rest : List (Addr × Obj)) (v : Value) (r tk e : Nat), TreeIn rest t v → WF t → height t ≤ k → r ≤ 10000 → (∀ p ∈ rest, p.1 ≠ ra) →
  Calls w 390 [v, .ref ra] (2 * k + 3) (8 * k + 30) (rst ra (r : Int) tk e rest) (RoomPost ra ((txt t k r).2 : Nat) (txt t k r).1 rest)
theorem row_ (w : World) (ps : List T) (hA : ∀ t ∈ ps, ToldSpec w t) (hW : WFs ps) (hlen : ps.length ≤ 4) (k : Nat) (hk8 : heights ps ≤ k) (ra : Addr) (l : Nat) (hl : l ≤ 10000) :
    RowI w k ra (l : Int) ((txts ps k l).2 : Nat) ps (commas (txts ps k l).1) := by
  intro rest p n vs tk e hp hF hall
  unfold Calls; k_fill
  intro mean mg mb dp un gd cn cs a ccd cl outer A₀ base h₀ L m st R B F X N T hk hdp hun hret
  k_dflt (refine' code_defC ?k1 ?k2 ?k3 ?k4 ?k5 ?kA ?kF ?kK ?k6 ?k7 ?k8 ?k9 ?kB ?kD ?_ ?c2 ?c3 ?c4; (case kA => exact rfl); (case kF => exact rfl); (case kK => assumption); (case k1 => k_asm); (case k2 => k_asm); (case k3 => k_asm); (case k4 => k_asm); (case k5 => k_asm); (case k6 => k_is); (case k7 => k_is); (case k8 => ktr_room); (case k9 => exact BindsTo.of_eq rfl); (case kB => exact rfl); (case kD => decide +kernel); (case c2 => exact rfl); (case c3 => exact rfl); (case c4 => exact rfl); k_whole; intro g' L' h' tk' cells' FG' F' N' Y' B' X' T' l1; (try k_lt l1); (have hY := CellsAre.one Y'); (obtain ⟨oc, hE, dc⟩ := hY); subst hE; (try simp only [List.cons_append, List.nil_append] at N'); (try dsimp only); (try k_fold))
  k_steps
  (try dsimp only)
  refine comp_tup rfl F' N' (.tail _ (.tail _ hp)) (by rw [ForestIn.length hF]; omega) (fun i ys nx => ∃ tk e, nx = (L' + 1, oc) :: rst ra ((txts (ps.take i) k l).2 : Nat) tk e rest ∧ StrsAre ys (txts (ps.take i) k l).1) ⟨_, _, rfl, .nil⟩ ?_ ?_ ?_
  · rintro i ys nx ⟨_, _, rfl, _⟩; exact .tail _ (.tail _ hp)
  · rintro i v ys nx own C h tk1 E' hi ⟨u1, u2, rfl, hys⟩ off F2 N2 ⟨mC, hnC, hmC⟩
    obtain ⟨t, hti, hTi⟩ := ForestIn.get hF hi
    have hWt := WFs.get hW hti
    have ht8 : height t ≤ k := Nat.le_trans (heights_get (List.mem_of_getElem? hti)) hk8
    have hl3 : (txts (ps.take i) k l).2 ≤ 10000 := Nat.le_trans (txts_le _ _ _) hl
    have hI : ToldI w k ra ((txts (ps.take i) k l).2 : Nat) ((txt t k (txts (ps.take i) k l).2).2 : Nat) t (txt t k (txts (ps.take i) k l).2).1 := fun rest v tk e hT ha => hA t (List.mem_of_getElem? hti) k ra rest v _ tk e hT hWt ht8 hl3 ha
    have hT3 : TreeIn ((L' + 1, oc) :: (rest ++ own)) t v := TreeIn.mono (fun p hp => .tail _ (List.mem_append.mpr (.inl hp))) _ _ hTi
    have hall3 : ∀ p ∈ (L' + 1, oc) :: (rest ++ own), p.1 ≠ ra := by
      intro p hp
      rcases List.mem_cons.mp hp with rfl | hp
      · exact neN (by omega)
      · rcases List.mem_append.mp hp with hp | hp
        · exact hall p hp
        · exact Ne.symm (off _ (.tail _ (.head _)) p hp)
    have N3 : News g' L' h (rst ra ((txts (ps.take i) k l).2 : Nat) u1 u2 ((L' + 1, oc) :: (rest ++ own))) := rotA1 N2
    have hsn : txts (ps.take (i + 1)) k l = ((txts (ps.take i) k l).1 ++ [(txt t k (txts (ps.take i) k l).2).1], (txt t k (txts (ps.take i) k l).2).2) := by
      rw [List.take_add_one, hti]; exact txts_snoc _ _ _ _
    k_steps
    refine ⟨_, _, (L' + 1, oc) :: rst ra ((txt t k (txts (ps.take i) k l).2).2 : Nat) _ _ rest, rfl, by k_asm, unrotA1 (by k_asm), ?_, ⟨_, _, by rw [hsn], by rw [hsn]; exact StrsAre.snoc hys _ _⟩⟩
    intro p hp q hq
    simp only [List.mem_cons] at hp
    rcases hp with rfl | rfl | hp
    · exact off _ (.head _) q hq
    · exact off _ (.tail _ (.head _)) q hq
    · exact off _ (.tail _ (.tail _ hp)) q hq
  · rintro ys nx D e1 h tk1 ⟨u1, u2, rfl, hys⟩ F2 N2 off
    rw [ForestIn.length hF, List.take_of_length_le (Nat.le_refl _)] at N2 hys
    have hjs := join_small (k := k) hW hlen hl
    k_steps
    exact hret _ _ _ _ (by k_asm) (news_tl (news_tl (by k_asm))) ⟨_, _, _, rfl, rfl⟩
theorem told_build (w : World) (t : T)
    (hb : ∀ (k : Nat) (ra : Addr) (rest : List (Addr × Obj)) (v : Value) (r tk e : Nat), TreeIn rest t v → WF t → height t ≤ k → r ≤ 10000 → (∀ p ∈ rest, p.1 ≠ ra) → 0 < r → 0 < k →
      Calls w 390 [v, .ref ra] (2 * k + 3) (8 * k + 30) (rst ra (r : Int) tk e rest) (RoomPost ra ((txt t k r).2 : Nat) (txt t k r).1 rest)) : ToldSpec w t := by
  intro k ra rest v r tk e hT hW hk hr hall
  by_cases h0 : r = 0
  · subst h0
    rw [txt_dots t k 0 (.inl rfl)]
    exact (told_dots w ra rest hall v tk e).mono (by omega) (by omega)
  · exact hb k ra rest v r tk e hT hW hk hr hall (by omega) (by have := height_pos t; omega)
theorem nat_pred {r : Nat} (h : 0 < r) : ((r - 1 : Nat) : Int) = (r : Int) - 1 := by omega
theorem told_sym_ (w : World) (y : Str) : ToldSpec w (.sym y) := by
  refine told_build w _ fun k ra rest v r tk e hT hW hk hr hall h0 hk0 => ?_
  rw [TreeIn] at hT
  obtain ⟨a, tk1, tk2, n, rfl, hm⟩ := hT
  rw [txt, if_neg (by omega)]
  simp only [nat_pred h0]
  exact (told_sym w ra rest hall a y tk1 tk2 n hm r tk e (by omega)).mono (by omega) (by omega)
theorem told_int_ (w : World) (i : Int) : ToldSpec w (.int i) := by
  refine told_build w _ fun k ra rest v r tk e hT hW hk hr hall h0 hk0 => ?_
  rw [TreeIn] at hT
  obtain ⟨a, tk1, tk2, n, rfl, hm⟩ := hT
  rw [WF] at hW
  rw [txt, if_neg (by omega)]
  simp only [nat_pred h0]
  exact (told_int w ra rest hall a i hW.1 hW.2 tk1 tk2 n hm r tk e (by omega)).mono (by omega) (by omega)
theorem ToldSpec.at {w : World} {t : T} (h : ToldSpec w t) {k : Nat} {ra : Addr} {r : Nat} (hW : WF t) (hk : height t ≤ k) (hr : r ≤ 10000) : ToldI w k ra (r : Int) ((txt t k r).2 : Nat) t (txt t k r).1 :=
  fun rest v tk e hT ha => h k ra rest v r tk e hT hW hk hr ha
theorem told_dot_ (w : World) (t : T) (hA : ToldSpec w t) : ToldSpec w (.dot t) := by
  refine told_build w _ fun k ra rest v r tk e hT hW hk hr hall h0 hk0 => ?_
  rw [TreeIn] at hT
  obtain ⟨a, tk1, tk2, n, p, n2, v1, b, tk3, tk4, n3, rfl, hm, hp, hb1, hT⟩ := hT
  rw [WF] at hW
  rw [height] at hk
  rw [txt, if_neg (by omega)]
  refine (told_dot w ra rest hall a p tk1 tk2 n n2 hm r tk e (k - 1) (by omega) v1 b tk3 tk4 n3 t _ _ (txt_small (k := k - 1) (l := r - 1) hW (by omega)) hp hb1 hT ?_).mono (by omega) (by omega)
  rw [← nat_pred h0]
  exact hA.at hW (by omega) (by omega)
theorem told_node_ (w : World) (h : Hd) (ps : List T) (hA : ∀ t ∈ ps, ToldSpec w t) : ToldSpec w (.node h ps) := by
  refine told_build w _ fun k ra rest v r tk e hT hW hk hr hall h0 hk0 => ?_
  rw [TreeIn] at hT
  obtain ⟨a, tk1, tk2, n, p, n2, vs, rfl, hm, hp, hF⟩ := hT
  rw [WF] at hW
  obtain ⟨hlen, hh, hWs⟩ := hW
  rw [height] at hk
  have hvl := hF.length
  have hk1 : heights ps ≤ k - 1 := by omega
  rw [txt, if_neg (by omega)]
  cases h with
  | call =>
    obtain ⟨qs, rfl⟩ := hh
    rw [WFs] at hWs
    rw [ForestIn] at hF
    obtain ⟨vc, vs', rfl, hTc, hF⟩ := hF
    rw [heights] at hk1
    simp only [List.length_cons] at hlen hvl
    have e1 := txt_le (.sym (Str.ofString "f")) (k - 1) (r - 1)
    rw [txts]
    refine (told_call w ra rest hall a p tk1 tk2 n n2 hm r tk e (k - 1) (by omega) vc vs' _ qs ((txt (.sym (Str.ofString "f")) (k - 1) (r - 1)).2 : Nat) _ _ _ (txt_small (k := k - 1) (l := r - 1) hWs.1 (by omega)) (commas_small (ps := qs) (k := k - 1) (l := (txt (.sym (Str.ofString "f")) (k - 1) (r - 1)).2) hWs.2 (by omega) (by omega)) (by omega) hp hTc hF ?_ ?_).mono (by omega) (by omega)
    · rw [← nat_pred h0]
      exact (hA _ (.head _)).at hWs.1 (by omega) (by omega)
    · exact row_ w qs (fun t ht => hA t (.tail _ ht)) hWs.2 (by omega) (k - 1) (by omega) ra _ (by omega)
  | ref =>
    obtain ⟨qs, rfl⟩ := hh
    rw [WFs] at hWs
    rw [ForestIn] at hF
    obtain ⟨vc, vs', rfl, hTc, hF⟩ := hF
    rw [heights] at hk1
    simp only [List.length_cons] at hlen hvl
    have e1 := txt_le (.sym (Str.ofString "v")) (k - 1) (r - 1)
    rw [txts]
    refine (told_ref w ra rest hall a p tk1 tk2 n n2 hm r tk e (k - 1) (by omega) vc vs' _ qs ((txt (.sym (Str.ofString "v")) (k - 1) (r - 1)).2 : Nat) _ _ _ (txt_small (k := k - 1) (l := r - 1) hWs.1 (by omega)) (commas_small (ps := qs) (k := k - 1) (l := (txt (.sym (Str.ofString "v")) (k - 1) (r - 1)).2) hWs.2 (by omega) (by omega)) (by omega) hp hTc hF ?_ ?_).mono (by omega) (by omega)
    · rw [← nat_pred h0]
      exact (hA _ (.head _)).at hWs.1 (by omega) (by omega)
    · exact row_ w qs (fun t ht => hA t (.tail _ ht)) hWs.2 (by omega) (k - 1) (by omega) ra _ (by omega)
  | tup =>
    have eg : glue .tup (txts ps (k - 1) (r - 1)).1 = Str.ofString "(" ++ commas (txts ps (k - 1) (r - 1)).1 ++ (if vs.length = 1 then Str.ofString "," else Str.ofString "") ++ Str.ofString ")" := by
      rw [hvl, ← txts_length (k - 1) ps (r - 1)]; rfl
    rw [eg]
    refine (told_tup w ra rest hall a p tk1 tk2 n n2 hm r tk e (k - 1) (by omega) vs ps _ _ (commas_small (ps := ps) (k := k - 1) (l := r - 1) hWs (by omega) (by omega)) (by omega) hp hF ?_).mono (by omega) (by omega)
    rw [← nat_pred h0]
    exact row_ w ps hA hWs (by omega) (k - 1) (by omega) ra _ (by omega)
  | vec =>
    refine (told_vec w ra rest hall a p tk1 tk2 n n2 hm r tk e (k - 1) (by omega) vs ps _ _ (commas_small (ps := ps) (k := k - 1) (l := r - 1) hWs (by omega) (by omega)) (by omega) hp hF ?_).mono (by omega) (by omega)
    rw [← nat_pred h0]
    exact row_ w ps hA hWs (by omega) (k - 1) (by omega) ra _ (by omega)
mutual
theorem told_all (w : World) : ∀ t : T, ToldSpec w t
  | .sym y => told_sym_ w y
  | .int i => told_int_ w i
  | .dot t => told_dot_ w t (told_all w t)
  | .node h ps => told_node_ w h ps (told_alls w ps)
theorem told_alls (w : World) : ∀ ps : List T, ∀ t ∈ ps, ToldSpec w t
  | [], _, h => nomatch h
  | p :: ps, t, h => (List.mem_cons.mp h).elim (fun e => e ▸ told_all w p) (fun h => told_alls w ps t h)
end
theorem words33 : True := by
  k_with_none
  trivial
section
variable {prog : Program} {w : World} {A : Around} {E : Value → Shared → Prop} {s : Shared} {h₀ : Heap} {L : Addr} {m : Str → Option Value} {news : List (Addr × Obj)}
theorem sliceApplied_one {sl : Addr} {u : Tok} {Q : Int × Int × Nat → Shared → Prop} (hs : s.heap.IsSliceOf sl .none (.int 1 u) .none) (h : Q ((0 : Int), 1, 1) s) :
    wpAny (model prog w) A (Builtin.Slice.sliceApplied (.ref sl) (pure ((2 : Nat) : Int))) Q E s := by
  obtain ⟨os, hos, hcs, hds⟩ := id hs
  unfold Builtin.Slice.sliceApplied Builtin.Slice.sliceFields
  refine wpAny_bind (wpAny_bind (wpAny_field hos hds (x := .none) rfl (wpAny_bind (wpAny_field hos hds (x := .int 1 u) rfl (wpAny_bind (wpAny_field hos hds (x := .none) rfl (wpAny_pure ?_)))))))
  refine wpAny_bind (slicePart_none ?_)
  show wpAny _ _ (if ((1 : Int) == 0) = true then _ else _) _ _ s
  rw [if_neg (by decide)]
  refine wpAny_bind (slicePart_none (wpAny_bind (slicePart_int (wpAny_bind (wpAny_pure ?_)))))
  exact wpAny_pure h
theorem getItem_one {t sl : Addr} {v1 v2 : Value} {u : Tok} {Q : Value → Shared → Prop} (ht : IsTup s.heap t (List.toArray [v1, v2])) (hs : s.heap.IsSliceOf sl .none (.int 1 u) .none)
    (h : Q (.ref s.heap.objs.size) { s with heap := s.heap.push { cls := .type "tuple", data := .seq (List.toArray [v1]) } }) : wpAny (model prog w) A (getItem (.ref t) (.ref sl)) Q E s := by
  have hdrop : sizeOk (.seq (List.toArray [v1])) := by
    show (List.toArray [v1]).size ≤ sizeLine
    rw [sizeLine_eq]; simp
  obtain ⟨os, hos, hcs, hds⟩ := id hs
  have hTs : s.TypeIs (.ref sl) "slice" := ⟨os, hos, hcs⟩
  unfold getItem
  try with_reducible refine wpAny_holding ?_
  first | refine wpAny_bind (wpAny_pure ?_) | skip
  refine wpAny_bind (wpAny_sequenceKey ht.typeIs (by decide) ?_)
  refine wpAny_bind (wpAny_callSpecial?_slot (name := Str.ofString "__getitem__") ht.typeIs slot_tuple_getitem
    (wpAny_call_entry slot_tuple_getitem ht.typeIs entry_tuple_getitem ?_ (args_tuple_getitem _ _)))
  show wpAny _ _ (Builtin.Tuple.tupleItemsOf (.ref t) >>= _) _ _ s
  refine wpAny_bind (tupleItemsOf_ ht ?_)
  refine wpAny_bind (wpAny_typeOf hTs ?_)
  rw [if_pos (by decide)]
  refine wpAny_bind (sliceApplied_one hs ?_)
  show wpAny _ _ (if ((0 : Int) == 0 && (1 : Int) == 1 && (1 : Nat) == 2) = true then _ else _) _ _ s
  rw [if_neg (by decide)]
  first
    | exact wpAny_bind (m := Builtin.Tuple.tupleExact _) (wpAny_newObj_type (wpAny_pure ⟨_, rfl, wpAny_pure h⟩) hdrop)
    | exact wpAny_bind (m := Builtin.Tuple.tupleExact _) (wpAny_newObj_type (wpAny_bind (wpAny_pure (wpAny_pure ⟨_, rfl, wpAny_pure h⟩))) hdrop)
    | exact wpAny_bind (wpAny_bind (m := Builtin.Tuple.tupleExact _) (wpAny_newObj_type (wpAny_pure (wpAny_pure ⟨_, rfl, wpAny_pure h⟩)) hdrop))
    | exact wpAny_bind (wpAny_bind (m := Builtin.Tuple.tupleExact _) (wpAny_newObj_type (wpAny_pure ⟨_, rfl, wpAny_pure h⟩) hdrop))
theorem slice_one {value slice : Expr} {t : Addr} {v1 v2 : Value} {n u : Nat} {Q : Value → Shared → Prop}
    (F : Fr h₀ L s.heap m) (N : News h₀ L s.heap news) (hm : (t, tupOf [v1, v2] n) ∈ news)
    (h : ∀ q h', Fr h₀ L h' m → News h₀ L h' ((q, tupOf [v1] 0) :: news) → (∀ p ∈ news, @LT.lt Nat _ p.1 q) → Q (.ref q) { s with heap := h' })
    (hs : subscripted slice false (.ref t) (.ref s.heap.objs.size) = operate [.ref s.heap.objs.size, .ref t] (getItem (.ref t) (.ref s.heap.objs.size)) := by with_unfolding_all rfl)
    (hg : ∀ r, letTemporaryGo value (.ref t) r = pure () := by intro _; with_unfolding_all rfl) :
    wpAny (model prog w) A (subscriptTail value slice (.ref t) (.ref s.heap.objs.size)) Q E { s with heap := s.heap.push { cls := .type "slice", data := .fields #[.none, .int 1 u, .none] } } := by
  have ht : IsTup s.heap t (List.toArray [v1, v2]) := N.isTup hm
  have ht' : IsTup (s.heap.push { cls := .type "slice", data := .fields #[.none, .int 1 u, .none] }) t (List.toArray [v1, v2]) := ht.keeps fun _ _ e => Heap.get?_push_of_some _ e
  refine subscriptTail_ops (s := { s with heap := s.heap.push { cls := .type "slice", data := .fields #[.none, .int 1 u, .none] } }) ht'.typeIs slot_tuple_getitem.lookup
    (getItem_one ht' (Heap.IsSliceOf.new ..) ?_) hs hg
  have N1 := News.push (F.push { cls := .type "slice", data := .fields #[.none, .int 1 u, .none] }) (N.grown fun _ _ e => Heap.get?_push_of_some _ e) { cls := .type "tuple", data := .seq (List.toArray [v1]) }
  rw [Heap.size_push] at N1
  show Q (.ref (s.heap.push _).objs.size) _
  rw [Heap.size_push]
  exact h _ _ ((F.push _).push _) N1 fun p hp => Nat.lt_succ_of_lt (Heap.lt_size (N p hp).1)
end
theorem comp_same0 {prog : Program} {w : World} {A : Around} {E : Value → Shared → Prop} {s : Shared} {env : Env} {elt : Expr} {x : Str} {scope : Scope} {cl : List (Str × Addr)} {Q : Value → Shared → Prop} {h₀ : Heap} {L : Addr} {m : Str → Option Value} {nx₀ : List (Addr × Obj)} {t : Addr} {vs : List Value} {e0 : Nat}
    (hh : A.handled = none) (F : Fr h₀ L s.heap m) (N : News h₀ L s.heap nx₀) (hT : (t, tupOf vs e0) ∈ nx₀) (hz : vs.length ≤ 1000) (P : Nat → List Value → Prop) (hP : P 0 [])
    (turn : ∀ i v ys own C h tk E', vs[i]? = some v → P i ys → Fr h₀ L h m → News h₀ L h (nx₀ ++ own) → (∃ mC, h.Ns C mC ∧ mC x = some v) →
      wpAny (model prog w) A (eval elt (compEnvC scope cl C env)) (fun y s₄ => CSame h₀ L m s (nx₀ ++ own) (P (i + 1) (ys ++ [y])) s₄) E' { s with heap := h, toks := tk })
    (done : ∀ ys D e h tk, P vs.length ys → Fr h₀ L h m → News h₀ L h ((D, listOf ys.toArray e) :: nx₀) → (∀ p ∈ nx₀, p.1 ≠ D) → Q (.ref D) { s with heap := h, toks := tk }) :
    wpAny (model prog w) A (pyIter (.ref t)) (fun it s₂ => CSrc prog w A env scope cl x [] elt Q it s₂) E s :=
  comp_same hh F N hT hz P hP (fun i v ys own C h tk E' hi j F' N' hC => wpAny_pure (by simpa using turn i v ys own C h tk E' hi j F' N' hC)) done
theorem IntsAre.snoc {vs : List Value} {ys : List Int} (h : IntsAre vs ys) (y : Int) (t : Nat) : IntsAre (vs ++ [.int y t]) (ys ++ [y]) := by
  induction h with
  | nil => exact .cons _ _ .nil
  | cons z u _ ih => exact .cons z u ih
theorem words34 : True := by
  k_with "eval Call" => (k_here; (with_reducible show wpAny _ _ (eval (Expr.Call (Expr.Name _ _) _ _ _) _) _ _ _); k_dflt (refine Call_ ?_))
  k_with "compareOp In str ref" => (k_here; k_dflt (first
    | (refine' in_top ?F ?X ?l ?k ?e ?_; (case F => k_asm); (case X => k_asm); (case l => k_is); (case k => (repeat constructor)); (case e => first | decide | exact plain_any (by assumption) _ (by decide)); k_whole)
    | (refine' in_topT ?F ?X ?l ?k ?e ?_; (case F => k_asm); (case X => k_asm); (case l => k_is); (case k => (repeat constructor)); (case e => decide); k_whole)))
  k_with "call ref" => (k_here; (with_reducible show wpAny _ _ (call (Value.ref 21) _) _ _ _); k_dflt (first
    | (refine' Calls.use (is_expr_two _ _ _ _ _ _ _ _ _ ?m2 ?m1) ?k1 ?k2 ?k3 ?k4 ?k5 ?kK ?kd ?ku ?_; (case k1 => k_asm); (case k2 => k_asm); (case k3 => k_asm); (case k4 => k_asm); (case m1 => k_mem); (case m2 => decide); (case k5 => k_asm); (case kK => first | exact rfl | assumption); (case kd => ktr_room); (case ku => ktr_units); intro r9 n9 h9 t9 F9 N9 ho9; (obtain ⟨e1, e2⟩ := ho9; subst e1; subst e2); (try k_sweep))
    | (refine' Calls.use (is_expr_ne _ _ _ _ _ _ _ _ _ _ ?m2 ?m1) ?k1 ?k2 ?k3 ?k4 ?k5 ?kK ?kd ?ku ?_; (case k1 => k_asm); (case k2 => k_asm); (case k3 => k_asm); (case k4 => k_asm); (case m1 => k_mem); (case m2 => first | assumption | decide); (case k5 => k_asm); (case kK => first | exact rfl | assumption); (case kd => ktr_room); (case ku => ktr_units); intro r9 n9 h9 t9 F9 N9 ho9; (obtain ⟨e1, e2⟩ := ho9; subst e1; subst e2); (try k_sweep))
    | (refine' Calls.use (is_expr_expr _ _ _ _ _ _ _ _ _ _ ?m1) ?k1 ?k2 ?k3 ?k4 ?k5 ?kK ?kd ?ku ?_; (case k1 => k_asm); (case k2 => k_asm); (case k3 => k_asm); (case k4 => k_asm); (case m1 => k_mem); (case k5 => k_asm); (case kK => first | exact rfl | assumption); (case kd => ktr_room); (case ku => ktr_units); intro r9 n9 h9 t9 F9 N9 ho9; (obtain ⟨e1, e2⟩ := ho9; subst e1; subst e2); (try k_sweep))))
  k_with "call ref" => (k_here; (with_reducible show wpAny _ _ (call (Value.ref 28) _) _ _ _); k_dflt (first
    | (refine' Calls.use (parts_of_expr _ _ _ _ _ _ _ _ ?m1) ?k1 ?k2 ?k3 ?k4 ?k5 ?kK ?kd ?ku ?_; (case k1 => k_asm); (case k2 => k_asm); (case k3 => k_asm); (case k4 => k_asm); (case m1 => k_mem); (case k5 => k_asm); (case kK => first | exact rfl | assumption); (case kd => ktr_room); (case ku => ktr_units); intro r9 n9 h9 t9 F9 N9 ho9; (obtain ⟨e1, e2⟩ := ho9; subst e1; subst e2); (try k_sweep))))
  k_with "call ref" => (k_here; (with_reducible show wpAny _ _ (call (Value.ref 35) _) _ _ _); k_dflt (first
    | (refine' Calls.use (is_sym_ _ _ _ _ _ _ _ ?m1) ?k1 ?k2 ?k3 ?k4 ?k5 ?kK ?kd ?ku ?_; (case k1 => k_asm); (case k2 => k_asm); (case k3 => k_asm); (case k4 => k_asm); (case m1 => k_mem); (case k5 => k_asm); (case kK => first | exact rfl | assumption); (case kd => ktr_room); (case ku => ktr_units); intro r9 n9 h9 t9 F9 N9 ho9; (obtain ⟨e1, e2⟩ := ho9; subst e1; subst e2); (try k_sweep))))
  k_with "call ref" => (k_here; (with_reducible show wpAny _ _ (call (Value.ref 21) _) _ _ _); k_dflt (first
    | (refine' Calls.use (is_expr_two _ _ _ _ _ _ _ _ _ ?m2 ?m1) ?k1 ?k2 ?k3 ?k4 ?k5 ?kK ?kd ?ku ?_; (case k1 => k_asm); (case k2 => k_asm); (case k3 => k_asm); (case k4 => k_asm); (case m1 => k_mem); (case m2 => decide); (case k5 => k_asm); (case kK => first | exact rfl | assumption); (case kd => ktr_room); (case ku => ktr_units); intro r9 n9 h9 t9 F9 N9 ho9; (obtain ⟨e1, e2⟩ := ho9; subst e1; subst e2); (try k_sweep))
    | (refine' Calls.use (is_expr_ne _ _ _ _ _ _ _ _ _ _ ?m2 ?m1) ?k1 ?k2 ?k3 ?k4 ?k5 ?kK ?kd ?ku ?_; (case k1 => k_asm); (case k2 => k_asm); (case k3 => k_asm); (case k4 => k_asm); (case m1 => k_mem); (case m2 => first | assumption | decide); (case k5 => k_asm); (case kK => first | exact rfl | assumption); (case kd => ktr_room); (case ku => ktr_units); intro r9 n9 h9 t9 F9 N9 ho9; (obtain ⟨e1, e2⟩ := ho9; subst e1; subst e2); (try k_sweep))
    | (refine' Calls.use (is_expr_expr _ _ _ _ _ _ _ _ _ _ ?m1) ?k1 ?k2 ?k3 ?k4 ?k5 ?kK ?kd ?ku ?_; (case k1 => k_asm); (case k2 => k_asm); (case k3 => k_asm); (case k4 => k_asm); (case m1 => k_mem); (case k5 => k_asm); (case kK => first | exact rfl | assumption); (case kd => ktr_room); (case ku => ktr_units); intro r9 n9 h9 t9 F9 N9 ho9; (obtain ⟨e1, e2⟩ := ho9; subst e1; subst e2); (try k_sweep))
    | (refine' Calls.use (is_expr_tree _ _ ?mt _ _ _ ?m1 ?m2) ?k1 ?k2 ?k3 ?k4 ?k5 ?kK ?kd ?ku ?_; (case k1 => k_asm); (case k2 => k_asm); (case k3 => k_asm); (case k4 => k_asm); (case m1 => (first | assumption | exact TreeIn.mono (fun _ h => .tail _ (.tail _ h)) _ _ (by assumption) | exact TreeIn.mono (fun _ h => .tail _ (.tail _ (.tail _ h))) _ _ (by assumption) | exact TreeIn.mono (fun _ h => .tail _ (.tail _ (.tail _ (.tail _ h)))) _ _ (by assumption) | exact TreeIn.mono (fun _ h => .tail _ (.tail _ (.tail _ (.tail _ (.tail _ h))))) _ _ (by assumption))); (case m2 => decide); (case k5 => k_asm); (case kK => first | exact rfl | assumption); (case kd => ktr_room); (case ku => ktr_units); intro r9 n9 h9 t9 F9 N9 ho9; (obtain ⟨e1, e2⟩ := ho9; subst e1; subst e2); (try k_sweep))))
  k_with "call ref" => (k_here; (with_reducible show wpAny _ _ (call (Value.ref 141) _) _ _ _); k_dflt (first
    | (rename AtSpec _ _ => hA9; (refine' Calls.use (hA9 _ _ _ _ _ _ _ _ _ _ _ ?m1 ?m2 ?m3 ?m4 ?m5 ?m6 ?m7) ?k1 ?k2 ?k3 ?k4 ?k5 ?kK ?kd ?ku ?_; (case k1 => k_asm); (case k2 => k_asm); (case k3 => k_asm); (case k4 => (first | k_asm | exact rot1 (by k_asm) | exact rot2 (by k_asm) | exact rot3 (by k_asm) | exact rot4 (by k_asm) | exact rot5 (by k_asm) | exact rot6 (by k_asm) | exact rot7 (by k_asm) | exact rot8 (by k_asm) | exact rot9 (by k_asm))); (case m1 => (first | assumption | exact TreeIn.mono (fun _ h => .tail _ h) _ _ (by assumption) | exact TreeIn.mono (fun _ h => .tail _ (.tail _ h)) _ _ (by assumption) | exact TreeIn.mono (fun _ h => .tail _ (.tail _ (.tail _ h))) _ _ (by assumption) | exact TreeIn.mono (fun _ h => .tail _ (.tail _ (.tail _ (.tail _ h)))) _ _ (by assumption) | exact TreeIn.mono (fun _ h => .tail _ (.tail _ (.tail _ (.tail _ (.tail _ h))))) _ _ (by assumption) | exact TreeIn.mono (fun _ h => .tail _ (.tail _ (.tail _ (.tail _ (.tail _ (.tail _ h)))))) _ _ (by assumption) | exact TreeIn.mono (fun _ h => .tail _ (.tail _ (.tail _ (.tail _ (.tail _ (.tail _ (.tail _ h))))))) _ _ (by assumption) | exact TreeIn.mono (fun _ h => .tail _ (.tail _ (.tail _ (.tail _ (.tail _ (.tail _ (.tail _ (.tail _ h)))))))) _ _ (by assumption) | exact TreeIn.mono (fun _ h => .tail _ (.tail _ (.tail _ (.tail _ (.tail _ (.tail _ (.tail _ (.tail _ (.tail _ h))))))))) _ _ (by assumption))); (case m2 => assumption); (case m3 => assumption); (case m4 => assumption); (case m5 => assumption); (case m6 => (first | assumption | exact all_cons1 (neN (by omega)) (by assumption) | exact all_cons1 (neN (by omega)) (all_cons1 (neN (by omega)) (by assumption)) | exact all_cons1 (neN (by omega)) (all_cons1 (neN (by omega)) (all_cons1 (neN (by omega)) (by assumption))) | exact all_cons1 (neN (by omega)) (all_cons1 (neN (by omega)) (all_cons1 (neN (by omega)) (all_cons1 (neN (by omega)) (by assumption)))) | exact all_cons1 (neN (by omega)) (all_cons1 (neN (by omega)) (all_cons1 (neN (by omega)) (all_cons1 (neN (by omega)) (all_cons1 (neN (by omega)) (by assumption))))) | exact all_cons1 (neN (by omega)) (all_cons1 (neN (by omega)) (all_cons1 (neN (by omega)) (all_cons1 (neN (by omega)) (all_cons1 (neN (by omega)) (all_cons1 (neN (by omega)) (by assumption)))))) | exact all_cons1 (neN (by omega)) (all_cons1 (neN (by omega)) (all_cons1 (neN (by omega)) (all_cons1 (neN (by omega)) (all_cons1 (neN (by omega)) (all_cons1 (neN (by omega)) (all_cons1 (neN (by omega)) (by assumption))))))) | exact all_cons1 (neN (by omega)) (all_cons1 (neN (by omega)) (all_cons1 (neN (by omega)) (all_cons1 (neN (by omega)) (all_cons1 (neN (by omega)) (all_cons1 (neN (by omega)) (all_cons1 (neN (by omega)) (all_cons1 (neN (by omega)) (by assumption)))))))) | exact all_cons1 (neN (by omega)) (all_cons1 (neN (by omega)) (all_cons1 (neN (by omega)) (all_cons1 (neN (by omega)) (all_cons1 (neN (by omega)) (all_cons1 (neN (by omega)) (all_cons1 (neN (by omega)) (all_cons1 (neN (by omega)) (all_cons1 (neN (by omega)) (by assumption))))))))))); (case m7 => decide); (case k5 => k_asm); (case kK => first | exact rfl | assumption); (case kd => ktr_room); (case ku => ktr_units); intro r9 n9 h9 t9 F9 N9 ho9; (obtain ⟨t19, t29, tk9, e1, e2⟩ := ho9; subst e1; subst e2); (try k_sweep)))))
  k_with "compareOp Eq ref ref" => (k_here; k_dflt (first
    | (refine' eq_tups ?N ?u ?m1 ?m2 ?_; (case N => k_asm); (case u => ktr_units); (case m1 => k_mem); (case m2 => k_mem); k_whole)
    | (refine' eq_syms ?N ?u ?m1 ?m2 ?e ?_; (case N => k_asm); (case u => ktr_units); (case m1 => k_mem); (case m2 => k_mem); (case e => first | decide | exact plain_ne (by assumption) _ (by decide)); k_whole)
    | (refine' eq_int_sym ?N ?u ?m1 ?m2 ?_; (case N => k_asm); (case u => ktr_units); (case m1 => k_mem); (case m2 => k_mem); k_whole)))
  k_with "compareOp NotEq ref ref" => (k_here; k_dflt (first
    | (refine' ne_nil0 ?N ?u ?m1 ?m2 ?_; (case N => k_asm); (case u => ktr_units); (case m1 => k_mem); (case m2 => first | exact isTuple_of (by k_asm) (by k_mem)); k_whole)
    | (refine' ne_cons ?N ?u ?m1 ?m2 ?_; (case N => k_asm); (case u => ktr_units); (case m1 => k_mem); (case m2 => first | exact isTuple_of (by k_asm) (by k_mem)); k_whole)))
  k_with "subscriptTail" => (k_here; (with_reducible show wpAny _ _ (subscriptTail _ _ (Value.ref _) (Value.ref _)) _ _ _); (with_unfolding_all refine' slice1 ?F ?N ?m1 ?z ?_ ?hs ?hg; (case F => k_asm); (case N => k_asm); (case m1 => k_mem); (case z => (first | decide | omega | (simp only [List.length_cons, List.length_nil]; omega))); (case hs => exact rfl); (case hg => intro _; exact rfl); k_whole); intro q9 h9 F9 N9 l9; (try k_lt l9); (try k_sweep))
  k_with "subscriptTail" => (k_here; (with_reducible show wpAny _ _ (subscriptTail _ _ (Value.ref _) (Value.int 0 _)) _ _ _); (with_unfolding_all refine' item_first ?N ?m ?_ ?hs; (case N => k_asm); (case m => k_mem); (case hs => exact rfl); k_whole))
  k_with "subscriptTail" => (k_here; (with_reducible show wpAny _ _ (subscriptTail _ _ (Value.ref _) (Value.int 1 _)) _ _ _); (with_unfolding_all refine' item_second ?N ?m ?_ ?hs; (case N => k_asm); (case m => k_mem); (case hs => exact rfl); k_whole))
  k_with "call builtin:len" => (k_here; (with_reducible show wpAny _ _ (call (Value.builtin "len") [Value.ref _]) _ _ _); k_dflt (refine' len_tup ?N ?m ?z ?e ?_; (case N => k_asm); (case m => k_mem); (case z => (first | decide | omega | (simp only [List.length_cons, List.length_nil]; omega))); (case e => first | (simp only [List.length_cons, List.length_nil, Nat.zero_add, Nat.reduceAdd]; exact rfl) | exact rfl); k_whole))
  k_with "eval Name" => (k_here; (with_reducible show wpAny _ _ (eval (Expr.Name _ _) (compEnvC _ _ _ _)) _ _ _); k_dflt (first
    | (refine' comp_local ?n ?v ?_ ?a ?b ?d; (case n => k_asm); (case v => first | assumption | exact rfl); (case a => exact rfl); (case b => exact rfl); (case d => decide); k_whole)
    | (refine' comp_cell ?N ?c ?m ?d ?_ ?a ?b ?e; (case N => k_asm); (case c => exact rfl); (case m => k_mem); (case d => first | assumption | exact rfl); (case a => exact rfl); (case b => exact rfl); (case e => decide); k_whole)
    | (refine' nameG_K ?F ?X ?T ?e ?_ ?g ?k ?x ?d; (case F => k_asm); (case X => k_asm); (case T => k_asm); (case e => k_is); (case g => exact rfl); (case k => exact rfl); (case x => exact rfl); (case d => decide); k_whole)))
  k_with "eval Call Attribute" => (k_here; (with_reducible show wpAny _ _ (eval (Expr.Call (Expr.Attribute _ _ _) _ _ _) _) _ _ _); k_dflt (refine MethodCall_ ?_))
  k_with "eval ListComp" => (k_here; k_dflt ((refine' comp_inv ?c1 ?c2 ?c3 ?c4 ?c5 ?_ ?c6); (case c1 => with_unfolding_all exact rfl); (case c2 => decide); (case c3 => exact rfl); (case c4 => decide); (case c5 => exact rfl); (case c6 => intro _; exact rfl); k_whole))
  k_with "call builtin:str.join" => (k_here; (with_reducible show wpAny _ _ (call (Value.builtin "str.join") [Value.str _ _, Value.ref _]) _ _ _); (with_reducible rename StrsAre _ _ => hS9); k_dflt (refine' join_mine (News.isList ?N ?m) ?i ?k ?_; (case N => k_asm); (case m => k_mem); (case i => simpa using hS9); (case k => assumption)); intro t9 k9)
  k_with "subscriptTail" => (k_here; (with_reducible show wpAny _ _ (subscriptTail _ _ (Value.ref _) (Value.ref _)) _ _ _); (with_unfolding_all refine' slice_one ?F ?N ?m1 ?_ ?hs ?hg; (case F => k_asm); (case N => k_asm); (case m1 => k_mem); (case hs => exact rfl); (case hg => intro _; exact rfl); k_whole); intro q9 h9 F9 N9 l9; (try k_lt l9); (try k_sweep))
  trivial
mutual
def count : T → Nat
  | .sym _ => 1
  | .int _ => 1
  | .dot t => count t + 1
  | .node _ ps => counts ps + 1
def counts : List T → Nat
  | [] => 0
  | t :: ps => count t + counts ps
end
theorem counts_sum : ∀ ps : List T, (ps.map fun t => ((count t : Nat) : Int)).sum = ((counts ps : Nat) : Int)
  | [] => by rw [counts]; rfl
  | t :: ps => by rw [List.map_cons, List.sum_cons, counts_sum ps, counts]; omega
def ManySpec (w : World) (t : T) : Prop := ∀ (rest : List (Addr × Obj)) (v : Value), TreeIn rest t v → WF t →
  Calls w 395 [v] (3 * height t + 2) (12 * height t + 30) rest (fun nx res => nx = rest ∧ ∃ tk, res = .int ((count t : Nat) : Int) tk)
theorem words35 : True := by
  k_with "call ref" => (k_here; (with_reducible show wpAny _ _ (call (Value.ref 395) _) _ _ _); k_dflt (first
    | (rename ManySpec _ _ => hM9; (refine' Calls.use (hM9 _ _ ?m1 ?m2) ?k1 ?k2 ?k3 ?k4 ?k5 ?kK ?kd ?ku ?_; (case k1 => k_asm); (case k2 => k_asm); (case k3 => k_asm); (case k4 => k_asm); (case m1 => (first | exact TreeIn.mono (fun _ h => List.mem_append.mpr (.inl h)) _ _ (by assumption) | exact TreeIn.mono (fun _ h => List.mem_append.mpr (.inl (.tail _ h))) _ _ (by assumption) | assumption | exact TreeIn.mono (fun _ h => .tail _ h) _ _ (by assumption) | exact TreeIn.mono (fun _ h => .tail _ (.tail _ h)) _ _ (by assumption) | exact TreeIn.mono (fun _ h => .tail _ (.tail _ (.tail _ h))) _ _ (by assumption) | exact TreeIn.mono (fun _ h => .tail _ (.tail _ (.tail _ (.tail _ h)))) _ _ (by assumption) | exact TreeIn.mono (fun _ h => .tail _ (.tail _ (.tail _ (.tail _ (.tail _ h))))) _ _ (by assumption) | exact TreeIn.mono (fun _ h => .tail _ (.tail _ (.tail _ (.tail _ (.tail _ (.tail _ h)))))) _ _ (by assumption) | exact TreeIn.mono (fun _ h => .tail _ (.tail _ (.tail _ (.tail _ (.tail _ (.tail _ (.tail _ h))))))) _ _ (by assumption) | exact TreeIn.mono (fun _ h => .tail _ (.tail _ (.tail _ (.tail _ (.tail _ (.tail _ (.tail _ (.tail _ h)))))))) _ _ (by assumption) | exact TreeIn.mono (fun _ h => .tail _ (.tail _ (.tail _ (.tail _ (.tail _ (.tail _ (.tail _ (.tail _ (.tail _ h))))))))) _ _ (by assumption))); (case m2 => assumption); (case k5 => k_asm); (case kK => first | exact rfl | assumption); (case kd => ktr_room); (case ku => ktr_units); intro r9 n9 h9 t9 F9 N9 ho9; (obtain ⟨e1, tk9, e2⟩ := ho9; subst e1; subst e2); (try k_sweep)))))
  trivial
theorem many_sym (w : World) (rest : List (Addr × Obj)) (a1 : Addr) (y : Str) (tk1 tk2 n1 : Nat) (hm : (a1, tupOf [.str (Str.ofString "sym") tk1, .str y tk2] n1) ∈ rest) :
  Calls w 395 [.ref a1] 2 20 rest (fun nx res => nx = rest ∧ ∃ tk, res = .int 1 tk) := by
  unfold Calls; k_fill
  intro mean mg mb dp un gd cn cs a ccd cl outer A₀ base h₀ L m st R B F X N T hk hdp hun hret
  k_dflt ktr_enter
  k_steps
  exact hret _ _ _ _ (by k_asm) (by k_asm) ⟨rfl, _, rfl⟩
theorem many_int (w : World) (rest : List (Addr × Obj)) (a1 : Addr) (y : Int) (tk1 tk2 n1 : Nat) (hm : (a1, tupOf [.str (Str.ofString "int") tk1, .int y tk2] n1) ∈ rest) :
  Calls w 395 [.ref a1] 2 20 rest (fun nx res => nx = rest ∧ ∃ tk, res = .int 1 tk) := by
  unfold Calls; k_fill
  intro mean mg mb dp un gd cn cs a ccd cl outer A₀ base h₀ L m st R B F X N T hk hdp hun hret
  k_dflt ktr_enter
  k_steps
  exact hret _ _ _ _ (by k_asm) (by k_asm) ⟨rfl, _, rfl⟩
theorem many_dot (w : World) (rest : List (Addr × Obj)) (a1 p1 : Addr) (tk1 tk2 n1 n2 : Nat) (hm : (a1, tupOf [.str (Str.ofString "expr") tk1, .str (Str.ofString ".") tk2, .ref p1] n1) ∈ rest) (v1 : Value) (b : Addr) (tk3 tk4 n3 : Nat) (t0 : T) (hp : (p1, tupOf [v1, .ref b] n2) ∈ rest) (hT : TreeIn rest t0 v1) (hWt : WF t0) (hA : ∀ t ∈ [t0], ManySpec w t) :
  Calls w 395 [.ref a1] (3 * height t0 + 5) (12 * height t0 + 42) rest (fun nx res => nx = rest ∧ ∃ tk, res = .int ((count t0 + 1 : Nat) : Int) tk) := by
  have hF : ForestIn rest [t0] [v1] := by rw [ForestIn]; exact ⟨v1, [], rfl, hT, by rw [ForestIn]⟩
  have hW : WFs [t0] := by rw [WFs]; exact ⟨hWt, by rw [WFs]; trivial⟩
  have h81 : heights [t0] = height t0 := by rw [heights, heights]; exact Nat.max_eq_left (Nat.zero_le _)
  unfold Calls; k_fill
  intro mean mg mb dp un gd cn cs a ccd cl outer A₀ base h₀ L m st R B F X N T hk hdp hun hret
  k_dflt ktr_enter
  k_steps
  (try dsimp only)
  refine' comp_same0 ?hh ?F ?N ?hT ?z (fun i ys => IntsAre ys (([t0].take i).map fun t => ((count t : Nat) : Int))) ?hJ ?turn ?done
  case hh => exact rfl
  case F => k_asm
  case N => k_asm
  case hT => k_mem
  case z => first | decide | (simp; done) | (rw [ForestIn.length hF]; omega)
  case hJ => exact .nil
  case turn =>
    intro i v ys own C h tk1 E' hi hys F2 N2 ⟨mC, hnC, hmC⟩
    obtain ⟨t, hti, hTi⟩ := ForestIn.get hF hi
    have hWt := WFs.get hW hti
    have hM := hA t (List.mem_of_getElem? hti)
    have ht8 := heights_get (List.mem_of_getElem? hti)
    k_steps
    refine ⟨_, _, rfl, by k_asm, by k_asm, ?_⟩
    rw [List.take_add_one, hti, List.map_append]
    exact IntsAre.snoc hys _ _
  case done =>
    intro ys D e1 h tk1 hys F2 N2 off
    rw [List.take_of_length_le (by first | exact Nat.le_refl _ | (rw [ForestIn.length hF]; exact Nat.le_refl _))] at hys
    k_steps
    have e9 := counts_sum [t0]
    have e8 : (1:Int) + ((counts [t0] : Nat) : Int) = ((count t0 + 1 : Nat) : Int) := by (rw [counts, counts]; omega)
    refine hret _ _ _ _ (by k_asm) (by first | exact news_tl (by k_asm) | exact news_tl (news_tl (by k_asm))) ⟨rfl, _, by rw [e9, e8]⟩
theorem many_node (w : World) (rest : List (Addr × Obj)) (h : Hd) (a1 p1 : Addr) (tk1 tk2 n1 n2 : Nat) (hm : (a1, tupOf [.str (Str.ofString "expr") tk1, .str (Str.ofString h.word) tk2, .ref p1] n1) ∈ rest) (vs : List Value) (ps : List T) (hp : (p1, tupOf vs n2) ∈ rest) (hW : WFs ps) (hlen : ps.length ≤ 4) (hF : ForestIn rest ps vs) (hA : ∀ t ∈ ps, ManySpec w t) :
  Calls w 395 [.ref a1] (3 * heights ps + 5) (12 * heights ps + 42) rest (fun nx res => nx = rest ∧ ∃ tk, res = .int ((counts ps + 1 : Nat) : Int) tk) := by
  have hwd : (Str.ofString h.word == Str.ofString ".") = false := by cases h <;> decide
  unfold Calls; k_fill
  intro mean mg mb dp un gd cn cs a ccd cl outer A₀ base h₀ L m st R B F X N T hk hdp hun hret
  k_dflt ktr_enter
  k_steps
  (try dsimp only)
  refine' comp_same0 ?hh ?F ?N ?hT ?z (fun i ys => IntsAre ys ((ps.take i).map fun t => ((count t : Nat) : Int))) ?hJ ?turn ?done
  case hh => exact rfl
  case F => k_asm
  case N => k_asm
  case hT => k_mem
  case z => first | decide | (simp; done) | (rw [ForestIn.length hF]; omega)
  case hJ => exact .nil
  case turn =>
    intro i v ys own C h tk1 E' hi hys F2 N2 ⟨mC, hnC, hmC⟩
    obtain ⟨t, hti, hTi⟩ := ForestIn.get hF hi
    have hWt := WFs.get hW hti
    have hM := hA t (List.mem_of_getElem? hti)
    have ht8 := heights_get (List.mem_of_getElem? hti)
    k_steps
    refine ⟨_, _, rfl, by k_asm, by k_asm, ?_⟩
    rw [List.take_add_one, hti, List.map_append]
    exact IntsAre.snoc hys _ _
  case done =>
    intro ys D e1 h tk1 hys F2 N2 off
    rw [List.take_of_length_le (by first | exact Nat.le_refl _ | (rw [ForestIn.length hF]; exact Nat.le_refl _))] at hys
    k_steps
    have e9 := counts_sum ps
    have e8 : (1:Int) + ((counts ps : Nat) : Int) = ((counts ps + 1 : Nat) : Int) := by omega
    refine hret _ _ _ _ (by k_asm) (by first | exact news_tl (by k_asm) | exact news_tl (news_tl (by k_asm))) ⟨rfl, _, by rw [e9, e8]⟩
mutual
theorem many_all (w : World) : ∀ t : T, ManySpec w t
  | .sym y => fun rest v hT hW => by
    rw [TreeIn] at hT
    obtain ⟨a, tk1, tk2, n, rfl, hm⟩ := hT
    rw [height, count]
    exact (many_sym w rest a y tk1 tk2 n hm).mono (by omega) (by omega)
  | .int i => fun rest v hT hW => by
    rw [TreeIn] at hT
    obtain ⟨a, tk1, tk2, n, rfl, hm⟩ := hT
    rw [height, count]
    exact (many_int w rest a i tk1 tk2 n hm).mono (by omega) (by omega)
  | .dot t => fun rest v hT hW => by
    rw [TreeIn] at hT
    obtain ⟨a, tk1, tk2, n, p, n2, v1, b, tk3, tk4, n3, rfl, hm, hp, hb1, hT⟩ := hT
    rw [WF] at hW
    rw [height, count]
    exact (many_dot w rest a p tk1 tk2 n n2 hm v1 b tk3 tk4 n3 t hp hT hW fun t' ht => by rw [List.mem_singleton] at ht; exact ht ▸ many_all w t).mono (by omega) (by omega)
  | .node h ps => fun rest v hT hW => by
    rw [TreeIn] at hT
    obtain ⟨a, tk1, tk2, n, p, n2, vs, rfl, hm, hp, hF⟩ := hT
    rw [WF] at hW
    rw [height, count]
    exact (many_node w rest h a p tk1 tk2 n n2 hm vs ps hp hW.2.2 hW.1 hF (many_alls w ps)).mono (by omega) (by omega)
theorem many_alls (w : World) : ∀ ps : List T, ∀ t ∈ ps, ManySpec w t
  | [], _, h => nomatch h
  | p :: ps, t, h => (List.mem_cons.mp h).elim (fun e => e ▸ many_all w p) (fun h => many_alls w ps t h)
end
theorem words36 : True := by
  k_with_none
  trivial
abbrev kst (ka : Addr) (a b : Int) (t1 t2 e : Nat) (rest : List (Addr × Obj)) : List (Addr × Obj) := (ka, listOf (List.toArray [.int a t1, .int b t2]) e) :: rest
def KitOk (a b : Int) : Prop := 0 ≤ a ∧ 0 ≤ b ∧ b < 65393
theorem fm_lo (x m : Int) (h : 0 < m) : 0 ≤ x.fmod m := by rw [Int.fmod_eq_emod_of_nonneg _ (by omega)]; exact Int.emod_nonneg _ (by omega)
theorem fm_hi (x m : Int) (h : 0 < m) : x.fmod m < m := by rw [Int.fmod_eq_emod_of_nonneg _ (by omega)]; exact Int.emod_lt_of_pos _ h
theorem fd_lo (x m : Int) (h0 : 0 ≤ x) (h : 0 < m) : 0 ≤ x.fdiv m := by rw [Int.fdiv_eq_ediv_of_nonneg _ (by omega)]; exact Int.ediv_nonneg h0 (by omega)
theorem words37 : True := by
  k_with "eval Call" => (k_here; (with_reducible show wpAny _ _ (eval (Expr.Call (Expr.Name _ _) _ _ _) _) _ _ _); k_dflt (refine Call_ ?_))
  k_with "compareOp In str ref" => (k_here; k_dflt (first
    | (refine' in_top ?F ?X ?l ?k ?e ?_; (case F => k_asm); (case X => k_asm); (case l => k_is); (case k => (repeat constructor)); (case e => first | decide | exact plain_any (by assumption) _ (by decide)); k_whole)
    | (refine' in_topT ?F ?X ?l ?k ?e ?_; (case F => k_asm); (case X => k_asm); (case l => k_is); (case k => (repeat constructor)); (case e => decide); k_whole)))
  k_with "call ref" => (k_here; (with_reducible show wpAny _ _ (call (Value.ref 21) _) _ _ _); k_dflt (first
    | (refine' Calls.use (is_expr_two _ _ _ _ _ _ _ _ _ ?m2 ?m1) ?k1 ?k2 ?k3 ?k4 ?k5 ?kK ?kd ?ku ?_; (case k1 => k_asm); (case k2 => k_asm); (case k3 => k_asm); (case k4 => k_asm); (case m1 => k_mem); (case m2 => decide); (case k5 => k_asm); (case kK => first | exact rfl | assumption); (case kd => ktr_room); (case ku => ktr_units); intro r9 n9 h9 t9 F9 N9 ho9; (obtain ⟨e1, e2⟩ := ho9; subst e1; subst e2); (try k_sweep))
    | (refine' Calls.use (is_expr_ne _ _ _ _ _ _ _ _ _ _ ?m2 ?m1) ?k1 ?k2 ?k3 ?k4 ?k5 ?kK ?kd ?ku ?_; (case k1 => k_asm); (case k2 => k_asm); (case k3 => k_asm); (case k4 => k_asm); (case m1 => k_mem); (case m2 => first | assumption | decide); (case k5 => k_asm); (case kK => first | exact rfl | assumption); (case kd => ktr_room); (case ku => ktr_units); intro r9 n9 h9 t9 F9 N9 ho9; (obtain ⟨e1, e2⟩ := ho9; subst e1; subst e2); (try k_sweep))
    | (refine' Calls.use (is_expr_expr _ _ _ _ _ _ _ _ _ _ ?m1) ?k1 ?k2 ?k3 ?k4 ?k5 ?kK ?kd ?ku ?_; (case k1 => k_asm); (case k2 => k_asm); (case k3 => k_asm); (case k4 => k_asm); (case m1 => k_mem); (case k5 => k_asm); (case kK => first | exact rfl | assumption); (case kd => ktr_room); (case ku => ktr_units); intro r9 n9 h9 t9 F9 N9 ho9; (obtain ⟨e1, e2⟩ := ho9; subst e1; subst e2); (try k_sweep))))
  k_with "call ref" => (k_here; (with_reducible show wpAny _ _ (call (Value.ref 28) _) _ _ _); k_dflt (first
    | (refine' Calls.use (parts_of_expr _ _ _ _ _ _ _ _ ?m1) ?k1 ?k2 ?k3 ?k4 ?k5 ?kK ?kd ?ku ?_; (case k1 => k_asm); (case k2 => k_asm); (case k3 => k_asm); (case k4 => k_asm); (case m1 => k_mem); (case k5 => k_asm); (case kK => first | exact rfl | assumption); (case kd => ktr_room); (case ku => ktr_units); intro r9 n9 h9 t9 F9 N9 ho9; (obtain ⟨e1, e2⟩ := ho9; subst e1; subst e2); (try k_sweep))))
  k_with "call ref" => (k_here; (with_reducible show wpAny _ _ (call (Value.ref 35) _) _ _ _); k_dflt (first
    | (refine' Calls.use (is_sym_ _ _ _ _ _ _ _ ?m1) ?k1 ?k2 ?k3 ?k4 ?k5 ?kK ?kd ?ku ?_; (case k1 => k_asm); (case k2 => k_asm); (case k3 => k_asm); (case k4 => k_asm); (case m1 => k_mem); (case k5 => k_asm); (case kK => first | exact rfl | assumption); (case kd => ktr_room); (case ku => ktr_units); intro r9 n9 h9 t9 F9 N9 ho9; (obtain ⟨e1, e2⟩ := ho9; subst e1; subst e2); (try k_sweep))))
  k_with "call ref" => (k_here; (with_reducible show wpAny _ _ (call (Value.ref 21) _) _ _ _); k_dflt (first
    | (refine' Calls.use (is_expr_two _ _ _ _ _ _ _ _ _ ?m2 ?m1) ?k1 ?k2 ?k3 ?k4 ?k5 ?kK ?kd ?ku ?_; (case k1 => k_asm); (case k2 => k_asm); (case k3 => k_asm); (case k4 => k_asm); (case m1 => k_mem); (case m2 => decide); (case k5 => k_asm); (case kK => first | exact rfl | assumption); (case kd => ktr_room); (case ku => ktr_units); intro r9 n9 h9 t9 F9 N9 ho9; (obtain ⟨e1, e2⟩ := ho9; subst e1; subst e2); (try k_sweep))
    | (refine' Calls.use (is_expr_ne _ _ _ _ _ _ _ _ _ _ ?m2 ?m1) ?k1 ?k2 ?k3 ?k4 ?k5 ?kK ?kd ?ku ?_; (case k1 => k_asm); (case k2 => k_asm); (case k3 => k_asm); (case k4 => k_asm); (case m1 => k_mem); (case m2 => first | assumption | decide); (case k5 => k_asm); (case kK => first | exact rfl | assumption); (case kd => ktr_room); (case ku => ktr_units); intro r9 n9 h9 t9 F9 N9 ho9; (obtain ⟨e1, e2⟩ := ho9; subst e1; subst e2); (try k_sweep))
    | (refine' Calls.use (is_expr_expr _ _ _ _ _ _ _ _ _ _ ?m1) ?k1 ?k2 ?k3 ?k4 ?k5 ?kK ?kd ?ku ?_; (case k1 => k_asm); (case k2 => k_asm); (case k3 => k_asm); (case k4 => k_asm); (case m1 => k_mem); (case k5 => k_asm); (case kK => first | exact rfl | assumption); (case kd => ktr_room); (case ku => ktr_units); intro r9 n9 h9 t9 F9 N9 ho9; (obtain ⟨e1, e2⟩ := ho9; subst e1; subst e2); (try k_sweep))
    | (refine' Calls.use (is_expr_tree _ _ ?mt _ _ _ ?m1 ?m2) ?k1 ?k2 ?k3 ?k4 ?k5 ?kK ?kd ?ku ?_; (case k1 => k_asm); (case k2 => k_asm); (case k3 => k_asm); (case k4 => k_asm); (case m1 => (first | assumption | exact TreeIn.mono (fun _ h => .tail _ (.tail _ h)) _ _ (by assumption) | exact TreeIn.mono (fun _ h => .tail _ (.tail _ (.tail _ h))) _ _ (by assumption) | exact TreeIn.mono (fun _ h => .tail _ (.tail _ (.tail _ (.tail _ h)))) _ _ (by assumption) | exact TreeIn.mono (fun _ h => .tail _ (.tail _ (.tail _ (.tail _ (.tail _ h))))) _ _ (by assumption))); (case m2 => decide); (case k5 => k_asm); (case kK => first | exact rfl | assumption); (case kd => ktr_room); (case ku => ktr_units); intro r9 n9 h9 t9 F9 N9 ho9; (obtain ⟨e1, e2⟩ := ho9; subst e1; subst e2); (try k_sweep))))
  k_with "call ref" => (k_here; (with_reducible show wpAny _ _ (call (Value.ref 141) _) _ _ _); k_dflt (first
    | (rename AtSpec _ _ => hA9; (refine' Calls.use (hA9 _ _ _ _ _ _ _ _ _ _ _ ?m1 ?m2 ?m3 ?m4 ?m5 ?m6 ?m7) ?k1 ?k2 ?k3 ?k4 ?k5 ?kK ?kd ?ku ?_; (case k1 => k_asm); (case k2 => k_asm); (case k3 => k_asm); (case k4 => (first | k_asm | exact rot1 (by k_asm) | exact rot2 (by k_asm) | exact rot3 (by k_asm) | exact rot4 (by k_asm) | exact rot5 (by k_asm) | exact rot6 (by k_asm) | exact rot7 (by k_asm) | exact rot8 (by k_asm) | exact rot9 (by k_asm))); (case m1 => (first | assumption | exact TreeIn.mono (fun _ h => .tail _ h) _ _ (by assumption) | exact TreeIn.mono (fun _ h => .tail _ (.tail _ h)) _ _ (by assumption) | exact TreeIn.mono (fun _ h => .tail _ (.tail _ (.tail _ h))) _ _ (by assumption) | exact TreeIn.mono (fun _ h => .tail _ (.tail _ (.tail _ (.tail _ h)))) _ _ (by assumption) | exact TreeIn.mono (fun _ h => .tail _ (.tail _ (.tail _ (.tail _ (.tail _ h))))) _ _ (by assumption) | exact TreeIn.mono (fun _ h => .tail _ (.tail _ (.tail _ (.tail _ (.tail _ (.tail _ h)))))) _ _ (by assumption) | exact TreeIn.mono (fun _ h => .tail _ (.tail _ (.tail _ (.tail _ (.tail _ (.tail _ (.tail _ h))))))) _ _ (by assumption) | exact TreeIn.mono (fun _ h => .tail _ (.tail _ (.tail _ (.tail _ (.tail _ (.tail _ (.tail _ (.tail _ h)))))))) _ _ (by assumption) | exact TreeIn.mono (fun _ h => .tail _ (.tail _ (.tail _ (.tail _ (.tail _ (.tail _ (.tail _ (.tail _ (.tail _ h))))))))) _ _ (by assumption))); (case m2 => assumption); (case m3 => assumption); (case m4 => assumption); (case m5 => assumption); (case m6 => (first | assumption | exact all_cons1 (neN (by omega)) (by assumption) | exact all_cons1 (neN (by omega)) (all_cons1 (neN (by omega)) (by assumption)) | exact all_cons1 (neN (by omega)) (all_cons1 (neN (by omega)) (all_cons1 (neN (by omega)) (by assumption))) | exact all_cons1 (neN (by omega)) (all_cons1 (neN (by omega)) (all_cons1 (neN (by omega)) (all_cons1 (neN (by omega)) (by assumption)))) | exact all_cons1 (neN (by omega)) (all_cons1 (neN (by omega)) (all_cons1 (neN (by omega)) (all_cons1 (neN (by omega)) (all_cons1 (neN (by omega)) (by assumption))))) | exact all_cons1 (neN (by omega)) (all_cons1 (neN (by omega)) (all_cons1 (neN (by omega)) (all_cons1 (neN (by omega)) (all_cons1 (neN (by omega)) (all_cons1 (neN (by omega)) (by assumption)))))) | exact all_cons1 (neN (by omega)) (all_cons1 (neN (by omega)) (all_cons1 (neN (by omega)) (all_cons1 (neN (by omega)) (all_cons1 (neN (by omega)) (all_cons1 (neN (by omega)) (all_cons1 (neN (by omega)) (by assumption))))))) | exact all_cons1 (neN (by omega)) (all_cons1 (neN (by omega)) (all_cons1 (neN (by omega)) (all_cons1 (neN (by omega)) (all_cons1 (neN (by omega)) (all_cons1 (neN (by omega)) (all_cons1 (neN (by omega)) (all_cons1 (neN (by omega)) (by assumption)))))))) | exact all_cons1 (neN (by omega)) (all_cons1 (neN (by omega)) (all_cons1 (neN (by omega)) (all_cons1 (neN (by omega)) (all_cons1 (neN (by omega)) (all_cons1 (neN (by omega)) (all_cons1 (neN (by omega)) (all_cons1 (neN (by omega)) (all_cons1 (neN (by omega)) (by assumption))))))))))); (case m7 => decide); (case k5 => k_asm); (case kK => first | exact rfl | assumption); (case kd => ktr_room); (case ku => ktr_units); intro r9 n9 h9 t9 F9 N9 ho9; (obtain ⟨t19, t29, tk9, e1, e2⟩ := ho9; subst e1; subst e2); (try k_sweep)))))
  k_with "compareOp Eq ref ref" => (k_here; k_dflt (first
    | (refine' eq_tups ?N ?u ?m1 ?m2 ?_; (case N => k_asm); (case u => ktr_units); (case m1 => k_mem); (case m2 => k_mem); k_whole)
    | (refine' eq_syms ?N ?u ?m1 ?m2 ?e ?_; (case N => k_asm); (case u => ktr_units); (case m1 => k_mem); (case m2 => k_mem); (case e => first | decide | exact plain_ne (by assumption) _ (by decide)); k_whole)
    | (refine' eq_int_sym ?N ?u ?m1 ?m2 ?_; (case N => k_asm); (case u => ktr_units); (case m1 => k_mem); (case m2 => k_mem); k_whole)))
  k_with "compareOp NotEq ref ref" => (k_here; k_dflt (first
    | (refine' ne_nil0 ?N ?u ?m1 ?m2 ?_; (case N => k_asm); (case u => ktr_units); (case m1 => k_mem); (case m2 => first | exact isTuple_of (by k_asm) (by k_mem)); k_whole)
    | (refine' ne_cons ?N ?u ?m1 ?m2 ?_; (case N => k_asm); (case u => ktr_units); (case m1 => k_mem); (case m2 => first | exact isTuple_of (by k_asm) (by k_mem)); k_whole)))
  k_with "subscriptTail" => (k_here; (with_reducible show wpAny _ _ (subscriptTail _ _ (Value.ref _) (Value.ref _)) _ _ _); (with_unfolding_all refine' slice1 ?F ?N ?m1 ?z ?_ ?hs ?hg; (case F => k_asm); (case N => k_asm); (case m1 => k_mem); (case z => (first | decide | omega | (simp only [List.length_cons, List.length_nil]; omega))); (case hs => exact rfl); (case hg => intro _; exact rfl); k_whole); intro q9 h9 F9 N9 l9; (try k_lt l9); (try k_sweep))
  k_with "subscriptTail" => (k_here; (with_reducible show wpAny _ _ (subscriptTail _ _ (Value.ref _) (Value.int 0 _)) _ _ _); (with_unfolding_all refine' item_first ?N ?m ?_ ?hs; (case N => k_asm); (case m => k_mem); (case hs => exact rfl); k_whole))
  k_with "subscriptTail" => (k_here; (with_reducible show wpAny _ _ (subscriptTail _ _ (Value.ref _) (Value.int 1 _)) _ _ _); (with_unfolding_all refine' item_second ?N ?m ?_ ?hs; (case N => k_asm); (case m => k_mem); (case hs => exact rfl); k_whole))
  k_with "call builtin:len" => (k_here; (with_reducible show wpAny _ _ (call (Value.builtin "len") [Value.ref _]) _ _ _); k_dflt (refine' len_tup ?N ?m ?z ?e ?_; (case N => k_asm); (case m => k_mem); (case z => (first | decide | omega | (simp only [List.length_cons, List.length_nil]; omega))); (case e => first | (simp only [List.length_cons, List.length_nil, Nat.zero_add, Nat.reduceAdd]; exact rfl) | exact rfl); k_whole))
  k_with "eval Name" => (k_here; (with_reducible show wpAny _ _ (eval (Expr.Name _ _) (compEnvC _ _ _ _)) _ _ _); k_dflt (first
    | (refine' comp_local ?n ?v ?_ ?a ?b ?d; (case n => k_asm); (case v => first | assumption | exact rfl); (case a => exact rfl); (case b => exact rfl); (case d => decide); k_whole)
    | (refine' comp_cell ?N ?c ?m ?d ?_ ?a ?b ?e; (case N => k_asm); (case c => exact rfl); (case m => k_mem); (case d => first | assumption | exact rfl); (case a => exact rfl); (case b => exact rfl); (case e => decide); k_whole)
    | (refine' nameG_K ?F ?X ?T ?e ?_ ?g ?k ?x ?d; (case F => k_asm); (case X => k_asm); (case T => k_asm); (case e => k_is); (case g => exact rfl); (case k => exact rfl); (case x => exact rfl); (case d => decide); k_whole)))
  k_with "eval Call Attribute" => (k_here; (with_reducible show wpAny _ _ (eval (Expr.Call (Expr.Attribute _ _ _) _ _ _) _) _ _ _); k_dflt (refine MethodCall_ ?_))
  k_with "eval ListComp" => (k_here; k_dflt ((refine' comp_inv ?c1 ?c2 ?c3 ?c4 ?c5 ?_ ?c6); (case c1 => with_unfolding_all exact rfl); (case c2 => decide); (case c3 => exact rfl); (case c4 => decide); (case c5 => exact rfl); (case c6 => intro _; exact rfl); k_whole))
  k_with "call builtin:str.join" => (k_here; (with_reducible show wpAny _ _ (call (Value.builtin "str.join") [Value.str _ _, Value.ref _]) _ _ _); (with_reducible rename StrsAre _ _ => hS9); k_dflt (refine' join_mine (News.isList ?N ?m) ?i ?k ?_; (case N => k_asm); (case m => k_mem); (case i => simpa using hS9); (case k => assumption)); intro t9 k9)
  trivial
local macro_rules | `(tactic| k_mem) => `(tactic| first | exact List.Mem.head _ | assumption | (refine' List.mem_append_right _ ?_; k_mem) | (refine' List.mem_cons_of_mem _ ?_; k_mem))
theorem words38 : True := by
  k_with "subscriptTail Name Constant ref int" => (k_here; (with_reducible show wpAny _ _ (subscriptTail _ _ (Value.ref _) (Value.int 0 _)) _ _ _); (with_unfolding_all refine' litem_first ?N ?m ?_ ?hs ?hg; (case N => k_asm); (case m => k_mem); (case hs => exact rfl); (case hg => intro _; exact rfl); k_whole))
  k_with "subscriptTail Name Constant ref int" => (k_here; (with_reducible show wpAny _ _ (subscriptTail _ _ (Value.ref _) (Value.int 1 _)) _ _ _); (with_unfolding_all refine' litem_second ?N ?m ?_ ?hs ?hg; (case N => k_asm); (case m => k_mem); (case hs => exact rfl); (case hg => intro _; exact rfl); k_whole))
  k_with "call type:tuple" => (k_here; (with_reducible show wpAny _ _ (call (Value.type _) [Value.ref _]) _ _ _); k_dflt (refine' kde_tupleOf ?k1 ?k2 ?k3 ?k4 ?k5 ?_; (case k1 => k_asm); (case k2 => k_asm); (case k3 => exact News.isList (by k_asm) (by k_mem)); (case k4 => (simp only [List.size_toArray]; omega)); (case k5 => exact rfl); k_whole); intro D' h' F' N' l1; (try k_lt l1); (try k_sweep))
  trivial
theorem tool_ (w : World) (rest : List (Addr × Obj)) (ka : Addr) (hall : ∀ p ∈ rest, p.1 ≠ ka) (a b : Int) (t1 t2 e : Nat) (h : KitOk a b) (m : Int) (hm0 : 0 < m) (hm1 : m ≤ 120) (tk : Nat) :
  Calls w 366 [.ref ka, .int m tk] 1 12 (kst ka a b t1 t2 e rest) (fun nx res => ∃ a' b' r t1' t2' e' tk, nx = kst ka a' b' t1' t2' e' rest ∧ res = .int r tk ∧ KitOk a' b' ∧ 0 ≤ r ∧ r < m) := by
  have hk0 := h.1; have hk1 := h.2.1; have hk2 := h.2.2
  unfold Calls; k_fill
  intro mean mg mb dp un gd cn cs a ccd cl outer A₀ base h₀ L m st R B F X N T hk hdp hun hret
  k_dflt ktr_enter
  k_steps
  · exact hret _ _ _ _ (by k_asm) (by k_asm) ⟨_, _, _, _, _, _, _, rfl, rfl, ⟨fd_lo _ _ hk0 hm0, hk1, hk2⟩, fm_lo _ _ hm0, fm_hi _ _ hm0⟩
  · exact hret _ _ _ _ (by k_asm) (by k_asm) ⟨_, _, _, _, _, _, _, rfl, rfl, ⟨hk0, fm_lo _ _ (by decide), fm_hi _ _ (by decide)⟩, fm_lo _ _ hm0, fm_hi _ _ hm0⟩
theorem expr_ (w : World) (rest : List (Addr × Obj)) (q : Addr) (vs : List Value) (hz : vs.length ≤ 4) (e : Nat) (hq : (q, listOf vs.toArray e) ∈ rest) (y : Str) (tk : Nat) :
  Calls w 373 [.str y tk, .ref q] 1 12 rest (fun nx res => ∃ p x tk1, nx = (x, tupOf [.str (Str.ofString "expr") tk1, .str y tk, .ref p] 0) :: (p, tupOf vs 0) :: rest ∧ res = .ref x ∧ (∀ q ∈ rest, @LT.lt Nat _ q.1 p) ∧ (∀ q ∈ rest, @LT.lt Nat _ q.1 x) ∧ @LT.lt Nat _ p x) := by
  unfold Calls; k_fill
  intro mean mg mb dp un gd cn cs a ccd cl outer A₀ base h₀ L m st R B F X N T hk hdp hun hret
  k_dflt ktr_enter
  k_steps
  refine hret _ _ _ _ (by k_asm) (by k_asm) ⟨_, _, _, rfl, rfl, by assumption, fun q hq => ?_, by omega⟩
  have z := (by assumption : ∀ p ∈ rest, @LT.lt Nat _ p.1 _) q hq
  show @LT.lt Nat _ _ _
  omega
def bnd : Nat → Nat
  | 0 => 1
  | k + 1 => 3 * bnd k + 2
def TreePost (ka : Addr) (rest : List (Addr × Obj)) (k : Nat) (nx : List (Addr × Obj)) (res : Value) : Prop :=
  ∃ a' b' t1' t2' e' tl t, nx = kst ka a' b' t1' t2' e' (tl ++ rest) ∧ KitOk a' b' ∧ TreeIn tl t res ∧ WF t ∧ height t ≤ k + 1 ∧ count t ≤ bnd k ∧ (∀ p ∈ tl ++ rest, p.1 ≠ ka) ∧ (∀ p ∈ tl, ∀ q ∈ rest, p.1 ≠ q.1)
def TreeI (w : World) (hi : Int) (k need ku : Nat) : Prop := ∀ (ka : Addr) (rest : List (Addr × Obj)) (a b : Int) (t1 t2 e tk : Nat), KitOk a b → (∀ p ∈ rest, p.1 ≠ ka) →
  Calls w 378 [.ref ka, .int hi tk] need ku (kst ka a b t1 t2 e rest) (TreePost ka rest k)
def TreeJ (ka : Addr) (R : List (Addr × Obj)) (k : Nat) (i : Nat) (ys : List Value) (nx : List (Addr × Obj)) : Prop :=
  ∃ a' b' t1' t2' e' tl ts, nx = kst ka a' b' t1' t2' e' (tl ++ R) ∧ KitOk a' b' ∧ ForestIn tl ts ys ∧ WFs ts ∧ ts.length = i ∧ heights ts ≤ k + 1 ∧ counts ts ≤ i * bnd k ∧ (∀ p ∈ tl ++ R, p.1 ≠ ka) ∧ (∀ p ∈ tl, ∀ q ∈ R, p.1 ≠ q.1)
def Stop (p : Prop) : Prop := p
theorem Stop.elim {p : Prop} (h : Stop p) : p := h
theorem Stop.mk {p : Prop} (h : p) : Stop p := h
theorem TreeJ.nil {ka : Addr} {R : List (Addr × Obj)} {k : Nat} {a b : Int} {t1 t2 e : Nat} (h : KitOk a b) (hall : ∀ p ∈ R, p.1 ≠ ka) : TreeJ ka R k 0 [] (kst ka a b t1 t2 e R) :=
  ⟨a, b, t1, t2, e, [], [], rfl, h, by rw [ForestIn], by rw [WFs]; trivial, rfl, by rw [heights]; omega, by rw [counts]; omega, hall, fun _ h => nomatch h⟩
section
variable {prog : Program} {w : World} {A : Around} {E : Value → Shared → Prop} {s : Shared} {h₀ : Heap} {L a b : Addr} {m : Str → Option Value} {news : List (Addr × Obj)} {Q : Value → Shared → Prop} {n n2 : Nat}
theorem litem_pick {value slice : Expr} {s1 s2 : Str} {t1 t2 u : Nat} {r : Int} (N : News h₀ L s.heap news) (hm : (a, listOf (List.toArray [.str s1 t1, .str s2 t2]) n) ∈ news) (h0 : 0 ≤ r) (h1 : r < 2) (h : ∀ y t, (y = s1 ∨ y = s2) → Q (.str y t) s)
    (hs : subscripted slice false (.ref a) (.int r u) = operate [.ref a, .int r u] (getItem (.ref a) (.int r u)) := by with_unfolding_all rfl) (hg : ∀ r, letTemporaryGo value (.ref a) r = pure () := by intro _; with_unfolding_all rfl) :
    wpAny (model prog w) A (subscriptTail value slice (.ref a) (.int r u)) Q E s := by
  have : r = 0 ∨ r = 1 := by omega
  rcases this with rfl | rfl
  · exact item_listL (N.isList hm) (by decide) (by decide) rfl (h _ _ (.inl rfl)) hs hg
  · exact item_listL (N.isList hm) (by decide) (by decide) rfl (h _ _ (.inr rfl)) hs hg
theorem add_one {v : Value} {ws : List Value} {e1 e2 : Nat} (F : Fr h₀ L s.heap m) (N : News h₀ L s.heap news) (ha : (a, listOf (List.toArray [v]) e1) ∈ news) (hb : (b, listOf (List.toArray ws) e2) ∈ news) (hz : ws.length ≤ 1000)
    (h : ∀ q h', Fr h₀ L h' m → News h₀ L h' ((q, listOf (List.toArray (v :: ws)) 0) :: news) → (∀ p ∈ news, @LT.lt Nat _ p.1 q) → Q (.ref q) { s with heap := h' }) :
    wpAny (model prog w) A (binaryOp .Add (.ref a) (.ref b)) Q E s :=
  add_lists F N (N.isList ha) (N.isList hb) (fun h' F' N' => h _ h' F' N' fun p hp => Heap.lt_size (N p hp).1) (by rw [sizeLine_eq]; simp; omega)
theorem off_cons {x : Addr × Obj} {tl R rest : List (Addr × Obj)} (h : ∀ p ∈ R, @LT.lt Nat _ p.1 x.1) (hs : ∀ q ∈ rest, q ∈ R) (k : ∀ p ∈ tl, ∀ q ∈ rest, p.1 ≠ q.1) : ∀ p ∈ x :: tl, ∀ q ∈ rest, p.1 ≠ q.1 := fun p hp q hq => by
  rcases List.mem_cons.mp hp with rfl | hp
  · exact Nat.ne_of_gt (h q (hs q hq))
  · exact k p hp q hq
theorem not_cell {o : Obj} {c : Option Value} (h : o.data = .cell c) : True := trivial
end
theorem words39 : True := by
  k_with "call ref" => (k_here; (with_reducible show wpAny _ _ (call (Value.ref 366) _) _ _ _); k_dflt (first
    | (refine' Calls.use (tool_ _ _ _ ?m1 _ _ _ _ _ ?m2 _ ?m3 ?m4 _) ?k1 ?k2 ?k3 ?k4 ?k5 ?kK ?kd ?ku ?_; (case k1 => k_asm); (case k2 => k_asm); (case k3 => k_asm); (case k4 => (first | k_asm | exact rotA1 (by k_asm) | exact rotA2 (by k_asm) | exact rotA3 (by k_asm) | exact rotA4 (by k_asm) | exact rotA5 (by k_asm) | exact rotA6 (by k_asm) | exact rotA7 (by k_asm) | exact rotA8 (by k_asm) | exact rotA9 (by k_asm))); (case m1 => (first | assumption | exact all_cons1 (neN (by omega)) (by assumption) | exact all_cons1 (neN (by omega)) (all_cons1 (neN (by omega)) (by assumption)) | exact all_cons1 (neN (by omega)) (all_cons1 (neN (by omega)) (all_cons1 (neN (by omega)) (by assumption))) | exact all_cons1 (neN (by omega)) (all_cons1 (neN (by omega)) (all_cons1 (neN (by omega)) (all_cons1 (neN (by omega)) (by assumption)))) | exact all_cons1 (neN (by omega)) (all_cons1 (neN (by omega)) (all_cons1 (neN (by omega)) (all_cons1 (neN (by omega)) (all_cons1 (neN (by omega)) (by assumption))))) | exact all_cons1 (neN (by omega)) (all_cons1 (neN (by omega)) (all_cons1 (neN (by omega)) (all_cons1 (neN (by omega)) (all_cons1 (neN (by omega)) (all_cons1 (neN (by omega)) (by assumption)))))) | exact all_cons1 (neN (by omega)) (all_cons1 (neN (by omega)) (all_cons1 (neN (by omega)) (all_cons1 (neN (by omega)) (all_cons1 (neN (by omega)) (all_cons1 (neN (by omega)) (all_cons1 (neN (by omega)) (by assumption))))))) | exact all_cons1 (neN (by omega)) (all_cons1 (neN (by omega)) (all_cons1 (neN (by omega)) (all_cons1 (neN (by omega)) (all_cons1 (neN (by omega)) (all_cons1 (neN (by omega)) (all_cons1 (neN (by omega)) (all_cons1 (neN (by omega)) (by assumption)))))))) | exact all_cons1 (neN (by omega)) (all_cons1 (neN (by omega)) (all_cons1 (neN (by omega)) (all_cons1 (neN (by omega)) (all_cons1 (neN (by omega)) (all_cons1 (neN (by omega)) (all_cons1 (neN (by omega)) (all_cons1 (neN (by omega)) (all_cons1 (neN (by omega)) (by assumption))))))))))); (case m2 => assumption); (case m3 => first | decide | omega); (case m4 => first | decide | omega); (case k5 => k_asm); (case kK => first | exact rfl | assumption); (case kd => ktr_room); (case ku => ktr_units); intro r9 n9 h9 t9 F9 N9 ho9; (obtain ⟨a9, b9, r9, t19, t29, e9, tk9, e1, e2, hk9, hr9, hs9⟩ := ho9; subst e1; subst e2); (try k_sweep))))
  k_with "call ref" => (k_here; (with_reducible show wpAny _ _ (call (Value.ref 373) _) _ _ _); k_dflt (first
    | (refine' Calls.use (expr_ _ _ _ _ ?m1 _ ?m2 _ _) ?k1 ?k2 ?k3 ?k4 ?k5 ?kK ?kd ?ku ?_; (case k1 => k_asm); (case k2 => k_asm); (case k3 => k_asm); (case k4 => k_asm); (case m2 => k_mem); (case m1 => first | assumption | omega | (simp; done) | (simp; omega)); (case k5 => k_asm); (case kK => first | exact rfl | assumption); (case kd => ktr_room); (case ku => ktr_units); intro r9 n9 h9 t9 F9 N9 ho9; (obtain ⟨p9, x9, tk9, e1, e2, hn9, hn19, hn29⟩ := ho9; subst e1; subst e2); (try k_sweep))))
  k_with "call ref" => (k_here; (with_reducible show wpAny _ _ (call (Value.ref 378) _) _ _ _); k_dflt (first
    | (rename TreeI _ _ _ _ _ => hI9; (refine' Calls.use (hI9 _ _ _ _ _ _ _ _ ?m1 ?m2) ?k1 ?k2 ?k3 ?k4 ?k5 ?kK ?kd ?ku ?_; (case k1 => k_asm); (case k2 => k_asm); (case k3 => k_asm); (case k4 => (first | k_asm | exact rotA1 (by k_asm) | exact rotA2 (by k_asm) | exact rotA3 (by k_asm) | exact rotA4 (by k_asm) | exact rotA5 (by k_asm) | exact rotA6 (by k_asm) | exact rotA7 (by k_asm) | exact rotA8 (by k_asm) | exact rotA9 (by k_asm))); (case m1 => assumption); (case m2 => (first | assumption | exact all_cons1 (neN (by omega)) (by assumption) | exact all_cons1 (neN (by omega)) (all_cons1 (neN (by omega)) (by assumption)) | exact all_cons1 (neN (by omega)) (all_cons1 (neN (by omega)) (all_cons1 (neN (by omega)) (by assumption))) | exact all_cons1 (neN (by omega)) (all_cons1 (neN (by omega)) (all_cons1 (neN (by omega)) (all_cons1 (neN (by omega)) (by assumption)))) | exact all_cons1 (neN (by omega)) (all_cons1 (neN (by omega)) (all_cons1 (neN (by omega)) (all_cons1 (neN (by omega)) (all_cons1 (neN (by omega)) (by assumption))))) | exact all_cons1 (neN (by omega)) (all_cons1 (neN (by omega)) (all_cons1 (neN (by omega)) (all_cons1 (neN (by omega)) (all_cons1 (neN (by omega)) (all_cons1 (neN (by omega)) (by assumption)))))) | exact all_cons1 (neN (by omega)) (all_cons1 (neN (by omega)) (all_cons1 (neN (by omega)) (all_cons1 (neN (by omega)) (all_cons1 (neN (by omega)) (all_cons1 (neN (by omega)) (all_cons1 (neN (by omega)) (by assumption))))))) | exact all_cons1 (neN (by omega)) (all_cons1 (neN (by omega)) (all_cons1 (neN (by omega)) (all_cons1 (neN (by omega)) (all_cons1 (neN (by omega)) (all_cons1 (neN (by omega)) (all_cons1 (neN (by omega)) (all_cons1 (neN (by omega)) (by assumption)))))))) | exact all_cons1 (neN (by omega)) (all_cons1 (neN (by omega)) (all_cons1 (neN (by omega)) (all_cons1 (neN (by omega)) (all_cons1 (neN (by omega)) (all_cons1 (neN (by omega)) (all_cons1 (neN (by omega)) (all_cons1 (neN (by omega)) (all_cons1 (neN (by omega)) (by assumption))))))))))); (case k5 => k_asm); (case kK => first | exact rfl | assumption); (case kd => ktr_room); (case ku => ktr_units); intro r9 n9 h9 t9 F9 N9 ho9; (obtain ⟨a9, b9, t19, t29, e9, tl9, T9, e1, hk9, hT9, hW9, hh9, hc9, hn9, ho19⟩ := ho9; subst e1); (try k_sweep)))))
  trivial
theorem allLt_at {d : Nat} : ∀ {l : List (Addr × Obj)}, AllLt d l → ∀ p ∈ l, @LT.lt Nat _ p.1 d
  | [], _, p, h => nomatch h
  | q :: l, h, p, hp => by
    rcases List.mem_cons.mp hp with rfl | hp
    · exact h.1
    · exact allLt_at h.2 p hp
theorem ForestIn.snoc {l : List (Addr × Obj)} {t : T} {v : Value} (h : TreeIn l t v) : ∀ {ts : List T} {vs : List Value}, ForestIn l ts vs → ForestIn l (ts ++ [t]) (vs ++ [v])
  | [], vs, hf => by rw [ForestIn] at hf; subst hf; rw [List.nil_append, ForestIn]; exact ⟨v, [], rfl, h, by rw [ForestIn]⟩
  | q :: ts, vs, hf => by
    rw [ForestIn] at hf
    obtain ⟨v0, vs', rfl, h0, hf⟩ := hf
    rw [List.cons_append, ForestIn]
    exact ⟨v0, vs' ++ [v], rfl, h0, ForestIn.snoc h hf⟩
theorem WFs.snoc {t : T} (h : WF t) : ∀ {ts : List T}, WFs ts → WFs (ts ++ [t])
  | [], _ => by rw [List.nil_append, WFs]; exact ⟨h, by rw [WFs]; trivial⟩
  | q :: ts, hf => by rw [WFs] at hf; rw [List.cons_append, WFs]; exact ⟨hf.1, WFs.snoc h hf.2⟩
theorem heights_snoc {t : T} {m : Nat} (h : height t ≤ m) : ∀ {ts : List T}, heights ts ≤ m → heights (ts ++ [t]) ≤ m
  | [], _ => by rw [List.nil_append, heights, heights]; omega
  | q :: ts, hf => by
    rw [heights] at hf; rw [List.cons_append, heights]
    have := heights_snoc h (ts := ts) (by omega)
    omega
theorem counts_snoc (t : T) : ∀ ts : List T, counts (ts ++ [t]) = counts ts + count t
  | [] => by simp [counts]
  | q :: ts => by rw [List.cons_append, counts, counts, counts_snoc t ts]; omega
section
variable {h₀ h : Heap} {L ka x p b D q2 l' : Addr} {a1 b1 : Int} {u1 u2 e k : Nat} {rest tl X : List (Addr × Obj)} {c1 c2 q : Addr × Obj} {ox op o2 o3 o4 : Obj} {t : T} {v : Value}
theorem leaf_post (N : News h₀ L h ((x, ox) :: X)) (hk : KitOk a1 b1) (hX1 : (ka, listOf (List.toArray [.int a1 u1, .int b1 u2]) e) ∈ X) (hX3 : ∀ z ∈ rest, z ∈ X) (hl : AllLt x rest) (hka : @LT.lt Nat _ ka x) (hall : ∀ p ∈ rest, p.1 ≠ ka)
    (hT : TreeIn [(x, ox)] t (.ref x)) (hW : WF t) (hh : height t ≤ k + 1) (hc : count t ≤ bnd k) : ∃ nx, News h₀ L h nx ∧ TreePost ka rest k nx (.ref x) := by
  refine ⟨kst ka a1 b1 u1 u2 e ([(x, ox)] ++ rest), fun z hz => N z ?_, a1, b1, u1, u2, e, [(x, ox)], t, rfl, hk, hT, hW, hh, hc, ?_, ?_⟩
  · simp only [List.mem_cons, List.cons_append, List.nil_append] at hz ⊢
    rcases hz with h1 | h1 | h1
    · exact .inr (h1 ▸ hX1)
    · exact .inl h1
    · exact .inr (hX3 z h1)
  · intro z hz
    rcases List.mem_cons.mp hz with rfl | hz
    · exact Nat.ne_of_gt hka
    · exact hall z hz
  · intro z hz y hy
    rw [List.mem_singleton.mp hz]
    exact Nat.ne_of_gt (allLt_at hl y hy)
theorem sym_post {y : Str} {t1 t2 n : Nat} (N : News h₀ L h ((D, tupOf [.str (Str.ofString "sym") t1, .str y t2] n) :: kst ka a1 b1 u1 u2 e (q :: c1 :: c2 :: rest))) (hk : KitOk a1 b1) (hy : y = Str.ofString "a" ∨ y = Str.ofString "bc") (hall : ∀ p ∈ rest, p.1 ≠ ka)
    (hl : @LT.lt Nat _ ka D ∧ @LT.lt Nat _ q.1 D ∧ @LT.lt Nat _ c1.1 D ∧ @LT.lt Nat _ c2.1 D ∧ AllLt D rest) : ∃ nx, News h₀ L h nx ∧ TreePost ka rest k nx (.ref D) := by
  refine leaf_post (t := .sym y) N hk (.head _) (fun z hz => .tail _ (.tail _ (.tail _ (.tail _ hz)))) hl.2.2.2.2 hl.1 hall ?_ ?_ ?_ ?_
  · rw [TreeIn]; exact ⟨_, _, _, _, rfl, .head _⟩
  · rw [WF]; rcases hy with rfl | rfl
    · exact .inl rfl
    · exact .inr (.inl rfl)
  · rw [height]; omega
  · rw [count]; cases k <;> rw [bnd] <;> omega
theorem int_post {y : Int} {t1 t2 n : Nat} (N : News h₀ L h ((D, tupOf [.str (Str.ofString "int") t1, .int y t2] n) :: kst ka a1 b1 u1 u2 e (c1 :: c2 :: rest))) (hk : KitOk a1 b1) (h0 : 0 ≤ y) (h1 : y < 120) (hall : ∀ p ∈ rest, p.1 ≠ ka)
    (hl : @LT.lt Nat _ ka D ∧ @LT.lt Nat _ c1.1 D ∧ @LT.lt Nat _ c2.1 D ∧ AllLt D rest) : ∃ nx, News h₀ L h nx ∧ TreePost ka rest k nx (.ref D) := by
  refine leaf_post (t := .int y) N hk (.head _) (fun z hz => .tail _ (.tail _ (.tail _ hz))) hl.2.2.2 hl.1 hall ?_ ?_ ?_ ?_
  · rw [TreeIn]; exact ⟨_, _, _, _, rfl, .head _⟩
  · rw [WF]; exact ⟨h0, h1⟩
  · rw [height]; omega
  · rw [count]; cases k <;> rw [bnd] <;> omega
theorem post_core (N : News h₀ L h ((x, ox) :: (p, op) :: X)) (hk : KitOk a1 b1) (hX1 : (ka, listOf (List.toArray [.int a1 u1, .int b1 u2]) e) ∈ X) (hX2 : ∀ z ∈ tl, z ∈ X) (hX3 : ∀ z ∈ rest, z ∈ X)
    (hp : ∀ q ∈ X, @LT.lt Nat _ q.1 p) (hx : ∀ q ∈ X, @LT.lt Nat _ q.1 x) (hn : ∀ p ∈ tl, p.1 ≠ ka) (hall : ∀ p ∈ rest, p.1 ≠ ka) (ho : ∀ p ∈ tl, ∀ q ∈ rest, p.1 ≠ q.1)
    (hT : TreeIn ((x, ox) :: (p, op) :: tl) t (.ref x)) (hW : WF t) (hh : height t ≤ k + 1) (hc : count t ≤ bnd k) : ∃ nx, News h₀ L h nx ∧ TreePost ka rest k nx (.ref x) := by
  refine ⟨kst ka a1 b1 u1 u2 e (((x, ox) :: (p, op) :: tl) ++ rest), fun z hz => N z ?_, a1, b1, u1, u2, e, (x, ox) :: (p, op) :: tl, t, rfl, hk, hT, hW, hh, hc, ?_, ?_⟩
  · simp only [List.mem_cons, List.cons_append, List.mem_append] at hz ⊢
    rcases hz with h1 | h1 | h1 | h1 | h1
    · exact .inr (.inr (h1 ▸ hX1))
    · exact .inl h1
    · exact .inr (.inl h1)
    · exact .inr (.inr (hX2 z h1))
    · exact .inr (.inr (hX3 z h1))
  · intro z hz
    simp only [List.mem_cons, List.cons_append, List.mem_append] at hz
    rcases hz with rfl | rfl | h1 | h1
    · exact Nat.ne_of_gt (hx _ hX1)
    · exact Nat.ne_of_gt (hp _ hX1)
    · exact hn z h1
    · exact hall z h1
  · intro z hz y hy
    simp only [List.mem_cons] at hz
    rcases hz with rfl | rfl | h1
    · exact Nat.ne_of_gt (hx _ (hX3 y hy))
    · exact Nat.ne_of_gt (hp _ (hX3 y hy))
    · exact ho z h1 y hy
theorem dot_post {t1 t2 t3 t4 n3 n4 n5 : Nat}
    (N : News h₀ L h ((x, tupOf [.str (Str.ofString "expr") t1, .str (Str.ofString ".") t2, .ref p] n4) :: (p, tupOf [v, .ref b] n5) :: (l', o3) :: (b, tupOf [.str (Str.ofString "sym") t3, .str (Str.ofString "u") t4] n3) :: kst ka a1 b1 u1 u2 e (tl ++ c1 :: c2 :: rest)))
    (hk : KitOk a1 b1) (hT : TreeIn tl t v) (hW : WF t) (hh : height t ≤ k + 1) (hc : count t ≤ bnd k) (hn : ∀ p ∈ tl ++ c1 :: c2 :: rest, p.1 ≠ ka) (ho : ∀ p ∈ tl, ∀ q ∈ c1 :: c2 :: rest, p.1 ≠ q.1)
    (hb : @LT.lt Nat _ ka b ∧ AllLt b (tl ++ c1 :: c2 :: rest))
    (hp : ∀ q ∈ (l', o3) :: (b, tupOf [.str (Str.ofString "sym") t3, .str (Str.ofString "u") t4] n3) :: kst ka a1 b1 u1 u2 e (tl ++ c1 :: c2 :: rest), @LT.lt Nat _ q.1 p)
    (hx : ∀ q ∈ (l', o3) :: (b, tupOf [.str (Str.ofString "sym") t3, .str (Str.ofString "u") t4] n3) :: kst ka a1 b1 u1 u2 e (tl ++ c1 :: c2 :: rest), @LT.lt Nat _ q.1 x) : ∃ nx, News h₀ L h nx ∧ TreePost ka rest (k + 1) nx (.ref x) := by
  have hr : ∀ z ∈ rest, z ∈ tl ++ c1 :: c2 :: rest := fun z hz => List.mem_append_right _ (.tail _ (.tail _ hz))
  refine post_core (t := .dot t) (tl := (b, tupOf [.str (Str.ofString "sym") t3, .str (Str.ofString "u") t4] n3) :: tl) N hk (.tail _ (.tail _ (.head _))) ?_ (fun z hz => .tail _ (.tail _ (.tail _ (hr z hz)))) hp hx ?_ (fun z hz => hn z (hr z hz)) ?_ ?_ ?_ ?_ ?_
  · intro z hz
    rcases List.mem_cons.mp hz with rfl | hz
    · exact .tail _ (.head _)
    · exact .tail _ (.tail _ (.tail _ (List.mem_append_left _ hz)))
  · intro z hz
    rcases List.mem_cons.mp hz with rfl | hz
    · exact Nat.ne_of_gt hb.1
    · exact hn z (List.mem_append_left _ hz)
  · intro z hz y hy
    rcases List.mem_cons.mp hz with rfl | hz
    · exact Nat.ne_of_gt (allLt_at hb.2 y (hr y hy))
    · exact ho z hz y (.tail _ (.tail _ hy))
  · rw [TreeIn]
    exact ⟨_, _, _, _, _, _, v, b, _, _, _, rfl, .head _, .tail _ (.head _), .tail _ (.tail _ (.head _)), TreeIn.mono (fun z hz => .tail _ (.tail _ (.tail _ hz))) _ _ hT⟩
  · rw [WF]; exact hW
  · rw [height]; omega
  · rw [count, bnd]; omega
theorem call_post {s : Str} {hd : Hd} {ts : List T} {ys : List Value} {i : Nat} {t1 t2 t3 t4 n3 n4 n5 : Nat} (hs : PlainName s) (hhd : ∀ qs, headOk hd (.sym s :: qs))
    (N : News h₀ L h ((x, tupOf [.str (Str.ofString "expr") t1, .str (Str.ofString hd.word) t2, .ref p] n4) :: (p, tupOf (.ref b :: ys) n5) :: (q2, o2) :: (l', o3) :: (b, tupOf [.str (Str.ofString "sym") t3, .str s t4] n3) :: (D, o4) :: kst ka a1 b1 u1 u2 e (tl ++ c1 :: c2 :: rest)))
    (hk : KitOk a1 b1) (hF : ForestIn tl ts ys) (hW : WFs ts) (hlen : ts.length = i) (hi : i ≤ 3) (hh : heights ts ≤ k + 1) (hc : counts ts ≤ i * bnd k) (hn : ∀ p ∈ tl ++ c1 :: c2 :: rest, p.1 ≠ ka) (ho : ∀ p ∈ tl, ∀ q ∈ c1 :: c2 :: rest, p.1 ≠ q.1)
    (hb : @LT.lt Nat _ D b ∧ @LT.lt Nat _ ka b ∧ AllLt b (tl ++ c1 :: c2 :: rest))
    (hp : ∀ q ∈ (q2, o2) :: (l', o3) :: (b, tupOf [.str (Str.ofString "sym") t3, .str s t4] n3) :: (D, o4) :: kst ka a1 b1 u1 u2 e (tl ++ c1 :: c2 :: rest), @LT.lt Nat _ q.1 p)
    (hx : ∀ q ∈ (q2, o2) :: (l', o3) :: (b, tupOf [.str (Str.ofString "sym") t3, .str s t4] n3) :: (D, o4) :: kst ka a1 b1 u1 u2 e (tl ++ c1 :: c2 :: rest), @LT.lt Nat _ q.1 x) : ∃ nx, News h₀ L h nx ∧ TreePost ka rest (k + 1) nx (.ref x) := by
  have hr : ∀ z ∈ rest, z ∈ tl ++ c1 :: c2 :: rest := fun z hz => List.mem_append_right _ (.tail _ (.tail _ hz))
  have hm : i * bnd k ≤ 3 * bnd k := Nat.mul_le_mul_right _ hi
  refine post_core (t := .node hd (.sym s :: ts)) (tl := (b, tupOf [.str (Str.ofString "sym") t3, .str s t4] n3) :: tl) N hk (.tail _ (.tail _ (.tail _ (.tail _ (.head _))))) ?_ (fun z hz => .tail _ (.tail _ (.tail _ (.tail _ (.tail _ (hr z hz)))))) hp hx ?_ (fun z hz => hn z (hr z hz)) ?_ ?_ ?_ ?_ ?_
  · intro z hz
    rcases List.mem_cons.mp hz with rfl | hz
    · exact .tail _ (.tail _ (.head _))
    · exact .tail _ (.tail _ (.tail _ (.tail _ (.tail _ (List.mem_append_left _ hz)))))
  · intro z hz
    rcases List.mem_cons.mp hz with rfl | hz
    · exact Nat.ne_of_gt hb.2.1
    · exact hn z (List.mem_append_left _ hz)
  · intro z hz y hy
    rcases List.mem_cons.mp hz with rfl | hz
    · exact Nat.ne_of_gt (allLt_at hb.2.2 y (hr y hy))
    · exact ho z hz y (.tail _ (.tail _ hy))
  · rw [TreeIn]
    refine ⟨_, _, _, _, _, _, .ref b :: ys, rfl, .head _, .tail _ (.head _), ?_⟩
    rw [ForestIn]
    refine ⟨_, _, rfl, ?_, ForestIn.mono (fun z hz => .tail _ (.tail _ (.tail _ hz))) _ _ hF⟩
    rw [TreeIn]
    exact ⟨_, _, _, _, rfl, .tail _ (.tail _ (.head _))⟩
  · rw [WF, WFs, WF]; exact ⟨by rw [List.length_cons]; omega, hhd _, hs, hW⟩
  · rw [height, heights, height]; omega
  · rw [count, counts, count, bnd]; omega
theorem tup_post {y : Str} {ts : List T} {ys : List Value} {i : Nat} {t1 t2 n4 n5 : Nat} (hy : y = Str.ofString "tuple" ∨ y = Str.ofString "vect")
    (N : News h₀ L h ((x, tupOf [.str (Str.ofString "expr") t1, .str y t2, .ref p] n4) :: (p, tupOf ys n5) :: kst ka a1 b1 u1 u2 e ((l', o3) :: (D, o4) :: (tl ++ c1 :: c2 :: rest))))
    (hk : KitOk a1 b1) (hF : ForestIn tl ts ys) (hW : WFs ts) (hlen : ts.length = i) (hi : i ≤ 3) (hh : heights ts ≤ k + 1) (hc : counts ts ≤ i * bnd k) (hn : ∀ p ∈ tl ++ c1 :: c2 :: rest, p.1 ≠ ka) (ho : ∀ p ∈ tl, ∀ q ∈ c1 :: c2 :: rest, p.1 ≠ q.1)
    (hp : ∀ q ∈ kst ka a1 b1 u1 u2 e ((l', o3) :: (D, o4) :: (tl ++ c1 :: c2 :: rest)), @LT.lt Nat _ q.1 p)
    (hx : ∀ q ∈ kst ka a1 b1 u1 u2 e ((l', o3) :: (D, o4) :: (tl ++ c1 :: c2 :: rest)), @LT.lt Nat _ q.1 x) : ∃ nx, News h₀ L h nx ∧ TreePost ka rest (k + 1) nx (.ref x) := by
  have hr : ∀ z ∈ rest, z ∈ tl ++ c1 :: c2 :: rest := fun z hz => List.mem_append_right _ (.tail _ (.tail _ hz))
  have hm : i * bnd k ≤ 3 * bnd k := Nat.mul_le_mul_right _ hi
  have fin : ∀ hd : Hd, y = Str.ofString hd.word → headOk hd ts → ∃ nx, News h₀ L h nx ∧ TreePost ka rest (k + 1) nx (.ref x) := by
    rintro hd rfl hho
    refine post_core (t := .node hd ts) (tl := tl) N hk (.head _) (fun z hz => .tail _ (.tail _ (.tail _ (List.mem_append_left _ hz)))) (fun z hz => .tail _ (.tail _ (.tail _ (hr z hz)))) hp hx (fun z hz => hn z (List.mem_append_left _ hz)) (fun z hz => hn z (hr z hz)) (fun z hz y hy => ho z hz y (.tail _ (.tail _ hy))) ?_ ?_ ?_ ?_
    · rw [TreeIn]
      exact ⟨_, _, _, _, _, _, ys, rfl, .head _, .tail _ (.head _), ForestIn.mono (fun z hz => .tail _ (.tail _ hz)) _ _ hF⟩
    · rw [WF]; exact ⟨by omega, hho, hW⟩
    · rw [height]; omega
    · rw [count, bnd]; omega
  rcases hy with rfl | rfl
  · exact fin .tup rfl trivial
  · exact fin .vec rfl trivial
theorem turn_post {tl9 own : List (Addr × Obj)} {a2 b2 : Int} {w1 w2 e2 i : Nat} {ts : List T} {ys : List Value} (N : News h₀ L h (kst ka a1 b1 u1 u2 e (tl9 ++ (tl ++ (c1 :: c2 :: (rest ++ own)))))) (hk : KitOk a1 b1) (hT : TreeIn tl9 t v) (hW : WF t) (hh : height t ≤ k + 1) (hc : count t ≤ bnd k)
    (hn : ∀ p ∈ tl9 ++ (tl ++ (c1 :: c2 :: (rest ++ own))), p.1 ≠ ka) (ho : ∀ p ∈ tl9, ∀ q ∈ tl ++ (c1 :: c2 :: (rest ++ own)), p.1 ≠ q.1)
    (off : ∀ p ∈ kst ka a2 b2 w1 w2 e2 (tl ++ c1 :: c2 :: rest), ∀ q ∈ own, p.1 ≠ q.1) (hF : ForestIn tl ts ys) (hWs : WFs ts) (hlen : ts.length = i) (hhs : heights ts ≤ k + 1) (hcs : counts ts ≤ i * bnd k) (ho2 : ∀ p ∈ tl, ∀ q ∈ c1 :: c2 :: rest, p.1 ≠ q.1) :
    ∃ nx, News h₀ L h (nx ++ own) ∧ (∀ p ∈ nx, ∀ q ∈ own, p.1 ≠ q.1) ∧ TreeJ ka (c1 :: c2 :: rest) k (i + 1) (ys ++ [v]) nx := by
  refine ⟨kst ka a1 b1 u1 u2 e ((tl9 ++ tl) ++ c1 :: c2 :: rest), fun z hz => N z ?_, ?_, a1, b1, u1, u2, e, tl9 ++ tl, ts ++ [t], rfl, hk, ?_, WFs.snoc hW hWs, by rw [List.length_append, hlen]; rfl, heights_snoc hh hhs, ?_, ?_, ?_⟩
  · simpa [List.append_assoc] using hz
  · intro z hz y hy
    rcases List.mem_cons.mp hz with rfl | hz
    · exact off _ (.head _) y hy
    · rw [List.append_assoc] at hz
      rcases List.mem_append.mp hz with hz | hz
      · exact ho z hz y (List.mem_append_right _ (.tail _ (.tail _ (List.mem_append_right _ hy))))
      · exact off z (.tail _ hz) y hy
  · exact ForestIn.snoc (TreeIn.mono (fun z hz => List.mem_append_left _ hz) _ _ hT) (ForestIn.mono (fun z hz => List.mem_append_right _ hz) _ _ hF)
  · rw [counts_snoc, Nat.succ_mul]; omega
  · intro z hz
    refine hn z ?_
    simp only [List.mem_append, List.mem_cons] at hz ⊢
    rcases hz with (h1 | h1) | h1 | h1 | h1 <;> simp [h1]
  · intro z hz y hy
    rcases List.mem_append.mp hz with hz | hz
    · refine ho z hz y ?_
      simp only [List.mem_append, List.mem_cons] at hy ⊢
      rcases hy with h1 | h1 | h1 <;> simp [h1]
    · exact ho2 z hz y hy
end
theorem words40 : True := by
  k_with_none
  k_with "eval Call" => (k_here; (with_reducible show wpAny _ _ (eval (Expr.Call (Expr.Name _ _) _ _ _) _) _ _ _); k_dflt (refine Call_ ?_))
  k_with "compareOp In str ref" => (k_here; k_dflt (first
    | (refine' in_top ?F ?X ?l ?k ?e ?_; (case F => k_asm); (case X => k_asm); (case l => k_is); (case k => (repeat constructor)); (case e => first | decide | exact plain_any (by assumption) _ (by decide)); k_whole)
    | (refine' in_topT ?F ?X ?l ?k ?e ?_; (case F => k_asm); (case X => k_asm); (case l => k_is); (case k => (repeat constructor)); (case e => decide); k_whole)))
  k_with "call ref" => (k_here; (with_reducible show wpAny _ _ (call (Value.ref 21) _) _ _ _); k_dflt (first
    | (refine' Calls.use (is_expr_two _ _ _ _ _ _ _ _ _ ?m2 ?m1) ?k1 ?k2 ?k3 ?k4 ?k5 ?kK ?kd ?ku ?_; (case k1 => k_asm); (case k2 => k_asm); (case k3 => k_asm); (case k4 => k_asm); (case m1 => k_mem); (case m2 => decide); (case k5 => k_asm); (case kK => first | exact rfl | assumption); (case kd => ktr_room); (case ku => ktr_units); intro r9 n9 h9 t9 F9 N9 ho9; (obtain ⟨e1, e2⟩ := ho9; subst e1; subst e2); (try k_sweep))
    | (refine' Calls.use (is_expr_ne _ _ _ _ _ _ _ _ _ _ ?m2 ?m1) ?k1 ?k2 ?k3 ?k4 ?k5 ?kK ?kd ?ku ?_; (case k1 => k_asm); (case k2 => k_asm); (case k3 => k_asm); (case k4 => k_asm); (case m1 => k_mem); (case m2 => first | assumption | decide); (case k5 => k_asm); (case kK => first | exact rfl | assumption); (case kd => ktr_room); (case ku => ktr_units); intro r9 n9 h9 t9 F9 N9 ho9; (obtain ⟨e1, e2⟩ := ho9; subst e1; subst e2); (try k_sweep))
    | (refine' Calls.use (is_expr_expr _ _ _ _ _ _ _ _ _ _ ?m1) ?k1 ?k2 ?k3 ?k4 ?k5 ?kK ?kd ?ku ?_; (case k1 => k_asm); (case k2 => k_asm); (case k3 => k_asm); (case k4 => k_asm); (case m1 => k_mem); (case k5 => k_asm); (case kK => first | exact rfl | assumption); (case kd => ktr_room); (case ku => ktr_units); intro r9 n9 h9 t9 F9 N9 ho9; (obtain ⟨e1, e2⟩ := ho9; subst e1; subst e2); (try k_sweep))))
  k_with "call ref" => (k_here; (with_reducible show wpAny _ _ (call (Value.ref 28) _) _ _ _); k_dflt (first
    | (refine' Calls.use (parts_of_expr _ _ _ _ _ _ _ _ ?m1) ?k1 ?k2 ?k3 ?k4 ?k5 ?kK ?kd ?ku ?_; (case k1 => k_asm); (case k2 => k_asm); (case k3 => k_asm); (case k4 => k_asm); (case m1 => k_mem); (case k5 => k_asm); (case kK => first | exact rfl | assumption); (case kd => ktr_room); (case ku => ktr_units); intro r9 n9 h9 t9 F9 N9 ho9; (obtain ⟨e1, e2⟩ := ho9; subst e1; subst e2); (try k_sweep))))
  k_with "call ref" => (k_here; (with_reducible show wpAny _ _ (call (Value.ref 35) _) _ _ _); k_dflt (first
    | (refine' Calls.use (is_sym_ _ _ _ _ _ _ _ ?m1) ?k1 ?k2 ?k3 ?k4 ?k5 ?kK ?kd ?ku ?_; (case k1 => k_asm); (case k2 => k_asm); (case k3 => k_asm); (case k4 => k_asm); (case m1 => k_mem); (case k5 => k_asm); (case kK => first | exact rfl | assumption); (case kd => ktr_room); (case ku => ktr_units); intro r9 n9 h9 t9 F9 N9 ho9; (obtain ⟨e1, e2⟩ := ho9; subst e1; subst e2); (try k_sweep))))
  k_with "call ref" => (k_here; (with_reducible show wpAny _ _ (call (Value.ref 21) _) _ _ _); k_dflt (first
    | (refine' Calls.use (is_expr_two _ _ _ _ _ _ _ _ _ ?m2 ?m1) ?k1 ?k2 ?k3 ?k4 ?k5 ?kK ?kd ?ku ?_; (case k1 => k_asm); (case k2 => k_asm); (case k3 => k_asm); (case k4 => k_asm); (case m1 => k_mem); (case m2 => decide); (case k5 => k_asm); (case kK => first | exact rfl | assumption); (case kd => ktr_room); (case ku => ktr_units); intro r9 n9 h9 t9 F9 N9 ho9; (obtain ⟨e1, e2⟩ := ho9; subst e1; subst e2); (try k_sweep))
    | (refine' Calls.use (is_expr_ne _ _ _ _ _ _ _ _ _ _ ?m2 ?m1) ?k1 ?k2 ?k3 ?k4 ?k5 ?kK ?kd ?ku ?_; (case k1 => k_asm); (case k2 => k_asm); (case k3 => k_asm); (case k4 => k_asm); (case m1 => k_mem); (case m2 => first | assumption | decide); (case k5 => k_asm); (case kK => first | exact rfl | assumption); (case kd => ktr_room); (case ku => ktr_units); intro r9 n9 h9 t9 F9 N9 ho9; (obtain ⟨e1, e2⟩ := ho9; subst e1; subst e2); (try k_sweep))
    | (refine' Calls.use (is_expr_expr _ _ _ _ _ _ _ _ _ _ ?m1) ?k1 ?k2 ?k3 ?k4 ?k5 ?kK ?kd ?ku ?_; (case k1 => k_asm); (case k2 => k_asm); (case k3 => k_asm); (case k4 => k_asm); (case m1 => k_mem); (case k5 => k_asm); (case kK => first | exact rfl | assumption); (case kd => ktr_room); (case ku => ktr_units); intro r9 n9 h9 t9 F9 N9 ho9; (obtain ⟨e1, e2⟩ := ho9; subst e1; subst e2); (try k_sweep))
    | (refine' Calls.use (is_expr_tree _ _ ?mt _ _ _ ?m1 ?m2) ?k1 ?k2 ?k3 ?k4 ?k5 ?kK ?kd ?ku ?_; (case k1 => k_asm); (case k2 => k_asm); (case k3 => k_asm); (case k4 => k_asm); (case m1 => (first | assumption | exact TreeIn.mono (fun _ h => .tail _ (.tail _ h)) _ _ (by assumption) | exact TreeIn.mono (fun _ h => .tail _ (.tail _ (.tail _ h))) _ _ (by assumption) | exact TreeIn.mono (fun _ h => .tail _ (.tail _ (.tail _ (.tail _ h)))) _ _ (by assumption) | exact TreeIn.mono (fun _ h => .tail _ (.tail _ (.tail _ (.tail _ (.tail _ h))))) _ _ (by assumption))); (case m2 => decide); (case k5 => k_asm); (case kK => first | exact rfl | assumption); (case kd => ktr_room); (case ku => ktr_units); intro r9 n9 h9 t9 F9 N9 ho9; (obtain ⟨e1, e2⟩ := ho9; subst e1; subst e2); (try k_sweep))))
  k_with "call ref" => (k_here; (with_reducible show wpAny _ _ (call (Value.ref 141) _) _ _ _); k_dflt (first
    | (rename AtSpec _ _ => hA9; (refine' Calls.use (hA9 _ _ _ _ _ _ _ _ _ _ _ ?m1 ?m2 ?m3 ?m4 ?m5 ?m6 ?m7) ?k1 ?k2 ?k3 ?k4 ?k5 ?kK ?kd ?ku ?_; (case k1 => k_asm); (case k2 => k_asm); (case k3 => k_asm); (case k4 => (first | k_asm | exact rot1 (by k_asm) | exact rot2 (by k_asm) | exact rot3 (by k_asm) | exact rot4 (by k_asm) | exact rot5 (by k_asm) | exact rot6 (by k_asm) | exact rot7 (by k_asm) | exact rot8 (by k_asm) | exact rot9 (by k_asm))); (case m1 => (first | assumption | exact TreeIn.mono (fun _ h => .tail _ h) _ _ (by assumption) | exact TreeIn.mono (fun _ h => .tail _ (.tail _ h)) _ _ (by assumption) | exact TreeIn.mono (fun _ h => .tail _ (.tail _ (.tail _ h))) _ _ (by assumption) | exact TreeIn.mono (fun _ h => .tail _ (.tail _ (.tail _ (.tail _ h)))) _ _ (by assumption) | exact TreeIn.mono (fun _ h => .tail _ (.tail _ (.tail _ (.tail _ (.tail _ h))))) _ _ (by assumption) | exact TreeIn.mono (fun _ h => .tail _ (.tail _ (.tail _ (.tail _ (.tail _ (.tail _ h)))))) _ _ (by assumption) | exact TreeIn.mono (fun _ h => .tail _ (.tail _ (.tail _ (.tail _ (.tail _ (.tail _ (.tail _ h))))))) _ _ (by assumption) | exact TreeIn.mono (fun _ h => .tail _ (.tail _ (.tail _ (.tail _ (.tail _ (.tail _ (.tail _ (.tail _ h)))))))) _ _ (by assumption) | exact TreeIn.mono (fun _ h => .tail _ (.tail _ (.tail _ (.tail _ (.tail _ (.tail _ (.tail _ (.tail _ (.tail _ h))))))))) _ _ (by assumption))); (case m2 => assumption); (case m3 => assumption); (case m4 => assumption); (case m5 => assumption); (case m6 => (first | assumption | exact all_cons1 (neN (by omega)) (by assumption) | exact all_cons1 (neN (by omega)) (all_cons1 (neN (by omega)) (by assumption)) | exact all_cons1 (neN (by omega)) (all_cons1 (neN (by omega)) (all_cons1 (neN (by omega)) (by assumption))) | exact all_cons1 (neN (by omega)) (all_cons1 (neN (by omega)) (all_cons1 (neN (by omega)) (all_cons1 (neN (by omega)) (by assumption)))) | exact all_cons1 (neN (by omega)) (all_cons1 (neN (by omega)) (all_cons1 (neN (by omega)) (all_cons1 (neN (by omega)) (all_cons1 (neN (by omega)) (by assumption))))) | exact all_cons1 (neN (by omega)) (all_cons1 (neN (by omega)) (all_cons1 (neN (by omega)) (all_cons1 (neN (by omega)) (all_cons1 (neN (by omega)) (all_cons1 (neN (by omega)) (by assumption)))))) | exact all_cons1 (neN (by omega)) (all_cons1 (neN (by omega)) (all_cons1 (neN (by omega)) (all_cons1 (neN (by omega)) (all_cons1 (neN (by omega)) (all_cons1 (neN (by omega)) (all_cons1 (neN (by omega)) (by assumption))))))) | exact all_cons1 (neN (by omega)) (all_cons1 (neN (by omega)) (all_cons1 (neN (by omega)) (all_cons1 (neN (by omega)) (all_cons1 (neN (by omega)) (all_cons1 (neN (by omega)) (all_cons1 (neN (by omega)) (all_cons1 (neN (by omega)) (by assumption)))))))) | exact all_cons1 (neN (by omega)) (all_cons1 (neN (by omega)) (all_cons1 (neN (by omega)) (all_cons1 (neN (by omega)) (all_cons1 (neN (by omega)) (all_cons1 (neN (by omega)) (all_cons1 (neN (by omega)) (all_cons1 (neN (by omega)) (all_cons1 (neN (by omega)) (by assumption))))))))))); (case m7 => decide); (case k5 => k_asm); (case kK => first | exact rfl | assumption); (case kd => ktr_room); (case ku => ktr_units); intro r9 n9 h9 t9 F9 N9 ho9; (obtain ⟨t19, t29, tk9, e1, e2⟩ := ho9; subst e1; subst e2); (try k_sweep)))))
  k_with "compareOp Eq ref ref" => (k_here; k_dflt (first
    | (refine' eq_tups ?N ?u ?m1 ?m2 ?_; (case N => k_asm); (case u => ktr_units); (case m1 => k_mem); (case m2 => k_mem); k_whole)
    | (refine' eq_syms ?N ?u ?m1 ?m2 ?e ?_; (case N => k_asm); (case u => ktr_units); (case m1 => k_mem); (case m2 => k_mem); (case e => first | decide | exact plain_ne (by assumption) _ (by decide)); k_whole)
    | (refine' eq_int_sym ?N ?u ?m1 ?m2 ?_; (case N => k_asm); (case u => ktr_units); (case m1 => k_mem); (case m2 => k_mem); k_whole)))
  k_with "compareOp NotEq ref ref" => (k_here; k_dflt (first
    | (refine' ne_nil0 ?N ?u ?m1 ?m2 ?_; (case N => k_asm); (case u => ktr_units); (case m1 => k_mem); (case m2 => first | exact isTuple_of (by k_asm) (by k_mem)); k_whole)
    | (refine' ne_cons ?N ?u ?m1 ?m2 ?_; (case N => k_asm); (case u => ktr_units); (case m1 => k_mem); (case m2 => first | exact isTuple_of (by k_asm) (by k_mem)); k_whole)))
  k_with "subscriptTail" => (k_here; (with_reducible show wpAny _ _ (subscriptTail _ _ (Value.ref _) (Value.ref _)) _ _ _); (with_unfolding_all refine' slice1 ?F ?N ?m1 ?z ?_ ?hs ?hg; (case F => k_asm); (case N => k_asm); (case m1 => k_mem); (case z => (first | decide | omega | (simp only [List.length_cons, List.length_nil]; omega))); (case hs => exact rfl); (case hg => intro _; exact rfl); k_whole); intro q9 h9 F9 N9 l9; (try k_lt l9); (try k_sweep))
  k_with "subscriptTail" => (k_here; (with_reducible show wpAny _ _ (subscriptTail _ _ (Value.ref _) (Value.int 0 _)) _ _ _); (with_unfolding_all refine' item_first ?N ?m ?_ ?hs; (case N => k_asm); (case m => k_mem); (case hs => exact rfl); k_whole))
  k_with "subscriptTail" => (k_here; (with_reducible show wpAny _ _ (subscriptTail _ _ (Value.ref _) (Value.int 1 _)) _ _ _); (with_unfolding_all refine' item_second ?N ?m ?_ ?hs; (case N => k_asm); (case m => k_mem); (case hs => exact rfl); k_whole))
  k_with "call builtin:len" => (k_here; (with_reducible show wpAny _ _ (call (Value.builtin "len") [Value.ref _]) _ _ _); k_dflt (refine' len_tup ?N ?m ?z ?e ?_; (case N => k_asm); (case m => k_mem); (case z => (first | decide | omega | (simp only [List.length_cons, List.length_nil]; omega))); (case e => first | (simp only [List.length_cons, List.length_nil, Nat.zero_add, Nat.reduceAdd]; exact rfl) | exact rfl); k_whole))
  k_with "eval Name" => (k_here; (with_reducible show wpAny _ _ (eval (Expr.Name _ _) (compEnvC _ _ _ _)) _ _ _); k_dflt (first
    | (refine' comp_local ?n ?v ?_ ?a ?b ?d; (case n => k_asm); (case v => first | assumption | exact rfl); (case a => exact rfl); (case b => exact rfl); (case d => decide); k_whole)
    | (refine' comp_cell ?N ?c ?m ?d ?_ ?a ?b ?e; (case N => k_asm); (case c => exact rfl); (case m => k_mem); (case d => first | assumption | exact rfl); (case a => exact rfl); (case b => exact rfl); (case e => decide); k_whole)
    | (refine' nameG_K ?F ?X ?T ?e ?_ ?g ?k ?x ?d; (case F => k_asm); (case X => k_asm); (case T => k_asm); (case e => k_is); (case g => exact rfl); (case k => exact rfl); (case x => exact rfl); (case d => decide); k_whole)))
  k_with "eval Call Attribute" => (k_here; (with_reducible show wpAny _ _ (eval (Expr.Call (Expr.Attribute _ _ _) _ _ _) _) _ _ _); k_dflt (refine MethodCall_ ?_))
  k_with "eval ListComp" => (k_here; k_dflt ((refine' comp_inv ?c1 ?c2 ?c3 ?c4 ?c5 ?_ ?c6); (case c1 => with_unfolding_all exact rfl); (case c2 => decide); (case c3 => exact rfl); (case c4 => decide); (case c5 => exact rfl); (case c6 => intro _; exact rfl); k_whole))
  k_with "call builtin:str.join" => (k_here; (with_reducible show wpAny _ _ (call (Value.builtin "str.join") [Value.str _ _, Value.ref _]) _ _ _); (with_reducible rename StrsAre _ _ => hS9); k_dflt (refine' join_mine (News.isList ?N ?m) ?i ?k ?_; (case N => k_asm); (case m => k_mem); (case i => simpa using hS9); (case k => assumption)); intro t9 k9)
  k_with "subscriptTail Name Constant ref int" => (k_here; (with_reducible show wpAny _ _ (subscriptTail _ _ (Value.ref _) (Value.int 0 _)) _ _ _); (with_unfolding_all refine' litem_first ?N ?m ?_ ?hs ?hg; (case N => k_asm); (case m => k_mem); (case hs => exact rfl); (case hg => intro _; exact rfl); k_whole))
  k_with "subscriptTail Name Constant ref int" => (k_here; (with_reducible show wpAny _ _ (subscriptTail _ _ (Value.ref _) (Value.int 1 _)) _ _ _); (with_unfolding_all refine' litem_second ?N ?m ?_ ?hs ?hg; (case N => k_asm); (case m => k_mem); (case hs => exact rfl); (case hg => intro _; exact rfl); k_whole))
  k_with "call type:tuple" => (k_here; (with_reducible show wpAny _ _ (call (Value.type _) [Value.ref _]) _ _ _); k_dflt (refine' kde_tupleOf ?k1 ?k2 ?k3 ?k4 ?k5 ?_; (case k1 => k_asm); (case k2 => k_asm); (case k3 => exact News.isList (by k_asm) (by k_mem)); (case k4 => (simp only [List.size_toArray]; omega)); (case k5 => exact rfl); k_whole); intro D' h' F' N' l1; (try k_lt l1); (try k_sweep))
  k_with "call ref" => (k_here; (with_reducible show wpAny _ _ (call (Value.ref 366) _) _ _ _); k_dflt (first
    | (refine' Calls.use (tool_ _ _ _ ?m1 _ _ _ _ _ ?m2 _ ?m3 ?m4 _) ?k1 ?k2 ?k3 ?k4 ?k5 ?kK ?kd ?ku ?_; (case k1 => k_asm); (case k2 => k_asm); (case k3 => k_asm); (case k4 => (first | k_asm | exact rotA1 (by k_asm) | exact rotA2 (by k_asm) | exact rotA3 (by k_asm) | exact rotA4 (by k_asm) | exact rotA5 (by k_asm) | exact rotA6 (by k_asm) | exact rotA7 (by k_asm) | exact rotA8 (by k_asm) | exact rotA9 (by k_asm))); (case m1 => (first | assumption | exact all_cons1 (neN (by omega)) (by assumption) | exact all_cons1 (neN (by omega)) (all_cons1 (neN (by omega)) (by assumption)) | exact all_cons1 (neN (by omega)) (all_cons1 (neN (by omega)) (all_cons1 (neN (by omega)) (by assumption))) | exact all_cons1 (neN (by omega)) (all_cons1 (neN (by omega)) (all_cons1 (neN (by omega)) (all_cons1 (neN (by omega)) (by assumption)))) | exact all_cons1 (neN (by omega)) (all_cons1 (neN (by omega)) (all_cons1 (neN (by omega)) (all_cons1 (neN (by omega)) (all_cons1 (neN (by omega)) (by assumption))))) | exact all_cons1 (neN (by omega)) (all_cons1 (neN (by omega)) (all_cons1 (neN (by omega)) (all_cons1 (neN (by omega)) (all_cons1 (neN (by omega)) (all_cons1 (neN (by omega)) (by assumption)))))) | exact all_cons1 (neN (by omega)) (all_cons1 (neN (by omega)) (all_cons1 (neN (by omega)) (all_cons1 (neN (by omega)) (all_cons1 (neN (by omega)) (all_cons1 (neN (by omega)) (all_cons1 (neN (by omega)) (by assumption))))))) | exact all_cons1 (neN (by omega)) (all_cons1 (neN (by omega)) (all_cons1 (neN (by omega)) (all_cons1 (neN (by omega)) (all_cons1 (neN (by omega)) (all_cons1 (neN (by omega)) (all_cons1 (neN (by omega)) (all_cons1 (neN (by omega)) (by assumption)))))))) | exact all_cons1 (neN (by omega)) (all_cons1 (neN (by omega)) (all_cons1 (neN (by omega)) (all_cons1 (neN (by omega)) (all_cons1 (neN (by omega)) (all_cons1 (neN (by omega)) (all_cons1 (neN (by omega)) (all_cons1 (neN (by omega)) (all_cons1 (neN (by omega)) (by assumption))))))))))); (case m2 => assumption); (case m3 => first | decide | omega); (case m4 => first | decide | omega); (case k5 => k_asm); (case kK => first | exact rfl | assumption); (case kd => ktr_room); (case ku => ktr_units); intro r9 n9 h9 t9 F9 N9 ho9; (obtain ⟨a9, b9, r9, t19, t29, e9, tk9, e1, e2, hk9, hr9, hs9⟩ := ho9; subst e1; subst e2); (try k_sweep))))
  k_with "call ref" => (k_here; (with_reducible show wpAny _ _ (call (Value.ref 373) _) _ _ _); k_dflt (first
    | (refine' Calls.use (expr_ _ _ _ _ ?m1 _ ?m2 _ _) ?k1 ?k2 ?k3 ?k4 ?k5 ?kK ?kd ?ku ?_; (case k1 => k_asm); (case k2 => k_asm); (case k3 => k_asm); (case k4 => k_asm); (case m2 => k_mem); (case m1 => first | assumption | omega | (simp; done) | (simp; omega)); (case k5 => k_asm); (case kK => first | exact rfl | assumption); (case kd => ktr_room); (case ku => ktr_units); intro r9 n9 h9 t9 F9 N9 ho9; (obtain ⟨p9, x9, tk9, e1, e2, hn9, hn19, hn29⟩ := ho9; subst e1; subst e2); (try k_sweep))))
  k_with "call ref" => (k_here; (with_reducible show wpAny _ _ (call (Value.ref 378) _) _ _ _); k_dflt (first
    | (rename TreeI _ _ _ _ _ => hI9; (refine' Calls.use (hI9 _ _ _ _ _ _ _ _ ?m1 ?m2) ?k1 ?k2 ?k3 ?k4 ?k5 ?kK ?kd ?ku ?_; (case k1 => k_asm); (case k2 => k_asm); (case k3 => k_asm); (case k4 => (first | k_asm | exact rotA1 (by k_asm) | exact rotA2 (by k_asm) | exact rotA3 (by k_asm) | exact rotA4 (by k_asm) | exact rotA5 (by k_asm) | exact rotA6 (by k_asm) | exact rotA7 (by k_asm) | exact rotA8 (by k_asm) | exact rotA9 (by k_asm))); (case m1 => assumption); (case m2 => (first | assumption | exact all_cons1 (neN (by omega)) (by assumption) | exact all_cons1 (neN (by omega)) (all_cons1 (neN (by omega)) (by assumption)) | exact all_cons1 (neN (by omega)) (all_cons1 (neN (by omega)) (all_cons1 (neN (by omega)) (by assumption))) | exact all_cons1 (neN (by omega)) (all_cons1 (neN (by omega)) (all_cons1 (neN (by omega)) (all_cons1 (neN (by omega)) (by assumption)))) | exact all_cons1 (neN (by omega)) (all_cons1 (neN (by omega)) (all_cons1 (neN (by omega)) (all_cons1 (neN (by omega)) (all_cons1 (neN (by omega)) (by assumption))))) | exact all_cons1 (neN (by omega)) (all_cons1 (neN (by omega)) (all_cons1 (neN (by omega)) (all_cons1 (neN (by omega)) (all_cons1 (neN (by omega)) (all_cons1 (neN (by omega)) (by assumption)))))) | exact all_cons1 (neN (by omega)) (all_cons1 (neN (by omega)) (all_cons1 (neN (by omega)) (all_cons1 (neN (by omega)) (all_cons1 (neN (by omega)) (all_cons1 (neN (by omega)) (all_cons1 (neN (by omega)) (by assumption))))))) | exact all_cons1 (neN (by omega)) (all_cons1 (neN (by omega)) (all_cons1 (neN (by omega)) (all_cons1 (neN (by omega)) (all_cons1 (neN (by omega)) (all_cons1 (neN (by omega)) (all_cons1 (neN (by omega)) (all_cons1 (neN (by omega)) (by assumption)))))))) | exact all_cons1 (neN (by omega)) (all_cons1 (neN (by omega)) (all_cons1 (neN (by omega)) (all_cons1 (neN (by omega)) (all_cons1 (neN (by omega)) (all_cons1 (neN (by omega)) (all_cons1 (neN (by omega)) (all_cons1 (neN (by omega)) (all_cons1 (neN (by omega)) (by assumption))))))))))); (case k5 => k_asm); (case kK => first | exact rfl | assumption); (case kd => ktr_room); (case ku => ktr_units); intro r9 n9 h9 t9 F9 N9 ho9; (obtain ⟨a9, b9, t19, t29, e9, tl9, T9, e1, hk9, hT9, hW9, hh9, hc9, hn9, ho19⟩ := ho9; subst e1); (try k_sweep)))))
  k_with "exec Assign cons ListComp" => (k_here; k_dflt (first | ((refine' comp_invA ?hsw ?hy ?hp ?c1 ?c2 ?c3 ?c4 ?c5 ?_ ?c6); (case hsw => with_unfolding_all exact rfl); (case hy => exact rfl); (case hp => exact rfl); (case c1 => with_unfolding_all exact rfl); (case c2 => decide); (case c3 => exact rfl); (case c4 => decide); (case c5 => exact rfl); (case c6 => intro _; exact rfl); k_whole) | refine Stop.elim ?_))
  k_with "subscriptTail" => (k_here; (with_reducible show wpAny _ _ (subscriptTail _ _ (Value.ref _) (Value.int _ _)) _ _ _); (with_unfolding_all refine' litem_pick ?N ?m ?h0 ?h1 ?_ ?hs ?hg; (case N => k_asm); (case m => k_mem); (case h0 => assumption); (case h1 => assumption); (case hs => exact rfl); (case hg => intro _; exact rfl); k_whole); intro y9 ty9 hy9)
  k_with "binaryOp Add ref ref" => (k_here; (with_reducible show wpAny _ _ (binaryOp _ (Value.ref _) (Value.ref _)) _ _ _); k_dflt (refine' add_one ?F ?N ?a ?b ?z ?_; (case F => k_asm); (case N => k_asm); (case a => k_mem); (case b => k_mem); (case z => omega); k_whole); intro q9 h9 F9 N9 l9; (try k_lt l9); (try k_sweep))
  k_with "call type:range" => (k_here; (with_reducible show wpAny _ _ (call (Value.type _) [Value.int _ _]) _ _ _); refine Stop.elim ?_)
  trivial
theorem tree0 (w : World) (rest : List (Addr × Obj)) (ka : Addr) (hall : ∀ p ∈ rest, p.1 ≠ ka) (a b : Int) (t1 t2 e : Nat) (h : KitOk a b) (tk : Nat) :
  Calls w 378 [.ref ka, .int 0 tk] 3 60 (kst ka a b t1 t2 e rest) (TreePost ka rest 0) := by
  unfold Calls; k_fill
  intro mean mg mb dp un gd cn cs a ccd cl outer A₀ base h₀ L m st R B F X N T hk hdp hun hret
  k_dflt (refine' code_defC ?k1 ?k2 ?k3 ?k4 ?k5 ?kA ?kF ?kK ?k6 ?k7 ?k8 ?k9 ?kB ?kD ?_ ?c2 ?c3 ?c4; (case kA => exact rfl); (case kF => exact rfl); (case kK => assumption); (case k1 => k_asm); (case k2 => k_asm); (case k3 => k_asm); (case k4 => k_asm); (case k5 => k_asm); (case k6 => k_is); (case k7 => k_is); (case k8 => ktr_room); (case k9 => exact BindsTo.of_eq rfl); (case kB => exact rfl); (case kD => decide +kernel); (case c2 => exact rfl); (case c3 => exact rfl); (case c4 => exact rfl); k_whole; intro g' L' h' tk' cells' FG' F' N' Y' B' X' T' l1; (try k_lt l1); (have hY := CellsAre.two Y'); (obtain ⟨oc, oc2, hE, dc, dc2⟩ := hY); subst hE; (try simp only [List.cons_append, List.nil_append] at N'); (try dsimp only); (try k_fold))
  k_steps
  · obtain ⟨nx, N8, P8⟩ := sym_post (k := 0) (by k_asm) (by assumption) (by assumption) hall (by assumption)
    exact hret _ nx _ _ (by k_asm) N8 P8
  · obtain ⟨nx, N8, P8⟩ := int_post (k := 0) (by k_asm) (by assumption) (by assumption) (by assumption) hall (by assumption)
    exact hret _ nx _ _ (by k_asm) N8 P8
  · exfalso; omega
theorem tree1 (w : World) (rest : List (Addr × Obj)) (ka : Addr) (hall : ∀ p ∈ rest, p.1 ≠ ka) (a b : Int) (t1 t2 e : Nat) (h : KitOk a b) (tk : Nat) (hi : Int) (k need ku : Nat) (hhi : 0 < hi) (hI : TreeI w (hi - 1) k need ku) :
  Calls w 378 [.ref ka, .int hi tk] (need + 3) (ku + 40) (kst ka a b t1 t2 e rest) (TreePost ka rest (k + 1)) := by
  unfold Calls; k_fill
  intro mean mg mb dp un gd cn cs a ccd cl outer A₀ base h₀ L m st R B F X N T hk hdp hun hret
  k_dflt (refine' code_defC ?k1 ?k2 ?k3 ?k4 ?k5 ?kA ?kF ?kK ?k6 ?k7 ?k8 ?k9 ?kB ?kD ?_ ?c2 ?c3 ?c4; (case kA => exact rfl); (case kF => exact rfl); (case kK => assumption); (case k1 => k_asm); (case k2 => k_asm); (case k3 => k_asm); (case k4 => k_asm); (case k5 => k_asm); (case k6 => k_is); (case k7 => k_is); (case k8 => ktr_room); (case k9 => exact BindsTo.of_eq rfl); (case kB => exact rfl); (case kD => decide +kernel); (case c2 => exact rfl); (case c3 => exact rfl); (case c4 => exact rfl); k_whole; intro g' L' h' tk' cells' FG' F' N' Y' B' X' T' l1; (try k_lt l1); (have hY := CellsAre.two Y'); (obtain ⟨oc, oc2, hE, dc, dc2⟩ := hY); subst hE; (try simp only [List.cons_append, List.nil_append] at N'); (try dsimp only); (try k_fold))
  k_steps
  · obtain ⟨nx, N8, P8⟩ := sym_post (k := k + 1) (by k_asm) (by assumption) (by assumption) hall (by assumption)
    exact hret _ nx _ _ (by k_asm) N8 P8
  · obtain ⟨nx, N8, P8⟩ := int_post (k := k + 1) (by k_asm) (by assumption) (by assumption) (by assumption) hall (by assumption)
    exact hret _ nx _ _ (by k_asm) N8 P8
  · obtain ⟨nx, N8, P8⟩ := dot_post (k := k) (by k_asm) (by assumption) (by assumption) (by assumption) (by assumption) (by assumption) (by assumption) (by assumption) (by assumption) (by assumption) (by assumption)
    exact hret _ nx _ _ (by k_asm) N8 P8
  · refine Stop.mk ?_
    refine comp_range1A rfl rfl (by k_asm) (by k_asm) (by assumption) (by assumption) (TreeJ ka ((L' + 1 + 1, oc) :: (L' + 1, oc2) :: rest) k) (TreeJ.nil (by assumption) (all_cons1 (neN (by omega)) (all_cons1 (neN (by omega)) hall))) ?_ ?_
    · rintro i v ys nx own C h3 tk3 E' hi3 ⟨a3, b3, u3, w3, e3, tl, ts, rfl, hk3, hF3, hW3, hl3, hh3, hc3, hn3, ho3⟩ off F3 N3 ⟨mC, hnC, hmC⟩
      have N4 : News g' L' h3 (kst ka a3 b3 u3 w3 e3 (tl ++ ((L' + 1 + 1, oc) :: (L' + 1, oc2) :: (rest ++ own)))) := fun z hz => N3 z (by simpa [List.append_assoc] using hz)
      have hall3 : ∀ p ∈ tl ++ ((L' + 1 + 1, oc) :: (L' + 1, oc2) :: (rest ++ own)), p.1 ≠ ka := by
        intro p hp
        rcases List.mem_append.mp hp with hp | hp
        · exact hn3 p (List.mem_append_left _ hp)
        · rcases List.mem_cons.mp hp with rfl | hp
          · exact hn3 _ (List.mem_append_right _ (.head _))
          · rcases List.mem_cons.mp hp with rfl | hp
            · exact hn3 _ (List.mem_append_right _ (.tail _ (.head _)))
            · rcases List.mem_append.mp hp with hp | hp
              · exact hall p hp
              · exact Ne.symm (off _ (.head _) p hp)
      clear N3
      k_steps
      obtain ⟨nx, N8, o8, J8⟩ := turn_post (k := k) (by k_asm) (by assumption) (by assumption) (by assumption) (by assumption) (by assumption) (by assumption) (by assumption) off hF3 hW3 hl3 hh3 hc3 ho3
      exact ⟨_, _, nx, rfl, by k_asm, N8, o8, J8⟩
    · rintro ys nx D e4 h3 tk3 ⟨a3, b3, u3, w3, e3, tl, ts, rfl, hk3, hF3, hW3, hl3, hh3, hc3, hn3, ho3⟩ F3 N3 off
      have hD : @Ne Nat ka D := off _ (.head _)
      have h33 : ts.length ≤ 3 := by rw [hl3]; omega
      have hy3 : ys.length ≤ 3 := by rw [hF3.length]; exact h33
      k_steps
      · obtain ⟨nx, N8, P8⟩ := call_post (hd := .call) (k := k) (.inr (.inr (.inl rfl))) (fun qs => ⟨qs, rfl⟩) (by k_asm) hk3 hF3 hW3 rfl h33 hh3 (hl3 ▸ hc3) hn3 ho3 (by assumption) (by assumption) (by assumption)
        exact hret _ nx _ _ (by k_asm) N8 P8
      · obtain ⟨nx, N8, P8⟩ := tup_post (k := k) (by assumption) (by k_asm) (by assumption) hF3 hW3 rfl h33 hh3 (hl3 ▸ hc3) hn3 ho3 (by assumption) (by assumption)
        exact hret _ nx _ _ (by k_asm) N8 P8
      · obtain ⟨nx, N8, P8⟩ := call_post (hd := .ref) (k := k) (.inr (.inr (.inr (.inl rfl)))) (fun qs => ⟨qs, rfl⟩) (by k_asm) hk3 hF3 hW3 rfl h33 hh3 (hl3 ▸ hc3) hn3 ho3 (by assumption) (by assumption) (by assumption)
        exact hret _ nx _ _ (by k_asm) N8 P8
mutual
/-- with levels to spare the text does not hang on their number -/
theorem txt_stable : ∀ (t : T) (k k' r : Nat), height t ≤ k → height t ≤ k' → txt t k r = txt t k' r
  | .sym s, k, k', r, h, h' => by
    rw [height] at h h'
    rw [txt, txt]
    by_cases hr : r = 0
    · rw [if_pos (.inl hr), if_pos (.inl hr)]
    · rw [if_neg (by omega), if_neg (by omega)]
  | .int s, k, k', r, h, h' => by
    rw [height] at h h'
    rw [txt, txt]
    by_cases hr : r = 0
    · rw [if_pos (.inl hr), if_pos (.inl hr)]
    · rw [if_neg (by omega), if_neg (by omega)]
  | .dot t, k, k', r, h, h' => by
    rw [height] at h h'
    rw [txt, txt]
    by_cases hr : r = 0
    · rw [if_pos (.inl hr), if_pos (.inl hr)]
    · rw [if_neg (by omega), if_neg (by omega), txt_stable t (k - 1) (k' - 1) (r - 1) (by omega) (by omega)]
  | .node hd ps, k, k', r, h, h' => by
    rw [height] at h h'
    rw [txt, txt]
    by_cases hr : r = 0
    · rw [if_pos (.inl hr), if_pos (.inl hr)]
    · rw [if_neg (by omega), if_neg (by omega), txts_stable ps (k - 1) (k' - 1) (r - 1) (by omega) (by omega)]
theorem txts_stable : ∀ (ps : List T) (k k' r : Nat), heights ps ≤ k → heights ps ≤ k' → txts ps k r = txts ps k' r
  | [], k, k', r, _, _ => by rw [txts, txts]
  | t :: ps, k, k', r, h, h' => by
    rw [heights] at h h'
    rw [txts, txts, txt_stable t k k' r (by omega) (by omega), txts_stable ps k k' _ (by omega) (by omega)]
end
/-- does a text hold two full stops in a row -/
def hasDots (s : Str) : Prop := ∃ a b : Str, s = a ++ dots ++ b
mutual
/-- room enough: nothing is left out -/
theorem txt_room : ∀ (t : T) (k r : Nat), height t ≤ k → count t ≤ r → (txt t k r).2 = r - count t
  | .sym s, k, r, h, hc => by rw [height] at h; rw [count] at hc; rw [txt, if_neg (by omega), count]
  | .int s, k, r, h, hc => by rw [height] at h; rw [count] at hc; rw [txt, if_neg (by omega), count]
  | .dot t, k, r, h, hc => by
    rw [height] at h; rw [count] at hc
    rw [txt, if_neg (by omega), count]
    have := txt_room t (k - 1) (r - 1) (by omega) (by omega)
    simp only [this]; omega
  | .node hd ps, k, r, h, hc => by
    rw [height] at h; rw [count] at hc
    rw [txt, if_neg (by omega), count]
    have := txts_room ps (k - 1) (r - 1) (by omega) (by omega)
    simp only [this]; omega
theorem txts_room : ∀ (ps : List T) (k r : Nat), heights ps ≤ k → counts ps ≤ r → (txts ps k r).2 = r - counts ps
  | [], k, r, _, _ => by rw [txts, counts]; rfl
  | t :: ps, k, r, h, hc => by
    rw [heights] at h; rw [counts] at hc
    have h1 := txt_room t k r (by omega) (by omega)
    have h2 := txts_room ps k (txt t k r).2 (by omega) (by omega)
    rw [txts, counts]
    show (txts ps k (txt t k r).2).2 = _
    rw [h2, h1]; omega
end
mutual
/-- too little room: all of it goes -/
theorem txt_none : ∀ (t : T) (k r : Nat), height t ≤ k → r ≤ count t → (txt t k r).2 = 0
  | .sym s, k, r, h, hc => by
    rw [count] at hc; rw [height] at h; rw [txt]; split
    · simp only; omega
    · simp only; omega
  | .int s, k, r, h, hc => by
    rw [count] at hc; rw [height] at h; rw [txt]; split
    · simp only; omega
    · simp only; omega
  | .dot t, k, r, h, hc => by
    rw [count] at hc; rw [height] at h; rw [txt]; split
    · simp only; omega
    · exact txt_none t (k - 1) (r - 1) (by omega) (by omega)
  | .node hd ps, k, r, h, hc => by
    rw [count] at hc; rw [height] at h; rw [txt]; split
    · simp only; omega
    · exact txts_none ps (k - 1) (r - 1) (by omega) (by omega)
theorem txts_none : ∀ (ps : List T) (k r : Nat), heights ps ≤ k → r ≤ counts ps → (txts ps k r).2 = 0
  | [], k, r, _, hc => by rw [counts] at hc; rw [txts]; simp only; omega
  | t :: ps, k, r, h, hc => by
    rw [counts] at hc
    rw [heights] at h
    rw [txts]
    by_cases h1 : r ≤ count t
    · have := txt_none t k r (by omega) h1
      have h2 := txts_le ps k (txt t k r).2
      simp only; omega
    · have := txt_room t k r (by omega) (by omega)
      exact txts_none ps k (txt t k r).2 (by omega) (by rw [this]; omega)
end
def scan : Bool → List Nat → Option Bool
  | p, [] => some p
  | p, c :: l => if c = 46 then (if p = true then none else scan true l) else scan false l
theorem scan_append : ∀ (p : Bool) (a b : List Nat), scan p (a ++ b) = (scan p a).bind fun q => scan q b
  | p, [], b => rfl
  | p, c :: a, b => by
    rw [List.cons_append, scan, scan]
    split
    · split
      · rfl
      · exact scan_append true a b
    · exact scan_append false a b
theorem scan_dd (p : Bool) (a b : List Nat) : scan p (a ++ [46, 46] ++ b) = none := by
  rw [scan_append, scan_append]
  cases scan p a with
  | none => rfl
  | some q => cases q <;> rfl
def Ok (s : Str) : Prop := scan false s.cps.toList = some false
def DD (s : Str) : Prop := ∃ a b : List Nat, s.cps.toList = a ++ [46, 46] ++ b
theorem dots_cps : dots.cps.toList = [46, 46] := by decide
theorem Ok.app {a b : Str} (h : Ok a) (k : Ok b) : Ok (a ++ b) := by
  unfold Ok at *
  rw [cps_toList_append, scan_append, h]
  exact k
theorem Ok.dotu {a : Str} (h : Ok a) : Ok (a ++ Str.ofString "." ++ Str.ofString "u") := by
  unfold Ok at *
  rw [cps_toList_append, cps_toList_append, scan_append, scan_append, h]
  decide
theorem DD.left {a : Str} (h : DD a) (b : Str) : DD (a ++ b) := by
  obtain ⟨x, y, e⟩ := h
  exact ⟨x, y ++ b.cps.toList, by rw [cps_toList_append, e]; simp⟩
theorem DD.right {b : Str} (h : DD b) (a : Str) : DD (a ++ b) := by
  obtain ⟨x, y, e⟩ := h
  exact ⟨a.cps.toList ++ x, y, by rw [cps_toList_append, e]; simp⟩
theorem DD.dots : DD dots := ⟨[], [], by rw [dots_cps]; rfl⟩
theorem take2_drop {l : List Nat} {i : Nat} (h : ((l.drop i).take 2 == [46, 46]) = true) : l = l.take i ++ [46, 46] ++ l.drop (i + 2) := by
  rw [beq_iff_eq] at h
  rw [← h, List.append_assoc, ← List.drop_drop, List.take_append_drop, List.take_append_drop]
theorem contains_ok {s : Str} (h : Ok s) : Txt.contains s dots = false := by
  rw [← Bool.not_eq_true]
  intro hc
  obtain ⟨i, h1, h2⟩ := (PySem.StrLaws.found_iff s dots).mp hc
  rw [PySem.StrLaws.subAt_eq, dots_cps] at h2
  have h3 := take2_drop h2
  unfold Ok at h
  rw [h3, scan_dd] at h
  cases h
theorem contains_dd {s : Str} (h : DD s) : Txt.contains s dots = true := by
  obtain ⟨a, b, e⟩ := h
  refine (PySem.StrLaws.found_iff s dots).mpr ⟨a.length, ?_, ?_⟩
  · have : s.length = s.cps.toList.length := by simp [Str.length]
    have e2 : dots.length = 2 := by decide
    rw [this, e, e2]; simp
  · rw [PySem.StrLaws.subAt_eq, dots_cps, e]
    have e2 : dots.length = 2 := by decide
    simp [e2]
theorem plain_ok {s : Str} (h : PlainName s) : Ok s := by
  unfold Ok
  rcases h with rfl | rfl | rfl | rfl | rfl <;> decide
theorem int_ok {i : Int} (h0 : 0 ≤ i) (h1 : i < 120) : Ok (Str.ofString (toString i)) := by
  have : ∀ k : Fin 120, scan false (Str.ofString (toString ((k.val : Nat) : Int))).cps.toList = some false := by decide +kernel
  have e : i = ((i.toNat : Nat) : Int) := by omega
  unfold Ok
  rw [e]
  exact this ⟨i.toNat, by omega⟩
theorem join_ok {sep : Str} (hs : Ok sep) : ∀ {ts : List Str}, (∀ t ∈ ts, Ok t) → Ok (Str.join sep ts)
  | [], _ => rfl
  | [x], h => h x (.head _)
  | x :: y :: ts, h => Ok.app (Ok.app (h x (.head _)) hs) (join_ok hs fun t ht => h t (.tail _ ht))
theorem join_dd {sep : Str} : ∀ {ts : List Str} {t : Str}, t ∈ ts → DD t → DD (Str.join sep ts)
  | [x], t, h, k => by rw [List.mem_singleton.mp h] at k; exact k
  | x :: y :: ts, t, h, k => by
    show DD (x ++ sep ++ Str.join sep (y :: ts))
    rcases List.mem_cons.mp h with rfl | h
    · exact (k.left sep).left _
    · exact (join_dd h k).right _
theorem glue_ok {h : Hd} {ts : List Str} (k : ∀ t ∈ ts, Ok t) : Ok (glue h ts) := by
  have hc : ∀ us : List Str, (∀ t ∈ us, Ok t) → Ok (commas us) := fun us hu => join_ok (by unfold Ok; decide) hu
  have l1 : Ok (Str.ofString "(") := by unfold Ok; decide
  have l2 : Ok (Str.ofString ")") := by unfold Ok; decide
  have l3 : Ok (Str.ofString "[") := by unfold Ok; decide
  have l4 : Ok (Str.ofString "]") := by unfold Ok; decide
  have l5 : Ok (Str.ofString ",") := by unfold Ok; decide
  have l6 : Ok (Str.ofString "") := by unfold Ok; decide
  cases h with
  | call =>
    cases ts with
    | nil => exact l6
    | cons t ts => exact (((k t (.head _)).app l1).app (hc ts fun t ht => k t (.tail _ ht))).app l2
  | ref =>
    cases ts with
    | nil => exact l6
    | cons t ts => exact (((k t (.head _)).app l3).app (hc ts fun t ht => k t (.tail _ ht))).app l4
  | tup =>
    refine ((l1.app (hc ts k)).app ?_).app l2
    split
    · exact l5
    · exact l6
  | vec => exact (l3.app (hc ts k)).app l4
theorem glue_dd {h : Hd} {ts : List Str} {t : Str} (hm : t ∈ ts) (k : DD t) : DD (glue h ts) := by
  cases h with
  | call =>
    cases ts with
    | nil => cases hm
    | cons u ts =>
      rcases List.mem_cons.mp hm with rfl | hm
      · exact ((k.left _).left _).left _
      · exact DD.left (DD.right (join_dd hm k) _) _
  | ref =>
    cases ts with
    | nil => cases hm
    | cons u ts =>
      rcases List.mem_cons.mp hm with rfl | hm
      · exact ((k.left _).left _).left _
      · exact DD.left (DD.right (join_dd hm k) _) _
  | tup => exact ((DD.right (join_dd hm k) _).left _).left _
  | vec => exact (DD.right (join_dd hm k) _).left _
mutual
theorem txt_ok : ∀ (t : T) (k r : Nat), WF t → height t ≤ k → count t ≤ r → Ok (txt t k r).1
  | .sym s, k, r, w, h, hc => by rw [WF] at w; rw [height] at h; rw [count] at hc; rw [txt, if_neg (by omega)]; exact plain_ok w
  | .int s, k, r, w, h, hc => by rw [WF] at w; rw [height] at h; rw [count] at hc; rw [txt, if_neg (by omega)]; exact int_ok w.1 w.2
  | .dot t, k, r, w, h, hc => by
    rw [WF] at w; rw [height] at h; rw [count] at hc
    rw [txt, if_neg (by omega)]
    exact (txt_ok t (k - 1) (r - 1) w (by omega) (by omega)).dotu
  | .node hd ps, k, r, w, h, hc => by
    rw [WF] at w; rw [height] at h; rw [count] at hc
    rw [txt, if_neg (by omega)]
    exact glue_ok (txts_ok ps (k - 1) (r - 1) w.2.2 (by omega) (by omega))
theorem txts_ok : ∀ (ps : List T) (k r : Nat), WFs ps → heights ps ≤ k → counts ps ≤ r → ∀ s ∈ (txts ps k r).1, Ok s
  | [], k, r, _, _, _ => by rw [txts]; intro s h; cases h
  | t :: ps, k, r, w, h, hc => by
    rw [WFs] at w; rw [heights] at h; rw [counts] at hc
    have h1 := txt_room t k r (by omega) (by omega)
    have h2 := txt_ok t k r w.1 (by omega) (by omega)
    have h3 := txts_ok ps k (txt t k r).2 w.2 (by omega) (by omega)
    rw [txts]
    intro s hs
    rcases List.mem_cons.mp hs with rfl | hs
    · exact h2
    · exact h3 s hs
end
mutual
theorem txt_dd : ∀ (t : T) (k r : Nat), height t ≤ k → r < count t → DD (txt t k r).1
  | .sym s, k, r, h, hc => by rw [count] at hc; rw [txt, if_pos (by omega)]; exact .dots
  | .int s, k, r, h, hc => by rw [count] at hc; rw [txt, if_pos (by omega)]; exact .dots
  | .dot t, k, r, h, hc => by
    rw [height] at h; rw [count] at hc
    rw [txt]; split
    · exact .dots
    · exact ((txt_dd t (k - 1) (r - 1) (by omega) (by omega)).left _).left _
  | .node hd ps, k, r, h, hc => by
    rw [height] at h; rw [count] at hc
    rw [txt]; split
    · exact .dots
    · obtain ⟨s, hs, hd'⟩ := txts_dd ps (k - 1) (r - 1) (by omega) (by omega)
      exact glue_dd hs hd'
theorem txts_dd : ∀ (ps : List T) (k r : Nat), heights ps ≤ k → r < counts ps → ∃ s ∈ (txts ps k r).1, DD s
  | [], k, r, _, hc => by rw [counts] at hc; omega
  | t :: ps, k, r, h, hc => by
    rw [heights] at h; rw [counts] at hc
    rw [txts]
    by_cases h1 : r < count t
    · exact ⟨_, .head _, txt_dd t k r (by omega) h1⟩
    · have h2 := txt_room t k r (by omega) (by omega)
      obtain ⟨s, hs, hd⟩ := txts_dd ps k (txt t k r).2 (by omega) (by omega)
      exact ⟨s, .tail _ hs, hd⟩
end
theorem count_pos (t : T) : 0 < count t := by cases t <;> rw [count] <;> omega
def tall : Nat → T
  | 0 => .sym (Str.ofString "x")
  | n + 1 => .node .call [.sym (Str.ofString "f"), tall n]
def twice : Nat → T
  | 0 => .sym (Str.ofString "x")
  | n + 1 => .node .tup [twice n, twice n]
theorem wf_x : WF (.sym (Str.ofString "x")) := by rw [WF]; exact .inr (.inr (.inr (.inr rfl)))
theorem wf_f : WF (.sym (Str.ofString "f")) := by rw [WF]; exact .inr (.inr (.inl rfl))
theorem tall_wf : ∀ n, WF (tall n)
  | 0 => wf_x
  | n + 1 => by rw [tall, WF]; exact ⟨by simp, ⟨_, rfl⟩, by rw [WFs, WFs, WFs]; exact ⟨wf_f, tall_wf n, trivial⟩⟩
theorem twice_wf : ∀ n, WF (twice n)
  | 0 => wf_x
  | n + 1 => by rw [twice, WF]; exact ⟨by simp, trivial, by rw [WFs, WFs, WFs]; exact ⟨twice_wf n, twice_wf n, trivial⟩⟩
theorem twice_height : ∀ n, height (twice n) = n + 1
  | 0 => by rw [twice, height]
  | n + 1 => by rw [twice, height, heights, heights, heights, twice_height n]; omega
/-- what the text of a doubled tree costs -/
theorem twice_txt : ∀ (n k r : Nat), n < k → ((txt (twice n) k r).1.length + 6 * (txt (twice n) k r).2 ≤ 6 * r + 2) ∧
    cnt 120 (txt (twice n) k r).1.cps.toList + cnt 40 (txt (twice n) k r).1.cps.toList + ((txt (twice n) k r).2 : Nat) = (r : Nat)
  | 0, k, r, h => by
    rw [twice, txt]; split
    · rename_i h0
      have e1 : dots.length = 2 := by decide
      have e2 : cnt 120 dots.cps.toList = 0 := by decide
      have e3 : cnt 40 dots.cps.toList = 0 := by decide
      simp only [e1, e2, e3]; omega
    · have e1 : (Str.ofString "x").length = 1 := by decide
      have e2 : cnt 120 (Str.ofString "x").cps.toList = 1 := by decide
      have e3 : cnt 40 (Str.ofString "x").cps.toList = 0 := by decide
      simp only [e1, e2, e3]; omega
  | n + 1, k, r, h => by
    rw [twice, txt]; split
    · rename_i h0
      have e1 : dots.length = 2 := by decide
      have e2 : cnt 120 dots.cps.toList = 0 := by decide
      have e3 : cnt 40 dots.cps.toList = 0 := by decide
      simp only [e1, e2, e3]; omega
    · have i1 := twice_txt n (k - 1) (r - 1) (by omega)
      have i2 := twice_txt n (k - 1) (txt (twice n) (k - 1) (r - 1)).2 (by omega)
      rw [txts, txts, txts]
      simp only
      have eg : ∀ a b : Str, glue .tup [a, b] = Str.ofString "(" ++ (a ++ Str.ofString ", " ++ b) ++ Str.ofString "" ++ Str.ofString ")" := fun _ _ => rfl
      rw [eg]
      simp only [Str.length_append, cps_toList_append, cnt_append]
      have l1 : (Str.ofString "(").length = 1 := by decide
      have l2 : (Str.ofString ")").length = 1 := by decide
      have l3 : (Str.ofString ", ").length = 2 := by decide
      have l4 : (Str.ofString "").length = 0 := by decide
      have c1 : cnt 120 (Str.ofString "(").cps.toList = 0 := by decide
      have c2 : cnt 120 (Str.ofString ")").cps.toList = 0 := by decide
      have c3 : cnt 120 (Str.ofString ", ").cps.toList = 0 := by decide
      have c4 : cnt 120 (Str.ofString "").cps.toList = 0 := by decide
      have d1 : cnt 40 (Str.ofString "(").cps.toList = 1 := by decide
      have d2 : cnt 40 (Str.ofString ")").cps.toList = 0 := by decide
      have d3 : cnt 40 (Str.ofString ", ").cps.toList = 0 := by decide
      have d4 : cnt 40 (Str.ofString "").cps.toList = 0 := by decide
      simp only [l1, l2, l3, l4, c1, c2, c3, c4, d1, d2, d3, d4]
      omega
theorem words41 : True := by
  k_with_none
  trivial
def CallsL (w : World) (P : Heap → Prop) (f : Addr) (vs : List Value) (need ku : Nat) (news : List (Addr × Obj)) (Post : List (Addr × Obj) → Value → Prop) : Prop :=
  ∀ (mean : ExcName → Option Value) (mg mb : Str → Option Value) (dp un : Nat) (gd : Option (List Code)) (cn : Str) (cs : Scope) (a : Addr) (ccd : Value) (cl : List (Str × Addr)) (outer : List Env) (A₀ : Around) (base h₀ : Heap) (L : Addr) (m : Str → Option Value) (s : Shared)
    (R : Result → Shared → Prop),
    Below A₀ base outer h₀ → Fr h₀ L s.heap m → (hk.heap_1 w.params).In h₀ → News h₀ L s.heap news → Top V LS mean mg mb h₀ → cs.kind = .function →
    dp + need < recursionLimit → un + ku < cLine → P h₀ →
    (∀ r nx h' tk', Fr h₀ L h' m → News h₀ L h' nx → Post nx r → R (.ok (.ret r)) { s with heap := h', toks := tk' }) →
    codeAny (model PySem.Challenge.rw_pc0211_01.row.prog w) (ktrTop dp un gd cn cs L a ccd cl outer) (.call (.ref f) ⟨vs, []⟩) R s
theorem CallsL.use {w : World} {P : Heap → Prop} {f : Addr} {vs : List Value} {need ku : Nat} {news : List (Addr × Obj)} {Post : List (Addr × Obj) → Value → Prop}
    {mean : ExcName → Option Value} {mg mb : Str → Option Value} {dp un : Nat} {gd : Option (List Code)} {cn : Str} {cs : Scope} {a : Addr} {ccd : Value} {cl : List (Str × Addr)} {outer : List Env} {A₀ : Around} {base h₀ : Heap} {L : Addr} {m : Str → Option Value} {s : Shared}
    {Q E : Value → Shared → Prop} (C : CallsL w P f vs need ku news Post)
    (B : Below A₀ base outer h₀) (F : Fr h₀ L s.heap m) (X : (hk.heap_1 w.params).In h₀) (N : News h₀ L s.heap news) (T : Top V LS mean mg mb h₀) (hk : cs.kind = .function) (hd' : dp + need < recursionLimit) (hu : un + ku < cLine) (hP : P h₀)
    (h : ∀ r nx h' tk', Fr h₀ L h' m → News h₀ L h' nx → Post nx r → Q r { s with heap := h', toks := tk' }) :
    wpAny (model PySem.Challenge.rw_pc0211_01.row.prog w) (ktrTop dp un gd cn cs L a ccd cl outer) (call (.ref f) vs) Q E s :=
  wpAny_call (C _ _ _ _ _ _ _ _ _ _ _ _ _ _ _ _ _ _ _ B F X N T hk hd' hu hP h)
theorem tree_all (w : World) : ∀ k : Nat, TreeI w ((k : Nat) : Int) k (3 * k + 3) (40 * k + 60)
  | 0 => fun ka rest a b t1 t2 e tk h hall => (tree0 w rest ka hall a b t1 t2 e h tk).mono (by omega) (by omega)
  | k + 1 => fun ka rest a b t1 t2 e tk h hall => by
    have e1 : ((k + 1 : Nat) : Int) - 1 = ((k : Nat) : Int) := by omega
    have ih := tree_all w k
    rw [← e1] at ih
    exact (tree1 w rest ka hall a b t1 t2 e h tk ((k + 1 : Nat) : Int) k (3 * k + 3) (40 * k + 60) (by omega) ih).mono (by omega) (by omega)
theorem cells_nil {cm : Str → Option Value} {cells : List (Addr × Obj)} (x : CellsAre cm [] cells) : cells = [] := by cases x; rfl
theorem words42 : True := by
  k_with "eval Call" => (k_here; (with_reducible show wpAny _ _ (eval (Expr.Call (Expr.Name _ _) _ _ _) _) _ _ _); k_dflt (refine Call_ ?_))
  k_with "compareOp In str ref" => (k_here; k_dflt (first
    | (refine' in_top ?F ?X ?l ?k ?e ?_; (case F => k_asm); (case X => k_asm); (case l => k_is); (case k => (repeat constructor)); (case e => first | decide | exact plain_any (by assumption) _ (by decide)); k_whole)
    | (refine' in_topT ?F ?X ?l ?k ?e ?_; (case F => k_asm); (case X => k_asm); (case l => k_is); (case k => (repeat constructor)); (case e => decide); k_whole)))
  k_with "call ref" => (k_here; (with_reducible show wpAny _ _ (call (Value.ref 21) _) _ _ _); k_dflt (first
    | (refine' Calls.use (is_expr_two _ _ _ _ _ _ _ _ _ ?m2 ?m1) ?k1 ?k2 ?k3 ?k4 ?k5 ?kK ?kd ?ku ?_; (case k1 => k_asm); (case k2 => k_asm); (case k3 => k_asm); (case k4 => k_asm); (case m1 => k_mem); (case m2 => decide); (case k5 => k_asm); (case kK => first | exact rfl | assumption); (case kd => ktr_room); (case ku => ktr_units); intro r9 n9 h9 t9 F9 N9 ho9; (obtain ⟨e1, e2⟩ := ho9; subst e1; subst e2); (try k_sweep))
    | (refine' Calls.use (is_expr_ne _ _ _ _ _ _ _ _ _ _ ?m2 ?m1) ?k1 ?k2 ?k3 ?k4 ?k5 ?kK ?kd ?ku ?_; (case k1 => k_asm); (case k2 => k_asm); (case k3 => k_asm); (case k4 => k_asm); (case m1 => k_mem); (case m2 => first | assumption | decide); (case k5 => k_asm); (case kK => first | exact rfl | assumption); (case kd => ktr_room); (case ku => ktr_units); intro r9 n9 h9 t9 F9 N9 ho9; (obtain ⟨e1, e2⟩ := ho9; subst e1; subst e2); (try k_sweep))
    | (refine' Calls.use (is_expr_expr _ _ _ _ _ _ _ _ _ _ ?m1) ?k1 ?k2 ?k3 ?k4 ?k5 ?kK ?kd ?ku ?_; (case k1 => k_asm); (case k2 => k_asm); (case k3 => k_asm); (case k4 => k_asm); (case m1 => k_mem); (case k5 => k_asm); (case kK => first | exact rfl | assumption); (case kd => ktr_room); (case ku => ktr_units); intro r9 n9 h9 t9 F9 N9 ho9; (obtain ⟨e1, e2⟩ := ho9; subst e1; subst e2); (try k_sweep))))
  k_with "call ref" => (k_here; (with_reducible show wpAny _ _ (call (Value.ref 28) _) _ _ _); k_dflt (first
    | (refine' Calls.use (parts_of_expr _ _ _ _ _ _ _ _ ?m1) ?k1 ?k2 ?k3 ?k4 ?k5 ?kK ?kd ?ku ?_; (case k1 => k_asm); (case k2 => k_asm); (case k3 => k_asm); (case k4 => k_asm); (case m1 => k_mem); (case k5 => k_asm); (case kK => first | exact rfl | assumption); (case kd => ktr_room); (case ku => ktr_units); intro r9 n9 h9 t9 F9 N9 ho9; (obtain ⟨e1, e2⟩ := ho9; subst e1; subst e2); (try k_sweep))))
  k_with "call ref" => (k_here; (with_reducible show wpAny _ _ (call (Value.ref 35) _) _ _ _); k_dflt (first
    | (refine' Calls.use (is_sym_ _ _ _ _ _ _ _ ?m1) ?k1 ?k2 ?k3 ?k4 ?k5 ?kK ?kd ?ku ?_; (case k1 => k_asm); (case k2 => k_asm); (case k3 => k_asm); (case k4 => k_asm); (case m1 => k_mem); (case k5 => k_asm); (case kK => first | exact rfl | assumption); (case kd => ktr_room); (case ku => ktr_units); intro r9 n9 h9 t9 F9 N9 ho9; (obtain ⟨e1, e2⟩ := ho9; subst e1; subst e2); (try k_sweep))))
  k_with "call ref" => (k_here; (with_reducible show wpAny _ _ (call (Value.ref 21) _) _ _ _); k_dflt (first
    | (refine' Calls.use (is_expr_two _ _ _ _ _ _ _ _ _ ?m2 ?m1) ?k1 ?k2 ?k3 ?k4 ?k5 ?kK ?kd ?ku ?_; (case k1 => k_asm); (case k2 => k_asm); (case k3 => k_asm); (case k4 => k_asm); (case m1 => k_mem); (case m2 => decide); (case k5 => k_asm); (case kK => first | exact rfl | assumption); (case kd => ktr_room); (case ku => ktr_units); intro r9 n9 h9 t9 F9 N9 ho9; (obtain ⟨e1, e2⟩ := ho9; subst e1; subst e2); (try k_sweep))
    | (refine' Calls.use (is_expr_ne _ _ _ _ _ _ _ _ _ _ ?m2 ?m1) ?k1 ?k2 ?k3 ?k4 ?k5 ?kK ?kd ?ku ?_; (case k1 => k_asm); (case k2 => k_asm); (case k3 => k_asm); (case k4 => k_asm); (case m1 => k_mem); (case m2 => first | assumption | decide); (case k5 => k_asm); (case kK => first | exact rfl | assumption); (case kd => ktr_room); (case ku => ktr_units); intro r9 n9 h9 t9 F9 N9 ho9; (obtain ⟨e1, e2⟩ := ho9; subst e1; subst e2); (try k_sweep))
    | (refine' Calls.use (is_expr_expr _ _ _ _ _ _ _ _ _ _ ?m1) ?k1 ?k2 ?k3 ?k4 ?k5 ?kK ?kd ?ku ?_; (case k1 => k_asm); (case k2 => k_asm); (case k3 => k_asm); (case k4 => k_asm); (case m1 => k_mem); (case k5 => k_asm); (case kK => first | exact rfl | assumption); (case kd => ktr_room); (case ku => ktr_units); intro r9 n9 h9 t9 F9 N9 ho9; (obtain ⟨e1, e2⟩ := ho9; subst e1; subst e2); (try k_sweep))
    | (refine' Calls.use (is_expr_tree _ _ ?mt _ _ _ ?m1 ?m2) ?k1 ?k2 ?k3 ?k4 ?k5 ?kK ?kd ?ku ?_; (case k1 => k_asm); (case k2 => k_asm); (case k3 => k_asm); (case k4 => k_asm); (case m1 => (first | assumption | exact TreeIn.mono (fun _ h => .tail _ (.tail _ h)) _ _ (by assumption) | exact TreeIn.mono (fun _ h => .tail _ (.tail _ (.tail _ h))) _ _ (by assumption) | exact TreeIn.mono (fun _ h => .tail _ (.tail _ (.tail _ (.tail _ h)))) _ _ (by assumption) | exact TreeIn.mono (fun _ h => .tail _ (.tail _ (.tail _ (.tail _ (.tail _ h))))) _ _ (by assumption))); (case m2 => decide); (case k5 => k_asm); (case kK => first | exact rfl | assumption); (case kd => ktr_room); (case ku => ktr_units); intro r9 n9 h9 t9 F9 N9 ho9; (obtain ⟨e1, e2⟩ := ho9; subst e1; subst e2); (try k_sweep))))
  k_with "call ref" => (k_here; (with_reducible show wpAny _ _ (call (Value.ref 141) _) _ _ _); k_dflt (first
    | (rename AtSpec _ _ => hA9; (refine' Calls.use (hA9 _ _ _ _ _ _ _ _ _ _ _ ?m1 ?m2 ?m3 ?m4 ?m5 ?m6 ?m7) ?k1 ?k2 ?k3 ?k4 ?k5 ?kK ?kd ?ku ?_; (case k1 => k_asm); (case k2 => k_asm); (case k3 => k_asm); (case k4 => (first | k_asm | exact rot1 (by k_asm) | exact rot2 (by k_asm) | exact rot3 (by k_asm) | exact rot4 (by k_asm) | exact rot5 (by k_asm) | exact rot6 (by k_asm) | exact rot7 (by k_asm) | exact rot8 (by k_asm) | exact rot9 (by k_asm))); (case m1 => (first | assumption | exact TreeIn.mono (fun _ h => .tail _ h) _ _ (by assumption) | exact TreeIn.mono (fun _ h => .tail _ (.tail _ h)) _ _ (by assumption) | exact TreeIn.mono (fun _ h => .tail _ (.tail _ (.tail _ h))) _ _ (by assumption) | exact TreeIn.mono (fun _ h => .tail _ (.tail _ (.tail _ (.tail _ h)))) _ _ (by assumption) | exact TreeIn.mono (fun _ h => .tail _ (.tail _ (.tail _ (.tail _ (.tail _ h))))) _ _ (by assumption) | exact TreeIn.mono (fun _ h => .tail _ (.tail _ (.tail _ (.tail _ (.tail _ (.tail _ h)))))) _ _ (by assumption) | exact TreeIn.mono (fun _ h => .tail _ (.tail _ (.tail _ (.tail _ (.tail _ (.tail _ (.tail _ h))))))) _ _ (by assumption) | exact TreeIn.mono (fun _ h => .tail _ (.tail _ (.tail _ (.tail _ (.tail _ (.tail _ (.tail _ (.tail _ h)))))))) _ _ (by assumption) | exact TreeIn.mono (fun _ h => .tail _ (.tail _ (.tail _ (.tail _ (.tail _ (.tail _ (.tail _ (.tail _ (.tail _ h))))))))) _ _ (by assumption))); (case m2 => assumption); (case m3 => assumption); (case m4 => assumption); (case m5 => assumption); (case m6 => (first | assumption | exact all_cons1 (neN (by omega)) (by assumption) | exact all_cons1 (neN (by omega)) (all_cons1 (neN (by omega)) (by assumption)) | exact all_cons1 (neN (by omega)) (all_cons1 (neN (by omega)) (all_cons1 (neN (by omega)) (by assumption))) | exact all_cons1 (neN (by omega)) (all_cons1 (neN (by omega)) (all_cons1 (neN (by omega)) (all_cons1 (neN (by omega)) (by assumption)))) | exact all_cons1 (neN (by omega)) (all_cons1 (neN (by omega)) (all_cons1 (neN (by omega)) (all_cons1 (neN (by omega)) (all_cons1 (neN (by omega)) (by assumption))))) | exact all_cons1 (neN (by omega)) (all_cons1 (neN (by omega)) (all_cons1 (neN (by omega)) (all_cons1 (neN (by omega)) (all_cons1 (neN (by omega)) (all_cons1 (neN (by omega)) (by assumption)))))) | exact all_cons1 (neN (by omega)) (all_cons1 (neN (by omega)) (all_cons1 (neN (by omega)) (all_cons1 (neN (by omega)) (all_cons1 (neN (by omega)) (all_cons1 (neN (by omega)) (all_cons1 (neN (by omega)) (by assumption))))))) | exact all_cons1 (neN (by omega)) (all_cons1 (neN (by omega)) (all_cons1 (neN (by omega)) (all_cons1 (neN (by omega)) (all_cons1 (neN (by omega)) (all_cons1 (neN (by omega)) (all_cons1 (neN (by omega)) (all_cons1 (neN (by omega)) (by assumption)))))))) | exact all_cons1 (neN (by omega)) (all_cons1 (neN (by omega)) (all_cons1 (neN (by omega)) (all_cons1 (neN (by omega)) (all_cons1 (neN (by omega)) (all_cons1 (neN (by omega)) (all_cons1 (neN (by omega)) (all_cons1 (neN (by omega)) (all_cons1 (neN (by omega)) (by assumption))))))))))); (case m7 => decide); (case k5 => k_asm); (case kK => first | exact rfl | assumption); (case kd => ktr_room); (case ku => ktr_units); intro r9 n9 h9 t9 F9 N9 ho9; (obtain ⟨t19, t29, tk9, e1, e2⟩ := ho9; subst e1; subst e2); (try k_sweep)))))
  k_with "compareOp Eq ref ref" => (k_here; k_dflt (first
    | (refine' eq_tups ?N ?u ?m1 ?m2 ?_; (case N => k_asm); (case u => ktr_units); (case m1 => k_mem); (case m2 => k_mem); k_whole)
    | (refine' eq_syms ?N ?u ?m1 ?m2 ?e ?_; (case N => k_asm); (case u => ktr_units); (case m1 => k_mem); (case m2 => k_mem); (case e => first | decide | exact plain_ne (by assumption) _ (by decide)); k_whole)
    | (refine' eq_int_sym ?N ?u ?m1 ?m2 ?_; (case N => k_asm); (case u => ktr_units); (case m1 => k_mem); (case m2 => k_mem); k_whole)))
  k_with "compareOp NotEq ref ref" => (k_here; k_dflt (first
    | (refine' ne_nil0 ?N ?u ?m1 ?m2 ?_; (case N => k_asm); (case u => ktr_units); (case m1 => k_mem); (case m2 => first | exact isTuple_of (by k_asm) (by k_mem)); k_whole)
    | (refine' ne_cons ?N ?u ?m1 ?m2 ?_; (case N => k_asm); (case u => ktr_units); (case m1 => k_mem); (case m2 => first | exact isTuple_of (by k_asm) (by k_mem)); k_whole)))
  k_with "subscriptTail" => (k_here; (with_reducible show wpAny _ _ (subscriptTail _ _ (Value.ref _) (Value.ref _)) _ _ _); (with_unfolding_all refine' slice1 ?F ?N ?m1 ?z ?_ ?hs ?hg; (case F => k_asm); (case N => k_asm); (case m1 => k_mem); (case z => (first | decide | omega | (simp only [List.length_cons, List.length_nil]; omega))); (case hs => exact rfl); (case hg => intro _; exact rfl); k_whole); intro q9 h9 F9 N9 l9; (try k_lt l9); (try k_sweep))
  k_with "subscriptTail" => (k_here; (with_reducible show wpAny _ _ (subscriptTail _ _ (Value.ref _) (Value.int 0 _)) _ _ _); (with_unfolding_all refine' item_first ?N ?m ?_ ?hs; (case N => k_asm); (case m => k_mem); (case hs => exact rfl); k_whole))
  k_with "subscriptTail" => (k_here; (with_reducible show wpAny _ _ (subscriptTail _ _ (Value.ref _) (Value.int 1 _)) _ _ _); (with_unfolding_all refine' item_second ?N ?m ?_ ?hs; (case N => k_asm); (case m => k_mem); (case hs => exact rfl); k_whole))
  k_with "call builtin:len" => (k_here; (with_reducible show wpAny _ _ (call (Value.builtin "len") [Value.ref _]) _ _ _); k_dflt (refine' len_tup ?N ?m ?z ?e ?_; (case N => k_asm); (case m => k_mem); (case z => (first | decide | omega | (simp only [List.length_cons, List.length_nil]; omega))); (case e => first | (simp only [List.length_cons, List.length_nil, Nat.zero_add, Nat.reduceAdd]; exact rfl) | exact rfl); k_whole))
  k_with "eval Name" => (k_here; (with_reducible show wpAny _ _ (eval (Expr.Name _ _) (compEnvC _ _ _ _)) _ _ _); k_dflt (first
    | (refine' comp_local ?n ?v ?_ ?a ?b ?d; (case n => k_asm); (case v => first | assumption | exact rfl); (case a => exact rfl); (case b => exact rfl); (case d => decide); k_whole)
    | (refine' comp_cell ?N ?c ?m ?d ?_ ?a ?b ?e; (case N => k_asm); (case c => exact rfl); (case m => k_mem); (case d => first | assumption | exact rfl); (case a => exact rfl); (case b => exact rfl); (case e => decide); k_whole)
    | (refine' nameG_K ?F ?X ?T ?e ?_ ?g ?k ?x ?d; (case F => k_asm); (case X => k_asm); (case T => k_asm); (case e => k_is); (case g => exact rfl); (case k => exact rfl); (case x => exact rfl); (case d => decide); k_whole)))
  k_with "eval Call Attribute" => (k_here; (with_reducible show wpAny _ _ (eval (Expr.Call (Expr.Attribute _ _ _) _ _ _) _) _ _ _); k_dflt (refine MethodCall_ ?_))
  k_with "eval ListComp" => (k_here; k_dflt ((refine' comp_inv ?c1 ?c2 ?c3 ?c4 ?c5 ?_ ?c6); (case c1 => with_unfolding_all exact rfl); (case c2 => decide); (case c3 => exact rfl); (case c4 => decide); (case c5 => exact rfl); (case c6 => intro _; exact rfl); k_whole))
  k_with "call builtin:str.join" => (k_here; (with_reducible show wpAny _ _ (call (Value.builtin "str.join") [Value.str _ _, Value.ref _]) _ _ _); (with_reducible rename StrsAre _ _ => hS9); k_dflt (refine' join_mine (News.isList ?N ?m) ?i ?k ?_; (case N => k_asm); (case m => k_mem); (case i => simpa using hS9); (case k => assumption)); intro t9 k9)
  k_with "subscriptTail Name Constant ref int" => (k_here; (with_reducible show wpAny _ _ (subscriptTail _ _ (Value.ref _) (Value.int 0 _)) _ _ _); (with_unfolding_all refine' litem_first ?N ?m ?_ ?hs ?hg; (case N => k_asm); (case m => k_mem); (case hs => exact rfl); (case hg => intro _; exact rfl); k_whole))
  k_with "subscriptTail Name Constant ref int" => (k_here; (with_reducible show wpAny _ _ (subscriptTail _ _ (Value.ref _) (Value.int 1 _)) _ _ _); (with_unfolding_all refine' litem_second ?N ?m ?_ ?hs ?hg; (case N => k_asm); (case m => k_mem); (case hs => exact rfl); (case hg => intro _; exact rfl); k_whole))
  trivial
theorem kit_ (w : World) (S : Addr) (vs : List Value) (ns : List Int) (hi : IntsAre vs ns) (hlen : ns.length ≤ 63) :
  CallsL w (fun h => h.IsList S vs.toArray) 359 [.ref S] 2 20 [] (fun nx res => ∃ ka a b t1 t2 e, nx = kst ka a b t1 t2 e [] ∧ res = .ref ka ∧ KitOk a b) := by
  unfold CallsL; k_fill
  intro mean mg mb dp un gd cn cs a ccd cl outer A₀ base h₀ L m st R B F X N T hk hdp hun hS hret
  k_dflt (refine' code_defC ?k1 ?k2 ?k3 ?k4 ?k5 ?kA ?kF ?kK ?k6 ?k7 ?k8 ?k9 ?kB ?kD ?_ ?c2 ?c3 ?c4; (case kA => exact rfl); (case kF => exact rfl); (case kK => assumption); (case k1 => k_asm); (case k2 => k_asm); (case k3 => k_asm); (case k4 => k_asm); (case k5 => k_asm); (case k6 => k_is); (case k7 => k_is); (case k8 => ktr_room); (case k9 => exact BindsTo.of_eq rfl); (case kB => exact rfl); (case kD => decide +kernel); (case c2 => exact rfl); (case c3 => exact rfl); (case c4 => exact rfl); k_whole; intro g' L' h' tk' cells' FG' F' N' Y' B' X' T' l1; (try k_lt l1); (have hS2 := Fr.lst FG' hS); (have hE := cells_nil Y'); subst hE; (try simp only [List.cons_append, List.nil_append] at N'); (try dsimp only); (try k_fold))
  k_steps
  all_goals exact hret _ _ _ _ (by k_asm) (by k_asm) ⟨_, _, _, _, _, _, rfl, rfl, ⟨by first | assumption | exact Int.le_refl _ | omega, fm_lo _ _ (by decide), fm_hi _ _ (by decide)⟩⟩
def fs : Nat → List Nat
  | 0 => []
  | k + 1 => 102 :: 40 :: fs k
theorem tall_txt : ∀ (k n r : Nat), k < n → 2 * k < r → (txt (tall n) (k + 1) r).1.cps.toList = fs k ++ ([46, 46, 40, 46, 46, 41] ++ List.replicate k 41)
  | k, 0, r, h, _ => absurd h (Nat.not_lt_zero _)
  | 0, n + 1, r, h, hr => by
    have e0 : ∀ q, (txt (tall n) 0 q).1 = dots := fun q => by
      cases n with
      | zero => rw [tall, txt, if_pos (.inr rfl)]
      | succ n => rw [tall, txt, if_pos (.inr rfl)]
    have e1 : ∀ q, (txt (.sym (Str.ofString "f")) 0 q).1 = dots := fun q => by rw [txt, if_pos (.inr rfl)]
    rw [tall, txt, if_neg (by omega)]
    show (glue .call (txts [.sym (Str.ofString "f"), tall n] 0 (r - 1)).1).cps.toList = _
    rw [txts, txts, txts, e0, e1]
    show (glue .call [dots, dots]).cps.toList = _
    decide +kernel
  | k + 1, n + 1, r, h, hr => by
    have ih := tall_txt k n (r - 1 - 1) (by omega) (by omega)
    rw [tall, txt, if_neg (by omega)]
    show (glue .call (txts [.sym (Str.ofString "f"), tall n] (k + 1) (r - 1)).1).cps.toList = _
    have e1 : txt (.sym (Str.ofString "f")) (k + 1) (r - 1) = (Str.ofString "f", r - 1 - 1) := by rw [txt, if_neg (by omega)]
    rw [txts, txts, txts, e1]
    show (Str.ofString "f" ++ Str.ofString "(" ++ (txt (tall n) (k + 1) (r - 1 - 1)).1 ++ Str.ofString ")").cps.toList = _
    rw [cps_toList_append, cps_toList_append, cps_toList_append, ih, List.replicate_succ']
    have a1 : (Str.ofString "f").cps.toList = [102] := by decide
    have a2 : (Str.ofString "(").cps.toList = [40] := by decide
    have a3 : (Str.ofString ")").cps.toList = [41] := by decide
    rw [a1, a2, a3, fs]
    simp [List.append_assoc]
theorem str_of_cps {a b : Str} (h : a.cps.toList = b.cps.toList) : a = b := by
  cases a with | mk a => cases b with | mk b => exact congrArg Str.mk (Array.toList_inj.mp h)
theorem tall_is : (txt (tall 100) 80 1000).1 = Txt.mul (Str.ofString "f(") 79 ++ Str.ofString "..(..)" ++ Txt.mul (Str.ofString ")") 79 :=
  str_of_cps ((tall_txt 79 100 1000 (by decide) (by decide)).trans (by decide +kernel))
/-- one turn of a loop that makes a tree higher: it adds what is new, and no more -/
def Turn (h₀ : Heap) (L : Addr) (x y : Str) (m : Str → Option Value) (step : T → T) (v : Value) (own : List (Addr × Obj)) (s₁ : Shared) (f : Flow) (s₂ : Shared) : Prop :=
  f = .next ∧ ∃ h' tk m' v' tl, s₂ = { s₁ with heap := h', toks := tk } ∧ Fr h₀ L h' m' ∧ News h₀ L h' (tl ++ own) ∧ (∀ p ∈ tl, ∀ q ∈ own, p.1 ≠ q.1) ∧ m' y = some v' ∧
    (∀ z, z ≠ x → z ≠ y → m' z = m z) ∧ ∀ nx t, TreeIn nx t v → TreeIn (tl ++ nx) (step t) v'
section
variable {prog : Program} {w : World} {A : Around} {E : Value → Shared → Prop} {s : Shared} {env : Env} {h₀ : Heap} {x : Str} {body : List Stmt} {Q : Flow → Shared → Prop}
theorem for_range1 {L : Addr} {y : Str} (T₁ : Nat → T) (step : T → T) (n : Nat) {v₀ : Value} {m₀ : Str → Option Value} {news : List (Addr × Obj)} {t0 : Tok} {r : Int}
    (hLe : env.locals = L) (er : r = (n : Int)) (hstep : ∀ i, T₁ (i + 1) = step (T₁ i)) (hxy : y ≠ x) (hsm : Builtin.Range.small 0 r 1 = true)
    (hh : A.handled = none) (F : Fr h₀ L s.heap m₀) (N : News h₀ L s.heap news) (hy : m₀ y = some v₀) (hT : TreeIn news (T₁ 0) v₀)
    (turn : ∀ k t v h tk own, Fr h₀ L h (fun z => if z = x then some (.int k t) else if z = y then some v else m₀ z) → News h₀ L h own →
      wpAny (model prog w) A (execs body env) (Turn h₀ L x y m₀ step v own { s with heap := h, toks := tk }) E { s with heap := h, toks := tk })
    (done : ∀ (u : Str → Option Value) v tl h tk, TreeIn (tl ++ news) (T₁ n) v → (∀ p ∈ tl, ∀ q ∈ news, p.1 ≠ q.1) → Fr h₀ L h (fun z => if z = x then u z else if z = y then some v else m₀ z) → News h₀ L h (tl ++ news) → Q .next { s with heap := h, toks := tk }) :
    wpAny (model prog w) A (call (.type "range") [.int r t0]) (fun xv s₁ => wpAny (model prog w) A (pyIter xv) (fun it s₂ => LoopAtV prog w A h₀ env x body Q E it s₂) E s₁) E s := by
  subst hLe
  subst er
  have hsz : Builtin.Range.rangeSize 0 (n : Int) 1 = ((n : Nat) : Int) := by rw [rangeSize_nat]; simp
  refine call_range_1 ?_
  have hr : IsRange (s.heap.push { cls := .type "range", data := .fields #[.int 0 s.toks, .int (n : Int) t0, .int 1 (s.toks + 1)] }) s.heap.objs.size 0 (n : Int) 1 s.toks t0 (s.toks + 1) := IsRange.new _ _ _ _ _ _ _
  refine tbr_invG (news := news) (m₀ := m₀) (fun i m nx => ∃ tl v, nx = tl ++ news ∧ (∀ p ∈ tl, ∀ q ∈ news, p.1 ≠ q.1) ∧ m y = some v ∧ TreeIn nx (T₁ i) v ∧ ∀ z, z ≠ x → z ≠ y → m z = m₀ z) hh hr hsm hsz (F.push _)
    (fun p hp => ⟨Heap.get?_push_of_some _ (N p hp).1, (N p hp).2⟩) ⟨[], v₀, rfl, fun p hp => (absurd hp List.not_mem_nil), hy, hT, fun _ _ _ => rfl⟩ ?_ ?_
  · rintro i k t m₁ nx h tk own hk hoff ⟨tl, v, rfl, hf, hv, hR, hm⟩ F₁ N₁
    have e : (fun z => if z = x then some (Value.int k t) else m₁ z) = fun z => if z = x then some (Value.int k t) else if z = y then some v else m₀ z := by
      funext z
      by_cases h1 : z = x
      · simp [h1]
      · simp only [if_neg h1]
        by_cases h2 : z = y
        · subst h2; simp [hv]
        · simp only [if_neg h2]; exact hm z h1 h2
    rw [e] at F₁
    refine wpAny_mono (turn k t v h tk _ F₁ N₁) (fun f s₂ p => ?_) fun _ _ e => e
    obtain ⟨rfl, h', tk', m', v', tl', rfl, F', N', hf', hv', hm', hR'⟩ := p
    refine ⟨h', tk', m', _, tl' ++ (tl ++ news), rfl, F', N', ?_, ?_, ?_, tl' ++ tl, v', by rw [List.append_assoc], ?_, hv', ?_, hm'⟩
    · intro p hp
      rcases List.mem_append.mp hp with hp | hp
      · exact List.mem_append_left _ hp
      · exact List.mem_append_right _ (List.mem_append_left _ hp)
    · intro p hp
      exact List.mem_append_right _ (List.mem_append_right _ hp)
    · intro p hp q hq
      rcases List.mem_append.mp hq with hq | hq
      · exact Ne.symm (hf' q hq p (List.mem_append_right _ hp))
      · exact hoff p hp q hq
    · intro p hp q hq
      rcases List.mem_append.mp hp with hp | hp
      · exact hf' p hp q (List.mem_append_left _ (List.mem_append_right _ hq))
      · exact hf p hp q hq
    · rw [hstep]; exact hR' _ _ hR
  · rintro m₁ nx h tk ⟨tl, v, rfl, hf, hv, hR, hm⟩ F₁ N₁
    refine done m₁ v tl h tk hR hf ?_ N₁
    have e : (fun z => if z = x then m₁ z else if z = y then some v else m₀ z) = m₁ := by
      funext z
      by_cases h1 : z = x
      · simp [h1]
      · simp only [if_neg h1]
        by_cases h2 : z = y
        · subst h2; simp [hv]
        · simp only [if_neg h2]; exact (hm z h1 h2).symm
    rw [e]; exact F₁
theorem tall_grow {v : Value} {x p b : Addr} {k1 k2 k3 k4 n1 n2 n3 : Nat} {Y : Addr × Obj} {nx : List (Addr × Obj)} {t : T} (h : TreeIn nx t v) :
    TreeIn ([(x, tupOf [.str (Str.ofString "expr") k1, .str (Str.ofString "call") k2, .ref p] n1), (p, tupOf [.ref b, v] n2), Y, (b, tupOf [.str (Str.ofString "sym") k3, .str (Str.ofString "f") k4] n3)] ++ nx) (.node .call [.sym (Str.ofString "f"), t]) (.ref x) := by
  rw [TreeIn]
  refine ⟨x, k1, k2, n1, p, n2, [.ref b, v], rfl, .head _, .tail _ (.head _), ?_⟩
  rw [ForestIn]
  refine ⟨_, _, rfl, ?_, ?_⟩
  · rw [TreeIn]; exact ⟨b, k3, k4, n3, rfl, .tail _ (.tail _ (.tail _ (.head _)))⟩
  · rw [ForestIn]
    refine ⟨_, _, rfl, TreeIn.mono (fun z hz => List.mem_append_right _ hz) _ _ h, ?_⟩
    rw [ForestIn]
theorem twice_grow {v : Value} {x p : Addr} {k1 k2 n1 n2 : Nat} {Y : Addr × Obj} {nx : List (Addr × Obj)} {t : T} (h : TreeIn nx t v) :
    TreeIn ([(x, tupOf [.str (Str.ofString "expr") k1, .str (Str.ofString "tuple") k2, .ref p] n1), (p, tupOf [v, v] n2), Y] ++ nx) (.node .tup [t, t]) (.ref x) := by
  rw [TreeIn]
  refine ⟨x, k1, k2, n1, p, n2, [v, v], rfl, .head _, .tail _ (.head _), ?_⟩
  have h' := TreeIn.mono (fun z hz => List.mem_append_right [(x, tupOf [.str (Str.ofString "expr") k1, .str (Str.ofString "tuple") k2, .ref p] n1), (p, tupOf [v, v] n2), Y] hz) _ _ h
  rw [ForestIn]
  refine ⟨_, _, rfl, h', ?_⟩
  rw [ForestIn]
  refine ⟨_, _, rfl, h', ?_⟩
  rw [ForestIn]
theorem tall_turn {L : Addr} {y : Str} {m m' : Str → Option Value} {v : Value} {x' p b q : Addr} {oq : Obj} {k1 k2 k3 k4 n1 n2 n3 tk : Nat} {own : List (Addr × Obj)} {h' : Heap} {s₁ : Shared} (F : Fr h₀ L h' m')
    (N : News h₀ L h' ((x', tupOf [.str (Str.ofString "expr") k1, .str (Str.ofString "call") k2, .ref p] n1) :: (p, tupOf [.ref b, v] n2) :: (q, oq) :: (b, tupOf [.str (Str.ofString "sym") k3, .str (Str.ofString "f") k4] n3) :: own))
    (hp : ∀ z ∈ (q, oq) :: (b, tupOf [.str (Str.ofString "sym") k3, .str (Str.ofString "f") k4] n3) :: own, @LT.lt Nat _ z.1 p) (hx : ∀ z ∈ (q, oq) :: (b, tupOf [.str (Str.ofString "sym") k3, .str (Str.ofString "f") k4] n3) :: own, @LT.lt Nat _ z.1 x')
    (hq : ∀ z ∈ own, @LT.lt Nat _ z.1 q) (hb : ∀ z ∈ own, @LT.lt Nat _ z.1 b) (hy : m' y = some (.ref x')) (hm : ∀ z, z ≠ x → z ≠ y → m' z = m z) :
    Turn h₀ L x y m (fun t => .node .call [.sym (Str.ofString "f"), t]) v own s₁ .next { s₁ with heap := h', toks := tk } := by
  refine ⟨rfl, h', tk, m', _, [_, _, _, _], rfl, F, N, ?_, hy, hm, fun nx t h => tall_grow h⟩
  intro z hz o ho
  rcases List.mem_cons.mp hz with rfl | hz
  · exact Nat.ne_of_gt (hx o (.tail _ (.tail _ ho)))
  rcases List.mem_cons.mp hz with rfl | hz
  · exact Nat.ne_of_gt (hp o (.tail _ (.tail _ ho)))
  rcases List.mem_cons.mp hz with rfl | hz
  · exact Nat.ne_of_gt (hq o ho)
  rcases List.mem_cons.mp hz with rfl | hz
  · exact Nat.ne_of_gt (hb o ho)
  · exact absurd hz List.not_mem_nil
theorem twice_turn {L : Addr} {y : Str} {m m' : Str → Option Value} {v : Value} {x' p q : Addr} {oq : Obj} {k1 k2 n1 n2 tk : Nat} {own : List (Addr × Obj)} {h' : Heap} {s₁ : Shared} (F : Fr h₀ L h' m')
    (N : News h₀ L h' ((x', tupOf [.str (Str.ofString "expr") k1, .str (Str.ofString "tuple") k2, .ref p] n1) :: (p, tupOf [v, v] n2) :: (q, oq) :: own))
    (hp : ∀ z ∈ (q, oq) :: own, @LT.lt Nat _ z.1 p) (hx : ∀ z ∈ (q, oq) :: own, @LT.lt Nat _ z.1 x')
    (hq : ∀ z ∈ own, @LT.lt Nat _ z.1 q) (hy : m' y = some (.ref x')) (hm : ∀ z, z ≠ x → z ≠ y → m' z = m z) :
    Turn h₀ L x y m (fun t => .node .tup [t, t]) v own s₁ .next { s₁ with heap := h', toks := tk } := by
  refine ⟨rfl, h', tk, m', _, [_, _, _], rfl, F, N, ?_, hy, hm, fun nx t h => twice_grow h⟩
  intro z hz o ho
  rcases List.mem_cons.mp hz with rfl | hz
  · exact Nat.ne_of_gt (hx o (.tail _ ho))
  rcases List.mem_cons.mp hz with rfl | hz
  · exact Nat.ne_of_gt (hp o (.tail _ ho))
  rcases List.mem_cons.mp hz with rfl | hz
  · exact Nat.ne_of_gt (hq o ho)
  · exact absurd hz List.not_mem_nil
end
structure IsTw (X : Str) : Prop where
  h : X = (txt (twice 40) 80 60).1
theorem tree_text_tall (w : World) (news : List (Addr × Obj)) (v : Value) (tk : Nat) (hT : TreeIn news (tall 100) v) :
    Calls w 352 [v, .int 1000 tk] 571 3272 news (fun nx res => nx = news ∧ ∃ tk, res = .str (Txt.mul (Str.ofString "f(") 79 ++ Str.ofString "..(..)" ++ Txt.mul (Str.ofString ")") 79) tk) := by
  have := tree_text_ w news v (tall 100) 1000 tk hT (tall_wf 100) (by decide)
  rw [tall_is] at this
  exact this
theorem tree_text_twice (w : World) (news : List (Addr × Obj)) (v : Value) (tk : Nat) (X : Str) (hX' : IsTw X) (hT : TreeIn news (twice 40) v) :
    Calls w 352 [v, .int 60 tk] 571 3272 news (fun nx res => nx = news ∧ ∃ tk, res = .str X tk) := by
  have hX := hX'.h
  have := tree_text_ w news v (twice 40) 60 tk hT (twice_wf 40) (by decide)
  rw [← hX] at this
  exact this
theorem told_twice (w : World) (ra : Addr) (rest : List (Addr × Obj)) (v : Value) (tk e : Nat) (X : Str) (hX' : IsTw X) (hT : TreeIn rest (twice 40) v) (hall : ∀ p ∈ rest, p.1 ≠ ra) :
    Calls w 390 [v, .ref ra] 163 670 (rst ra 60 tk e rest) (fun nx res => ∃ l : Nat, RoomPost ra (l : Int) X rest nx res) := by
  have hX := hX'.h
  have := told_all w (twice 40) 80 ra rest v 60 tk e hT (twice_wf 40) (by rw [twice_height]; decide) (by decide) hall
  rw [← hX] at this
  revert this
  generalize (txt (twice 40) 80 60).2 = l
  intro this
  unfold Calls at this ⊢
  intro mean mg mb dp un gd cn cs a ccd cl outer A₀ base h₀ L m s R B F X' N T hk hd hu hR
  exact this mean mg mb dp un gd cn cs a ccd cl outer A₀ base h₀ L m s R B F X' N T hk hd hu fun r nx h' tk' F' N' P => hR r nx h' tk' F' N' ⟨l, P⟩
theorem twice_len {X : Str} (hX' : IsTw X) : X.length ≤ 362 := by
  have hX := hX'.h
  have := (twice_txt 40 80 60 (by decide)).1
  rw [← hX] at this
  omega
theorem twice_cnt {X : Str} (hX' : IsTw X) : Txt.count X (Str.ofString "x") + Txt.count X (Str.ofString "(") ≤ 60 := by
  have hX := hX'.h
  have := (twice_txt 40 80 60 (by decide)).2
  rw [← hX] at this
  have e1 : Txt.count X (Str.ofString "x") = cnt 120 X.cps.toList := count_cnt X 120
  have e2 : Txt.count X (Str.ofString "(") = cnt 40 X.cps.toList := count_cnt X 40
  rw [e1, e2]
  omega
theorem isTw_ex : ∃ X : Str, IsTw X ∧ X.length ≤ 362 ∧ Txt.count X (Str.ofString "x") + Txt.count X (Str.ofString "(") ≤ 60 :=
  ⟨(txt (twice 40) 80 60).1, IsTw.mk rfl, twice_len (IsTw.mk rfl), twice_cnt (IsTw.mk rfl)⟩
theorem words43 : True := by
  k_with_none
  trivial
theorem tree_text_pred (w : World) (news : List (Addr × Obj)) (v : Value) (t : T) (c tk : Nat) (hT : TreeIn news t v) (hW : WF t) (h0 : 0 < c) (hr : c ≤ 10000) :
  Calls w 352 [v, .int ((c : Int) - 1) tk] 571 3272 news (fun nx res => nx = news ∧ ∃ tk, res = .str (txt t 80 (c - 1)).1 tk) := by
  have := tree_text_ w news v t (c - 1) tk hT hW (by omega)
  rw [nat_pred h0] at this
  exact this
section
variable {prog : Program} {w : World} {A : Around} {E : Value → Shared → Prop} {s : Shared} {Q : Value → Shared → Prop}
theorem in_ok {x : Str} {t u : Nat} (hx : Ok x) (h : Q (.bool false) s) : wpAny (model prog w) A (compareOp .In (.str (Str.ofString "..") u) (.str x t)) Q E s :=
  PyProof.Rows.in_str (Q := Q) (by show Q (.bool (Txt.contains _ _)) s; rw [show (Str.ofString "..") = dots from rfl, contains_ok hx]; exact h)
theorem in_dd {x : Str} {t u : Nat} (hx : DD x) (h : Q (.bool true) s) : wpAny (model prog w) A (compareOp .In (.str (Str.ofString "..") u) (.str x t)) Q E s :=
  PyProof.Rows.in_str (Q := Q) (by show Q (.bool (Txt.contains _ _)) s; rw [show (Str.ofString "..") = dots from rfl, contains_dd hx]; exact h)
end
theorem words44 : True := by
  k_with "eval Call" => (k_here; (with_reducible show wpAny _ _ (eval (Expr.Call (Expr.Name _ _) _ _ _) _) _ _ _); k_dflt (refine Call_ ?_))
  k_with "compareOp In str ref" => (k_here; k_dflt (first
    | (refine' in_top ?F ?X ?l ?k ?e ?_; (case F => k_asm); (case X => k_asm); (case l => k_is); (case k => (repeat constructor)); (case e => first | decide | exact plain_any (by assumption) _ (by decide)); k_whole)
    | (refine' in_topT ?F ?X ?l ?k ?e ?_; (case F => k_asm); (case X => k_asm); (case l => k_is); (case k => (repeat constructor)); (case e => decide); k_whole)))
  k_with "call ref" => (k_here; (with_reducible show wpAny _ _ (call (Value.ref 21) _) _ _ _); k_dflt (first
    | (refine' Calls.use (is_expr_two _ _ _ _ _ _ _ _ _ ?m2 ?m1) ?k1 ?k2 ?k3 ?k4 ?k5 ?kK ?kd ?ku ?_; (case k1 => k_asm); (case k2 => k_asm); (case k3 => k_asm); (case k4 => k_asm); (case m1 => k_mem); (case m2 => decide); (case k5 => k_asm); (case kK => first | exact rfl | assumption); (case kd => ktr_room); (case ku => ktr_units); intro r9 n9 h9 t9 F9 N9 ho9; (obtain ⟨e1, e2⟩ := ho9; subst e1; subst e2); (try k_sweep))
    | (refine' Calls.use (is_expr_ne _ _ _ _ _ _ _ _ _ _ ?m2 ?m1) ?k1 ?k2 ?k3 ?k4 ?k5 ?kK ?kd ?ku ?_; (case k1 => k_asm); (case k2 => k_asm); (case k3 => k_asm); (case k4 => k_asm); (case m1 => k_mem); (case m2 => first | assumption | decide); (case k5 => k_asm); (case kK => first | exact rfl | assumption); (case kd => ktr_room); (case ku => ktr_units); intro r9 n9 h9 t9 F9 N9 ho9; (obtain ⟨e1, e2⟩ := ho9; subst e1; subst e2); (try k_sweep))
    | (refine' Calls.use (is_expr_expr _ _ _ _ _ _ _ _ _ _ ?m1) ?k1 ?k2 ?k3 ?k4 ?k5 ?kK ?kd ?ku ?_; (case k1 => k_asm); (case k2 => k_asm); (case k3 => k_asm); (case k4 => k_asm); (case m1 => k_mem); (case k5 => k_asm); (case kK => first | exact rfl | assumption); (case kd => ktr_room); (case ku => ktr_units); intro r9 n9 h9 t9 F9 N9 ho9; (obtain ⟨e1, e2⟩ := ho9; subst e1; subst e2); (try k_sweep))))
  k_with "call ref" => (k_here; (with_reducible show wpAny _ _ (call (Value.ref 28) _) _ _ _); k_dflt (first
    | (refine' Calls.use (parts_of_expr _ _ _ _ _ _ _ _ ?m1) ?k1 ?k2 ?k3 ?k4 ?k5 ?kK ?kd ?ku ?_; (case k1 => k_asm); (case k2 => k_asm); (case k3 => k_asm); (case k4 => k_asm); (case m1 => k_mem); (case k5 => k_asm); (case kK => first | exact rfl | assumption); (case kd => ktr_room); (case ku => ktr_units); intro r9 n9 h9 t9 F9 N9 ho9; (obtain ⟨e1, e2⟩ := ho9; subst e1; subst e2); (try k_sweep))))
  k_with "call ref" => (k_here; (with_reducible show wpAny _ _ (call (Value.ref 35) _) _ _ _); k_dflt (first
    | (refine' Calls.use (is_sym_ _ _ _ _ _ _ _ ?m1) ?k1 ?k2 ?k3 ?k4 ?k5 ?kK ?kd ?ku ?_; (case k1 => k_asm); (case k2 => k_asm); (case k3 => k_asm); (case k4 => k_asm); (case m1 => k_mem); (case k5 => k_asm); (case kK => first | exact rfl | assumption); (case kd => ktr_room); (case ku => ktr_units); intro r9 n9 h9 t9 F9 N9 ho9; (obtain ⟨e1, e2⟩ := ho9; subst e1; subst e2); (try k_sweep))))
  k_with "call ref" => (k_here; (with_reducible show wpAny _ _ (call (Value.ref 21) _) _ _ _); k_dflt (first
    | (refine' Calls.use (is_expr_two _ _ _ _ _ _ _ _ _ ?m2 ?m1) ?k1 ?k2 ?k3 ?k4 ?k5 ?kK ?kd ?ku ?_; (case k1 => k_asm); (case k2 => k_asm); (case k3 => k_asm); (case k4 => k_asm); (case m1 => k_mem); (case m2 => decide); (case k5 => k_asm); (case kK => first | exact rfl | assumption); (case kd => ktr_room); (case ku => ktr_units); intro r9 n9 h9 t9 F9 N9 ho9; (obtain ⟨e1, e2⟩ := ho9; subst e1; subst e2); (try k_sweep))
    | (refine' Calls.use (is_expr_ne _ _ _ _ _ _ _ _ _ _ ?m2 ?m1) ?k1 ?k2 ?k3 ?k4 ?k5 ?kK ?kd ?ku ?_; (case k1 => k_asm); (case k2 => k_asm); (case k3 => k_asm); (case k4 => k_asm); (case m1 => k_mem); (case m2 => first | assumption | decide); (case k5 => k_asm); (case kK => first | exact rfl | assumption); (case kd => ktr_room); (case ku => ktr_units); intro r9 n9 h9 t9 F9 N9 ho9; (obtain ⟨e1, e2⟩ := ho9; subst e1; subst e2); (try k_sweep))
    | (refine' Calls.use (is_expr_expr _ _ _ _ _ _ _ _ _ _ ?m1) ?k1 ?k2 ?k3 ?k4 ?k5 ?kK ?kd ?ku ?_; (case k1 => k_asm); (case k2 => k_asm); (case k3 => k_asm); (case k4 => k_asm); (case m1 => k_mem); (case k5 => k_asm); (case kK => first | exact rfl | assumption); (case kd => ktr_room); (case ku => ktr_units); intro r9 n9 h9 t9 F9 N9 ho9; (obtain ⟨e1, e2⟩ := ho9; subst e1; subst e2); (try k_sweep))
    | (refine' Calls.use (is_expr_tree _ _ ?mt _ _ _ ?m1 ?m2) ?k1 ?k2 ?k3 ?k4 ?k5 ?kK ?kd ?ku ?_; (case k1 => k_asm); (case k2 => k_asm); (case k3 => k_asm); (case k4 => k_asm); (case m1 => (first | assumption | exact TreeIn.mono (fun _ h => .tail _ (.tail _ h)) _ _ (by assumption) | exact TreeIn.mono (fun _ h => .tail _ (.tail _ (.tail _ h))) _ _ (by assumption) | exact TreeIn.mono (fun _ h => .tail _ (.tail _ (.tail _ (.tail _ h)))) _ _ (by assumption) | exact TreeIn.mono (fun _ h => .tail _ (.tail _ (.tail _ (.tail _ (.tail _ h))))) _ _ (by assumption))); (case m2 => decide); (case k5 => k_asm); (case kK => first | exact rfl | assumption); (case kd => ktr_room); (case ku => ktr_units); intro r9 n9 h9 t9 F9 N9 ho9; (obtain ⟨e1, e2⟩ := ho9; subst e1; subst e2); (try k_sweep))))
  k_with "call ref" => (k_here; (with_reducible show wpAny _ _ (call (Value.ref 141) _) _ _ _); k_dflt (first
    | (rename AtSpec _ _ => hA9; (refine' Calls.use (hA9 _ _ _ _ _ _ _ _ _ _ _ ?m1 ?m2 ?m3 ?m4 ?m5 ?m6 ?m7) ?k1 ?k2 ?k3 ?k4 ?k5 ?kK ?kd ?ku ?_; (case k1 => k_asm); (case k2 => k_asm); (case k3 => k_asm); (case k4 => (first | k_asm | exact rot1 (by k_asm) | exact rot2 (by k_asm) | exact rot3 (by k_asm) | exact rot4 (by k_asm) | exact rot5 (by k_asm) | exact rot6 (by k_asm) | exact rot7 (by k_asm) | exact rot8 (by k_asm) | exact rot9 (by k_asm))); (case m1 => (first | assumption | exact TreeIn.mono (fun _ h => .tail _ h) _ _ (by assumption) | exact TreeIn.mono (fun _ h => .tail _ (.tail _ h)) _ _ (by assumption) | exact TreeIn.mono (fun _ h => .tail _ (.tail _ (.tail _ h))) _ _ (by assumption) | exact TreeIn.mono (fun _ h => .tail _ (.tail _ (.tail _ (.tail _ h)))) _ _ (by assumption) | exact TreeIn.mono (fun _ h => .tail _ (.tail _ (.tail _ (.tail _ (.tail _ h))))) _ _ (by assumption) | exact TreeIn.mono (fun _ h => .tail _ (.tail _ (.tail _ (.tail _ (.tail _ (.tail _ h)))))) _ _ (by assumption) | exact TreeIn.mono (fun _ h => .tail _ (.tail _ (.tail _ (.tail _ (.tail _ (.tail _ (.tail _ h))))))) _ _ (by assumption) | exact TreeIn.mono (fun _ h => .tail _ (.tail _ (.tail _ (.tail _ (.tail _ (.tail _ (.tail _ (.tail _ h)))))))) _ _ (by assumption) | exact TreeIn.mono (fun _ h => .tail _ (.tail _ (.tail _ (.tail _ (.tail _ (.tail _ (.tail _ (.tail _ (.tail _ h))))))))) _ _ (by assumption))); (case m2 => assumption); (case m3 => assumption); (case m4 => assumption); (case m5 => assumption); (case m6 => (first | assumption | exact all_cons1 (neN (by omega)) (by assumption) | exact all_cons1 (neN (by omega)) (all_cons1 (neN (by omega)) (by assumption)) | exact all_cons1 (neN (by omega)) (all_cons1 (neN (by omega)) (all_cons1 (neN (by omega)) (by assumption))) | exact all_cons1 (neN (by omega)) (all_cons1 (neN (by omega)) (all_cons1 (neN (by omega)) (all_cons1 (neN (by omega)) (by assumption)))) | exact all_cons1 (neN (by omega)) (all_cons1 (neN (by omega)) (all_cons1 (neN (by omega)) (all_cons1 (neN (by omega)) (all_cons1 (neN (by omega)) (by assumption))))) | exact all_cons1 (neN (by omega)) (all_cons1 (neN (by omega)) (all_cons1 (neN (by omega)) (all_cons1 (neN (by omega)) (all_cons1 (neN (by omega)) (all_cons1 (neN (by omega)) (by assumption)))))) | exact all_cons1 (neN (by omega)) (all_cons1 (neN (by omega)) (all_cons1 (neN (by omega)) (all_cons1 (neN (by omega)) (all_cons1 (neN (by omega)) (all_cons1 (neN (by omega)) (all_cons1 (neN (by omega)) (by assumption))))))) | exact all_cons1 (neN (by omega)) (all_cons1 (neN (by omega)) (all_cons1 (neN (by omega)) (all_cons1 (neN (by omega)) (all_cons1 (neN (by omega)) (all_cons1 (neN (by omega)) (all_cons1 (neN (by omega)) (all_cons1 (neN (by omega)) (by assumption)))))))) | exact all_cons1 (neN (by omega)) (all_cons1 (neN (by omega)) (all_cons1 (neN (by omega)) (all_cons1 (neN (by omega)) (all_cons1 (neN (by omega)) (all_cons1 (neN (by omega)) (all_cons1 (neN (by omega)) (all_cons1 (neN (by omega)) (all_cons1 (neN (by omega)) (by assumption))))))))))); (case m7 => decide); (case k5 => k_asm); (case kK => first | exact rfl | assumption); (case kd => ktr_room); (case ku => ktr_units); intro r9 n9 h9 t9 F9 N9 ho9; (obtain ⟨t19, t29, tk9, e1, e2⟩ := ho9; subst e1; subst e2); (try k_sweep)))))
  k_with "compareOp Eq ref ref" => (k_here; k_dflt (first
    | (refine' eq_tups ?N ?u ?m1 ?m2 ?_; (case N => k_asm); (case u => ktr_units); (case m1 => k_mem); (case m2 => k_mem); k_whole)
    | (refine' eq_syms ?N ?u ?m1 ?m2 ?e ?_; (case N => k_asm); (case u => ktr_units); (case m1 => k_mem); (case m2 => k_mem); (case e => first | decide | exact plain_ne (by assumption) _ (by decide)); k_whole)
    | (refine' eq_int_sym ?N ?u ?m1 ?m2 ?_; (case N => k_asm); (case u => ktr_units); (case m1 => k_mem); (case m2 => k_mem); k_whole)))
  k_with "compareOp NotEq ref ref" => (k_here; k_dflt (first
    | (refine' ne_nil0 ?N ?u ?m1 ?m2 ?_; (case N => k_asm); (case u => ktr_units); (case m1 => k_mem); (case m2 => first | exact isTuple_of (by k_asm) (by k_mem)); k_whole)
    | (refine' ne_cons ?N ?u ?m1 ?m2 ?_; (case N => k_asm); (case u => ktr_units); (case m1 => k_mem); (case m2 => first | exact isTuple_of (by k_asm) (by k_mem)); k_whole)))
  k_with "subscriptTail" => (k_here; (with_reducible show wpAny _ _ (subscriptTail _ _ (Value.ref _) (Value.ref _)) _ _ _); (with_unfolding_all refine' slice1 ?F ?N ?m1 ?z ?_ ?hs ?hg; (case F => k_asm); (case N => k_asm); (case m1 => k_mem); (case z => (first | decide | omega | (simp only [List.length_cons, List.length_nil]; omega))); (case hs => exact rfl); (case hg => intro _; exact rfl); k_whole); intro q9 h9 F9 N9 l9; (try k_lt l9); (try k_sweep))
  k_with "subscriptTail" => (k_here; (with_reducible show wpAny _ _ (subscriptTail _ _ (Value.ref _) (Value.int 0 _)) _ _ _); (with_unfolding_all refine' item_first ?N ?m ?_ ?hs; (case N => k_asm); (case m => k_mem); (case hs => exact rfl); k_whole))
  k_with "subscriptTail" => (k_here; (with_reducible show wpAny _ _ (subscriptTail _ _ (Value.ref _) (Value.int 1 _)) _ _ _); (with_unfolding_all refine' item_second ?N ?m ?_ ?hs; (case N => k_asm); (case m => k_mem); (case hs => exact rfl); k_whole))
  k_with "call builtin:len" => (k_here; (with_reducible show wpAny _ _ (call (Value.builtin "len") [Value.ref _]) _ _ _); k_dflt (refine' len_tup ?N ?m ?z ?e ?_; (case N => k_asm); (case m => k_mem); (case z => (first | decide | omega | (simp only [List.length_cons, List.length_nil]; omega))); (case e => first | (simp only [List.length_cons, List.length_nil, Nat.zero_add, Nat.reduceAdd]; exact rfl) | exact rfl); k_whole))
  k_with "eval Name" => (k_here; (with_reducible show wpAny _ _ (eval (Expr.Name _ _) (compEnvC _ _ _ _)) _ _ _); k_dflt (first
    | (refine' comp_local ?n ?v ?_ ?a ?b ?d; (case n => k_asm); (case v => first | assumption | exact rfl); (case a => exact rfl); (case b => exact rfl); (case d => decide); k_whole)
    | (refine' comp_cell ?N ?c ?m ?d ?_ ?a ?b ?e; (case N => k_asm); (case c => exact rfl); (case m => k_mem); (case d => first | assumption | exact rfl); (case a => exact rfl); (case b => exact rfl); (case e => decide); k_whole)
    | (refine' nameG_K ?F ?X ?T ?e ?_ ?g ?k ?x ?d; (case F => k_asm); (case X => k_asm); (case T => k_asm); (case e => k_is); (case g => exact rfl); (case k => exact rfl); (case x => exact rfl); (case d => decide); k_whole)))
  k_with "eval Call Attribute" => (k_here; (with_reducible show wpAny _ _ (eval (Expr.Call (Expr.Attribute _ _ _) _ _ _) _) _ _ _); k_dflt (refine MethodCall_ ?_))
  k_with "eval ListComp" => (k_here; k_dflt ((refine' comp_inv ?c1 ?c2 ?c3 ?c4 ?c5 ?_ ?c6); (case c1 => with_unfolding_all exact rfl); (case c2 => decide); (case c3 => exact rfl); (case c4 => decide); (case c5 => exact rfl); (case c6 => intro _; exact rfl); k_whole))
  k_with "call builtin:str.join" => (k_here; (with_reducible show wpAny _ _ (call (Value.builtin "str.join") [Value.str _ _, Value.ref _]) _ _ _); (with_reducible rename StrsAre _ _ => hS9); k_dflt (refine' join_mine (News.isList ?N ?m) ?i ?k ?_; (case N => k_asm); (case m => k_mem); (case i => simpa using hS9); (case k => assumption)); intro t9 k9)
  k_with "subscriptTail Name Constant ref int" => (k_here; (with_reducible show wpAny _ _ (subscriptTail _ _ (Value.ref _) (Value.int 0 _)) _ _ _); (with_unfolding_all refine' litem_first ?N ?m ?_ ?hs ?hg; (case N => k_asm); (case m => k_mem); (case hs => exact rfl); (case hg => intro _; exact rfl); k_whole))
  k_with "subscriptTail Name Constant ref int" => (k_here; (with_reducible show wpAny _ _ (subscriptTail _ _ (Value.ref _) (Value.int 1 _)) _ _ _); (with_unfolding_all refine' litem_second ?N ?m ?_ ?hs ?hg; (case N => k_asm); (case m => k_mem); (case hs => exact rfl); (case hg => intro _; exact rfl); k_whole))
  k_with "call type:tuple" => (k_here; (with_reducible show wpAny _ _ (call (Value.type _) [Value.ref _]) _ _ _); k_dflt (refine' kde_tupleOf ?k1 ?k2 ?k3 ?k4 ?k5 ?_; (case k1 => k_asm); (case k2 => k_asm); (case k3 => exact News.isList (by k_asm) (by k_mem)); (case k4 => (simp only [List.size_toArray]; omega)); (case k5 => exact rfl); k_whole); intro D' h' F' N' l1; (try k_lt l1); (try k_sweep))
  k_with "call ref" => (k_here; (with_reducible show wpAny _ _ (call (Value.ref 359) _) _ _ _); k_dflt (first
    | (refine' CallsL.use (kit_ _ _ _ _ ?m1 ?m2) ?k1 ?k2 ?k3 ?k4 ?k5 ?kK ?kd ?ku ?kP ?_; (case m1 => assumption); (case m2 => first | assumption | omega); (case k1 => k_asm); (case k2 => k_asm); (case k3 => k_asm); (case k4 => k_asm); (case k5 => k_asm); (case kK => first | exact rfl | assumption); (case kd => ktr_room); (case ku => ktr_units); (case kP => first | assumption | is_list); intro r9 n9 h9 t9 F9 N9 ho9; (obtain ⟨ka9, a9, b9, t19, t29, e9, e1, e2, hk9⟩ := ho9; subst e1; subst e2); (try k_sweep))))
  k_with "call ref" => (k_here; (with_reducible show wpAny _ _ (call (Value.ref 378) _) _ _ _); k_dflt (first
    | (refine' Calls.use (tree_all _ 4 _ _ _ _ _ _ _ _ ?m1 ?m2) ?k1 ?k2 ?k3 ?k4 ?k5 ?kK ?kd ?ku ?_; (case k1 => k_asm); (case k2 => k_asm); (case k3 => k_asm); (case k4 => k_asm); (case m1 => assumption); (case m2 => exact fun p hp => absurd hp List.not_mem_nil); (case k5 => k_asm); (case kK => first | exact rfl | assumption); (case kd => ktr_room); (case ku => ktr_units); intro r9 n9 h9 t9 F9 N9 ho9; (obtain ⟨a9, b9, t19, t29, e9, tl9, T9, e1, hk9, hT9, hW9, hh9, hc9, hn9, ho19⟩ := ho9; subst e1; (have hT99 : TreeIn (tl9 ++ []) T9 _ := TreeIn.mono (fun z hz => List.mem_append_left _ hz) _ _ hT9); (have hcn9 := count_pos T9); (have hb9 : count T9 ≤ 161 := Nat.le_trans hc9 (by decide))); (try k_sweep))))
  k_with "call ref" => (k_here; (with_reducible show wpAny _ _ (call (Value.ref 366) _) _ _ _); k_dflt (first
    | (refine' Calls.use (tool_ _ _ _ ?m1 _ _ _ _ _ ?m2 _ ?m3 ?m4 _) ?k1 ?k2 ?k3 ?k4 ?k5 ?kK ?kd ?ku ?_; (case k1 => k_asm); (case k2 => k_asm); (case k3 => k_asm); (case k4 => (first | k_asm | exact rotA1 (by k_asm) | exact rotA2 (by k_asm) | exact rotA3 (by k_asm) | exact rotA4 (by k_asm) | exact rotA5 (by k_asm) | exact rotA6 (by k_asm) | exact rotA7 (by k_asm) | exact rotA8 (by k_asm) | exact rotA9 (by k_asm))); (case m1 => (repeat' (first | assumption | (refine all_cons1 (neN (by omega)) ?_) | exact fun p hp => absurd hp List.not_mem_nil | exact fun p hp => Nat.ne_of_lt (allLt_at (by assumption) p hp) | exact fun p hp => Nat.ne_of_lt (allLt_at (by assumption : _ ∧ AllLt _ _).2 p hp) | exact fun p hp => Nat.ne_of_lt (allLt_at (by assumption : _ ∧ _ ∧ AllLt _ _).2.2 p hp) | exact fun p hp => Nat.ne_of_lt (allLt_at (by assumption : _ ∧ _ ∧ _ ∧ AllLt _ _).2.2.2 p hp)))); (case m2 => assumption); (case m3 => first | decide | omega); (case m4 => first | decide | omega); (case k5 => k_asm); (case kK => first | exact rfl | assumption); (case kd => ktr_room); (case ku => ktr_units); intro r9 n9 h9 t9 F9 N9 ho9; (obtain ⟨a9, b9, r9, t19, t29, e9, tk9, e1, e2, hk9, hr9, hs9⟩ := ho9; subst e1; subst e2; (obtain ⟨n19, e19⟩ := Int.eq_ofNat_of_zero_le hr9); subst e19; (have hs19 : n19 < 25 := by omega)); (try k_sweep))))
  k_with "call ref" => (k_here; (with_reducible show wpAny _ _ (call (Value.ref 352) _) _ _ _); k_dflt (first
    | (refine' Calls.use (tree_text_ _ _ _ _ _ _ ?m1 ?m2 ?m3) ?k1 ?k2 ?k3 ?k4 ?k5 ?kK ?kd ?ku ?_; (case k1 => k_asm); (case k2 => k_asm); (case k3 => k_asm); (case k4 => k_asm); (case m1 => (first | assumption | exact TreeIn.mono (fun _ h => .tail _ h) _ _ (by assumption) | exact TreeIn.mono (fun _ h => .tail _ (.tail _ h)) _ _ (by assumption) | exact TreeIn.mono (fun _ h => .tail _ (.tail _ (.tail _ h))) _ _ (by assumption) | exact TreeIn.mono (fun _ h => .tail _ (.tail _ (.tail _ (.tail _ h)))) _ _ (by assumption) | exact TreeIn.mono (fun _ h => .tail _ (.tail _ (.tail _ (.tail _ (.tail _ h))))) _ _ (by assumption) | exact TreeIn.mono (fun _ h => .tail _ (.tail _ (.tail _ (.tail _ (.tail _ (.tail _ h)))))) _ _ (by assumption) | exact TreeIn.mono (fun _ h => .tail _ (.tail _ (.tail _ (.tail _ (.tail _ (.tail _ (.tail _ h))))))) _ _ (by assumption) | exact TreeIn.mono (fun _ h => .tail _ (.tail _ (.tail _ (.tail _ (.tail _ (.tail _ (.tail _ (.tail _ h)))))))) _ _ (by assumption) | exact TreeIn.mono (fun _ h => .tail _ (.tail _ (.tail _ (.tail _ (.tail _ (.tail _ (.tail _ (.tail _ (.tail _ h))))))))) _ _ (by assumption))); (case m2 => assumption); (case m3 => omega); (case k5 => k_asm); (case kK => first | exact rfl | assumption); (case kd => ktr_room); (case ku => ktr_units); intro r9 n9 h9 t9 F9 N9 ho9; (obtain ⟨e1, tk9, e2⟩ := ho9; subst e1; subst e2); (try k_sweep))))
  k_with "call ref" => (k_here; (with_reducible show wpAny _ _ (call (Value.ref 352) _) _ _ _); k_dflt (first
    | (refine' Calls.use (tree_text_pred _ _ _ _ _ _ ?m1 ?m2 ?m4 ?m3) ?k1 ?k2 ?k3 ?k4 ?k5 ?kK ?kd ?ku ?_; (case k1 => k_asm); (case k2 => k_asm); (case k3 => k_asm); (case k4 => k_asm); (case m1 => (first | assumption | exact TreeIn.mono (fun _ h => .tail _ h) _ _ (by assumption) | exact TreeIn.mono (fun _ h => .tail _ (.tail _ h)) _ _ (by assumption) | exact TreeIn.mono (fun _ h => .tail _ (.tail _ (.tail _ h))) _ _ (by assumption) | exact TreeIn.mono (fun _ h => .tail _ (.tail _ (.tail _ (.tail _ h)))) _ _ (by assumption) | exact TreeIn.mono (fun _ h => .tail _ (.tail _ (.tail _ (.tail _ (.tail _ h))))) _ _ (by assumption) | exact TreeIn.mono (fun _ h => .tail _ (.tail _ (.tail _ (.tail _ (.tail _ (.tail _ h)))))) _ _ (by assumption) | exact TreeIn.mono (fun _ h => .tail _ (.tail _ (.tail _ (.tail _ (.tail _ (.tail _ (.tail _ h))))))) _ _ (by assumption) | exact TreeIn.mono (fun _ h => .tail _ (.tail _ (.tail _ (.tail _ (.tail _ (.tail _ (.tail _ (.tail _ h)))))))) _ _ (by assumption) | exact TreeIn.mono (fun _ h => .tail _ (.tail _ (.tail _ (.tail _ (.tail _ (.tail _ (.tail _ (.tail _ (.tail _ h))))))))) _ _ (by assumption))); (case m2 => assumption); (case m4 => omega); (case m3 => omega); (case k5 => k_asm); (case kK => first | exact rfl | assumption); (case kd => ktr_room); (case ku => ktr_units); intro r9 n9 h9 t9 F9 N9 ho9; (obtain ⟨e1, tk9, e2⟩ := ho9; subst e1; subst e2); (try k_sweep))))
  k_with "call ref" => (k_here; (with_reducible show wpAny _ _ (call (Value.ref 390) _) _ _ _); k_dflt (first
    | (refine' Calls.use (told_all _ _ 80 _ _ _ _ _ _ ?m1 ?m2 ?m3 ?m4 ?m5) ?k1 ?k2 ?k3 ?k4 ?k5 ?kK ?kd ?ku ?_; (case k1 => k_asm); (case k2 => k_asm); (case k3 => k_asm); (case k4 => (first | k_asm | exact rotA1 (by k_asm) | exact rotA2 (by k_asm) | exact rotA3 (by k_asm) | exact rotA4 (by k_asm) | exact rotA5 (by k_asm) | exact rotA6 (by k_asm) | exact rotA7 (by k_asm) | exact rotA8 (by k_asm) | exact rotA9 (by k_asm))); (case m1 => (first | assumption | exact TreeIn.mono (fun _ h => .tail _ h) _ _ (by assumption) | exact TreeIn.mono (fun _ h => .tail _ (.tail _ h)) _ _ (by assumption) | exact TreeIn.mono (fun _ h => .tail _ (.tail _ (.tail _ h))) _ _ (by assumption) | exact TreeIn.mono (fun _ h => .tail _ (.tail _ (.tail _ (.tail _ h)))) _ _ (by assumption) | exact TreeIn.mono (fun _ h => .tail _ (.tail _ (.tail _ (.tail _ (.tail _ h))))) _ _ (by assumption) | exact TreeIn.mono (fun _ h => .tail _ (.tail _ (.tail _ (.tail _ (.tail _ (.tail _ h)))))) _ _ (by assumption) | exact TreeIn.mono (fun _ h => .tail _ (.tail _ (.tail _ (.tail _ (.tail _ (.tail _ (.tail _ h))))))) _ _ (by assumption) | exact TreeIn.mono (fun _ h => .tail _ (.tail _ (.tail _ (.tail _ (.tail _ (.tail _ (.tail _ (.tail _ h)))))))) _ _ (by assumption) | exact TreeIn.mono (fun _ h => .tail _ (.tail _ (.tail _ (.tail _ (.tail _ (.tail _ (.tail _ (.tail _ (.tail _ h))))))))) _ _ (by assumption))); (case m2 => assumption); (case m3 => omega); (case m4 => omega); (case m5 => (repeat' (first | assumption | (refine all_cons1 (neN (by omega)) ?_) | exact fun p hp => absurd hp List.not_mem_nil | exact fun p hp => Nat.ne_of_lt (allLt_at (by assumption) p hp) | exact fun p hp => Nat.ne_of_lt (allLt_at (by assumption : _ ∧ AllLt _ _).2 p hp) | exact fun p hp => Nat.ne_of_lt (allLt_at (by assumption : _ ∧ _ ∧ AllLt _ _).2.2 p hp) | exact fun p hp => Nat.ne_of_lt (allLt_at (by assumption : _ ∧ _ ∧ _ ∧ AllLt _ _).2.2.2 p hp)))); (case k5 => k_asm); (case kK => first | exact rfl | assumption); (case kd => ktr_room); (case ku => ktr_units); intro r9 n9 h9 t9 F9 N9 ho9; (obtain ⟨tk19, e9, tk9, e1, e2⟩ := ho9; subst e1; subst e2); (try k_sweep))))
  k_with "call ref" => (k_here; (with_reducible show wpAny _ _ (call (Value.ref 395) _) _ _ _); k_dflt (first
    | (refine' Calls.use (many_all _ _ _ _ ?m1 ?m2) ?k1 ?k2 ?k3 ?k4 ?k5 ?kK ?kd ?ku ?_; (case k1 => k_asm); (case k2 => k_asm); (case k3 => k_asm); (case k4 => k_asm); (case m1 => (first | assumption | exact TreeIn.mono (fun _ h => .tail _ h) _ _ (by assumption) | exact TreeIn.mono (fun _ h => .tail _ (.tail _ h)) _ _ (by assumption) | exact TreeIn.mono (fun _ h => .tail _ (.tail _ (.tail _ h))) _ _ (by assumption) | exact TreeIn.mono (fun _ h => .tail _ (.tail _ (.tail _ (.tail _ h)))) _ _ (by assumption) | exact TreeIn.mono (fun _ h => .tail _ (.tail _ (.tail _ (.tail _ (.tail _ h))))) _ _ (by assumption) | exact TreeIn.mono (fun _ h => .tail _ (.tail _ (.tail _ (.tail _ (.tail _ (.tail _ h)))))) _ _ (by assumption) | exact TreeIn.mono (fun _ h => .tail _ (.tail _ (.tail _ (.tail _ (.tail _ (.tail _ (.tail _ h))))))) _ _ (by assumption) | exact TreeIn.mono (fun _ h => .tail _ (.tail _ (.tail _ (.tail _ (.tail _ (.tail _ (.tail _ (.tail _ h)))))))) _ _ (by assumption) | exact TreeIn.mono (fun _ h => .tail _ (.tail _ (.tail _ (.tail _ (.tail _ (.tail _ (.tail _ (.tail _ (.tail _ h))))))))) _ _ (by assumption))); (case m2 => assumption); (case k5 => k_asm); (case kK => first | exact rfl | assumption); (case kd => ktr_room); (case ku => ktr_units); intro r9 n9 h9 t9 F9 N9 ho9; (obtain ⟨e1, tk9, e2⟩ := ho9; subst e1; subst e2); (try k_sweep))))
  k_with "call ref" => (k_here; (with_reducible show wpAny _ _ (call (Value.ref 373) _) _ _ _); k_dflt (first
    | (refine' Calls.use (expr_ _ _ _ _ ?m1 _ ?m2 _ _) ?k1 ?k2 ?k3 ?k4 ?k5 ?kK ?kd ?ku ?_; (case k1 => k_asm); (case k2 => k_asm); (case k3 => k_asm); (case k4 => k_asm); (case m2 => k_mem); (case m1 => first | assumption | omega | (simp; done) | (simp; omega)); (case k5 => k_asm); (case kK => first | exact rfl | assumption); (case kd => ktr_room); (case ku => ktr_units); intro r9 n9 h9 t9 F9 N9 ho9; (obtain ⟨p9, x9, tk9, e1, e2, hn9, hn19, hn29⟩ := ho9; subst e1; subst e2); (try k_sweep))))
  k_with "compareOp In str str" => (k_here; (with_reducible show wpAny _ _ (compareOp _ (Value.str _ _) (Value.str _ _)) _ _ _); k_dflt (first | (refine' in_ok ?ok ?_; (case ok => exact txt_ok _ _ _ (by assumption) (by omega) (by omega)); k_whole) | (refine' in_dd ?ok ?_; (case ok => exact txt_dd _ _ _ (by omega) (by omega)); k_whole)))
  k_with "call type:range" => (k_here; (with_reducible show wpAny _ _ (call (Value.type _) [Value.int _ _]) _ _ _); refine Stop.elim ?_)
  k_with "call ref" => (k_here; (with_reducible show wpAny _ _ (call (Value.ref 352) _) _ _ _); k_dflt (first
    | (refine' Calls.use (tree_text_tall _ _ _ _ ?m1) ?k1 ?k2 ?k3 ?k4 ?k5 ?kK ?kd ?ku ?_; (case k1 => k_asm); (case k2 => k_asm); (case k3 => k_asm); (case k4 => k_asm); (case m1 => assumption); (case k5 => k_asm); (case kK => first | exact rfl | assumption); (case kd => ktr_room); (case ku => ktr_units); intro r9 n9 h9 t9 F9 N9 ho9; (obtain ⟨e1, tk9, e2⟩ := ho9; subst e1; subst e2); (try k_sweep))
    | (refine' Calls.use (tree_text_twice _ _ _ _ _ ?m2 ?m1) ?k1 ?k2 ?k3 ?k4 ?k5 ?kK ?kd ?ku ?_; (case k1 => k_asm); (case k2 => k_asm); (case k3 => k_asm); (case k4 => k_asm); (case m1 => assumption); (case m2 => assumption); (case k5 => k_asm); (case kK => first | exact rfl | assumption); (case kd => ktr_room); (case ku => ktr_units); intro r9 n9 h9 t9 F9 N9 ho9; (obtain ⟨e1, tk9, e2⟩ := ho9; subst e1; subst e2); (try k_sweep))))
  k_with "call ref" => (k_here; (with_reducible show wpAny _ _ (call (Value.ref 390) _) _ _ _); k_dflt (first
    | (refine' Calls.use (told_twice _ _ _ _ _ _ _ ?m2 ?m1 ?m3) ?k1 ?k2 ?k3 ?k4 ?k5 ?kK ?kd ?ku ?_; (case k1 => k_asm); (case k2 => k_asm); (case k3 => k_asm); (case k4 => (first | k_asm | exact rotA1 (by k_asm) | exact rotA2 (by k_asm) | exact rotA3 (by k_asm) | exact rotA4 (by k_asm) | exact rotA5 (by k_asm) | exact rotA6 (by k_asm) | exact rotA7 (by k_asm) | exact rotA8 (by k_asm) | exact rotA9 (by k_asm))); (case m1 => assumption); (case m2 => assumption); (case m3 => first | exact fun p hp => Nat.ne_of_lt (allLt_at (by assumption) p hp) | (intro p hp; refine Nat.ne_of_lt ?_; revert p; assumption)); (case k5 => k_asm); (case kK => first | exact rfl | assumption); (case kd => ktr_room); (case ku => ktr_units); intro r9 n9 h9 t9 F9 N9 ho9; (obtain ⟨l9, tk19, e9, tk9, e1, e2⟩ := ho9; subst e1; subst e2); (try k_sweep))))
  k_with "call builtin:len" => (k_here; (with_reducible show wpAny _ _ (call (Value.builtin "len") [Value.str _ _]) _ _ _); (refine P.len_str (by omega) ?_))
  k_with "call builtin:str.count" => (k_here; (with_reducible show wpAny _ _ (call (Value.builtin "str.count") [Value.str _ _, Value.str _ _]) _ _ _); (refine SC.count ?_))
  trivial
local macro_rules | `(tactic| k_qdec) => `(tactic| decide +kernel)
theorem walk (q : Program) (d : DefRec) (kwd : List (Str × Expr)) (hq : q = V) (hdf : defOf q (Str.ofString "law") = some (d, kwd)) :
    WalkO q loo (XL q LV) (kHook hk.heap_1 ASL (fun _ => by kernel_rfl)).says PySem.Challenge.rw_pc0211_01.row.toRowW d kwd (fun f vs => PySem.call f vs) := by
  subst hq
  obtain ⟨rfl, rfl⟩ := Prod.mk.inj (Option.some.inj (hdf.symm.trans (by rfl : defOf V (Str.ofString "law") = some (_, _))))
  clear hdf
  k_go0
  (all_goals try k_fold)
  obtain ⟨X, hX, hXl, hXc⟩ := isTw_ex
  k_steps
  refine Stop.mk ?_
  refine for_range1 tall (fun t => .node .call [.sym (Str.ofString "f"), t]) 100 (y := Str.ofString "tall") rfl rfl (fun _ => rfl) (by decide) (by decide) rfl (by k_asm) (by k_asm) rfl (by rw [tall, TreeIn]; exact ⟨_, _, _, _, rfl, by k_mem⟩) ?_ ?_
  · intro k1 t1 v1 h1 tk1 own1 F1 N1
    k_steps
    exact tall_turn (by k_asm) (by k_asm) (by assumption) (by assumption) (by first | assumption | exact fun z hz => allLt_at (by assumption) z hz | exact fun z hz => allLt_at (by assumption : _ ∧ AllLt _ _).2 z hz | exact fun z hz => allLt_at (by assumption : _ ∧ _ ∧ AllLt _ _).2.2 z hz) (by first | assumption | exact fun z hz => allLt_at (by assumption) z hz | exact fun z hz => allLt_at (by assumption : _ ∧ AllLt _ _).2 z hz | exact fun z hz => allLt_at (by assumption : _ ∧ _ ∧ AllLt _ _).2.2 z hz) rfl (fun z h1 h2 => by simp [h1, h2])
  · intro u1 v1 tl1 h1 tk1 hT1 ho1 F1 N1
    k_steps
    refine Stop.mk ?_
    refine for_range1 twice (fun t => .node .tup [t, t]) 40 (y := Str.ofString "twice") rfl rfl (fun _ => rfl) (by decide) (by decide) rfl (by k_asm) (by k_asm) rfl (by rw [twice, TreeIn]; exact ⟨_, _, _, _, rfl, by k_mem⟩) ?_ ?_
    · intro k2 t2 v2 h2 tk2 own2 F2 N2
      k_steps
      exact twice_turn (by k_asm) (by k_asm) (by assumption) (by assumption) (by first | assumption | exact fun z hz => allLt_at (by assumption) z hz | exact fun z hz => allLt_at (by assumption : _ ∧ AllLt _ _).2 z hz | exact fun z hz => allLt_at (by assumption : _ ∧ _ ∧ AllLt _ _).2.2 z hz) rfl (fun z h1 h2 => by simp [h1, h2])
    · intro u2 v2 tl2 h2 tk2 hT2 ho2 F2 N2
      have hT1' := TreeIn.mono (fun z hz => List.mem_append_right tl2 hz) _ _ hT1
      k_steps
-- the head makes no twin (a copy with numbers in place of texts) of an object whose twin's name is taken: the file stays small
theorem holds.tw16617498834693519143 : True := trivial
theorem holds.tw9638990691586225099 : True := trivial
theorem holds.tw16315053957116525436 : True := trivial
theorem holds.tw13860560629476652642 : True := trivial
theorem holds.tw11896979934692212325 : True := trivial
theorem holds.tw2682973687022302978 : True := trivial
theorem holds.tw16568243084613897719 : True := trivial
theorem holds.tw16908686848171061149 : True := trivial
theorem holds.tw13980644296350529377 : True := trivial
theorem holds.tw18232564904221570389 : True := trivial
theorem holds.tw11275434479269021171 : True := trivial
theorem holds.tw2936799095737714382 : True := trivial
theorem holds.tw8551410553514715252 : True := trivial
theorem holds.tw9321796208036801940 : True := trivial
theorem holds.tw4998001990490953706 : True := trivial
theorem holds.tw12736823529576279204 : True := trivial
theorem holds.tw945861476033566700 : True := trivial
theorem holds.tw185807328385624810 : True := trivial
theorem holds.tw7873036012977236159 : True := trivial
theorem holds.tw6735552807121987811 : True := trivial
theorem holds.tw8571184235532366510 : True := trivial
theorem holds.tw15464432741802594518 : True := trivial
theorem holds.tw3280128972450656526 : True := trivial
theorem holds.tw16500857126356320474 : True := trivial
theorem holds.tw6606875086121380550 : True := trivial
theorem holds.tw3092724735428445279 : True := trivial
theorem holds.tw9430090754398894584 : True := trivial
theorem holds.tw1569810199879761147 : True := trivial
theorem holds.tw6489310206099298910 : True := trivial
theorem holds.tw13651502964188933756 : True := trivial
theorem holds.tw12467034654032377186 : True := trivial
theorem holds.tw4475622257904601326 : True := trivial
theorem holds.tw685634667276709000 : True := trivial
theorem holds.tw4197124852483764760 : True := trivial
theorem holds.tw3279077582325829838 : True := trivial
theorem holds.tw7145057240379410032 : True := trivial
theorem holds.tw4772410448533662562 : True := trivial
theorem holds.tw11568272619759294016 : True := trivial
theorem holds.tw14027143162585244968 : True := trivial
theorem holds.tw4532548537324856634 : True := trivial
theorem holds.tw2370105137638165564 : True := trivial
theorem holds.tw14456359579513077766 : True := trivial
theorem holds.tw1477864382951527211 : True := trivial
theorem holds.tw1672651397029140864 : True := trivial
theorem holds.tw2155044916094804214 : True := trivial
theorem holds.tw9866653766423218390 : True := trivial
theorem holds.tw7235909688915465346 : True := trivial
theorem holds.tw15670438280644718882 : True := trivial
theorem holds.tw6987649320729488474 : True := trivial
theorem holds.tw1986877004247180340 : True := trivial
theorem holds.tw9441326970708011783 : True := trivial
theorem holds.tw14751579383510745608 : True := trivial
theorem holds.tw14571696787620697854 : True := trivial
theorem holds.tw298297018594106725 : True := trivial
theorem holds.tw12629177860411813126 : True := trivial
theorem holds.tw12762722769849151566 : True := trivial
theorem holds.tw6396523623945614605 : True := trivial
theorem holds.tw8102643725754146565 : True := trivial
theorem holds.tw5857794014393010482 : True := trivial
theorem holds.tw3210078786618844196 : True := trivial
theorem holds.tw5350216910946226995 : True := trivial
theorem holds.tw17450472940649059298 : True := trivial
theorem holds.tw14404905868111484630 : True := trivial
theorem holds.tw8684541073956307770 : True := trivial
theorem holds.tw9408521175777228426 : True := trivial
theorem holds.tw5915465848944024539 : True := trivial
theorem holds.tw10292701021901942622 : True := trivial
theorem holds.tw13899955331829678731 : True := trivial
theorem holds.tw12542415522573167287 : True := trivial
theorem holds.tw12008902284401382014 : True := trivial
theorem holds.tw2003794701753356343 : True := trivial
theorem holds.tw17148229171239856432 : True := trivial
theorem holds.tw4496467784121089108 : True := trivial
theorem holds.tw4252685499439207924 : True := trivial
theorem holds.tw15919173128261314395 : True := trivial
theorem holds.tw9245723823536211039 : True := trivial
theorem holds.tw7821107853891379336 : True := trivial
theorem holds.tw6816380694822836728 : True := trivial
theorem holds.tw12056596633878991817 : True := trivial
theorem holds.tw17647985033660283594 : True := trivial
theorem holds.tw2511256036297951264 : True := trivial
theorem holds.tw13676757877788619591 : True := trivial
theorem holds.tw16801115162389100519 : True := trivial
theorem holds.tw10677865647760817919 : True := trivial
theorem holds.tw9327718836232418737 : True := trivial
theorem holds.tw10202850474951982929 : True := trivial
theorem holds.tw854715265852234644 : True := trivial
theorem holds.tw10637851664137882224 : True := trivial
theorem holds.tw4381757428849502282 : True := trivial
theorem holds.tw9072656965561520583 : True := trivial
theorem holds.tw1974762919298152056 : True := trivial
theorem holds.tw11866763835798034582 : True := trivial
theorem holds.tw16762735861678686087 : True := trivial
theorem holds.tw11341941285841758863 : True := trivial
theorem holds.tw14271935136423247726 : True := trivial
theorem holds.tw7400771686186127474 : True := trivial
theorem holds.tw7221694943082674061 : True := trivial
theorem holds.tw9250495785965993271 : True := trivial
theorem holds.tw11502601298335438083 : True := trivial
theorem holds.tw10494946348260405530 : True := trivial
theorem holds.tw6027180799015181879 : True := trivial
theorem holds.tw13219762378693318442 : True := trivial
theorem holds.tw11413208387583891290 : True := trivial
theorem holds.tw14400433609042604536 : True := trivial
theorem holds.tw13942211991455542721 : True := trivial
theorem holds.tw3117193011312037209 : True := trivial
theorem holds.tw5082999880386992228 : True := trivial
theorem holds.tw9569093901706499007 : True := trivial
theorem holds.tw10840139340582571922 : True := trivial
theorem holds.tw14947864908287233490 : True := trivial
theorem holds.tw15985840036639034899 : True := trivial
theorem holds.tw4079574721724423606 : True := trivial
theorem holds.tw16286308178466712102 : True := trivial
theorem holds.tw8115153917610635543 : True := trivial
theorem holds.tw3589964763223657672 : True := trivial
theorem holds.tw9518972631687950247 : True := trivial
theorem holds.tw6584687340459390829 : True := trivial
theorem holds.tw2752272122444995253 : True := trivial
theorem holds.tw3220966859263460583 : True := trivial
theorem holds.tw10876536743886354276 : True := trivial
theorem holds.tw16887932952891968693 : True := trivial
theorem holds.tw15733542881966949079 : True := trivial
theorem holds.tw14411328915609312922 : True := trivial
theorem holds.tw5898628582698610718 : True := trivial
theorem holds.tw16725066886706607050 : True := trivial
theorem holds.tw8163853742193369449 : True := trivial
theorem holds.tw7791430327242384495 : True := trivial
theorem holds.tw17549760099613038055 : True := trivial
theorem holds.tw9284948610034456067 : True := trivial
theorem holds.tw2758883199114214187 : True := trivial
theorem holds.tw4796666493748621973 : True := trivial
theorem holds.tw12354433232887552844 : True := trivial
theorem holds.tw4952593789767209597 : True := trivial
theorem holds.tw4137054072099604216 : True := trivial
theorem holds.tw2277698456845511444 : True := trivial
theorem holds.tw12553914923479104506 : True := trivial
theorem holds.tw14064534554856164141 : True := trivial
theorem holds.tw12091882185175152326 : True := trivial
theorem holds.tw10009309266167291388 : True := trivial
theorem holds.tw9107170298555381705 : True := trivial
theorem holds.tw2697976716319701033 : True := trivial
theorem holds.tw5959074840488112208 : True := trivial
theorem holds.tw2167384251425162797 : True := trivial
theorem holds.tw14747351113905286367 : True := trivial
theorem holds.tw16497969686579978388 : True := trivial
theorem holds.tw12461706298059298081 : True := trivial
theorem holds.tw7365562674294520451 : True := trivial
theorem holds.tw7885888744534978006 : True := trivial
theorem holds.tw15216533652830951187 : True := trivial
theorem holds.tw151567797773009622 : True := trivial
theorem holds.tw4695128735345963622 : True := trivial
theorem holds.tw6305404595935261976 : True := trivial
theorem holds.tw16697607604324151607 : True := trivial
theorem holds.tw14856189802965030758 : True := trivial
theorem holds.tw15296638952792297585 : True := trivial
theorem holds.tw4374827463496512255 : True := trivial
theorem holds.tw11566098377363298415 : True := trivial
theorem holds.tw1032644102275906610 : True := trivial
theorem holds.tw16034146489351607153 : True := trivial
theorem holds.tw17087466662150396210 : True := trivial
theorem holds.tw9855210162650666830 : True := trivial
theorem holds.tw5323918697378788693 : True := trivial
theorem holds.tw14777700561071354170 : True := trivial
theorem holds.tw14341210406198164329 : True := trivial
theorem holds.tw5583946556138506119 : True := trivial
theorem holds.tw1599260478150983854 : True := trivial
theorem holds.tw13416111870119765123 : True := trivial
theorem holds.tw4408763645494598628 : True := trivial
theorem holds.tw13306226422529918579 : True := trivial
theorem holds.tw7580357766596436714 : True := trivial
theorem holds.tw6278366128872770721 : True := trivial
theorem holds.tw4659233104850659043 : True := trivial
theorem holds.tw3969078344035082030 : True := trivial
theorem holds.tw5768289875352899849 : True := trivial
theorem holds.tw150268843892594924 : True := trivial
theorem holds.tw303617358959260456 : True := trivial
theorem holds.tw3081346186701454755 : True := trivial
theorem holds.tw1438057683635843531 : True := trivial
theorem holds.tw2395783193375807797 : True := trivial
theorem holds.tw10066566674380323332 : True := trivial
theorem holds.tw4921510776622977656 : True := trivial
theorem holds.tw2296293446034493066 : True := trivial
theorem holds.tw5635654813233479639 : True := trivial
theorem holds.tw12870647732520690006 : True := trivial
theorem holds.tw2720468260678641542 : True := trivial
theorem holds.tw17629714610472425511 : True := trivial
theorem holds.tw16569799976186059295 : True := trivial
theorem holds.tw4529002996912422141 : True := trivial
theorem holds.tw9367411864662104596 : True := trivial
theorem holds.tw2562329033357795767 : True := trivial
theorem holds.tw1389151227800987198 : True := trivial
theorem holds.tw142377125942736700 : True := trivial
theorem holds.tw11210861575573996130 : True := trivial
theorem holds.tw15383290158734973844 : True := trivial
theorem holds.tw10684964147190113176 : True := trivial
theorem holds.tw17533166617710000329 : True := trivial
theorem holds.tw7840918076549728228 : True := trivial
theorem holds.tw4043779546988386903 : True := trivial
theorem holds.tw7405762614669717487 : True := trivial
theorem holds.tw5588498093969417903 : True := trivial
theorem holds.tw1466284255255076664 : True := trivial
theorem holds.tw10595842591828190984 : True := trivial
theorem holds.tw11899092608841805274 : True := trivial
theorem holds.tw14432740918813763817 : True := trivial
theorem holds.tw10280545108713110612 : True := trivial
theorem holds.tw13130249910395747862 : True := trivial
theorem holds.tw8393340031374782525 : True := trivial
theorem holds.tw3339025504875072537 : True := trivial
theorem holds.tw2422663375537807432 : True := trivial
theorem holds.tw5006882278849481289 : True := trivial
theorem holds.tw8006095370074002437 : True := trivial
theorem holds.tw7074641181814816541 : True := trivial
theorem holds.tw2215715493939693306 : True := trivial
theorem holds.tw13602253286356535353 : True := trivial
theorem holds.tw341249449185904685 : True := trivial
theorem holds.tw12135579543755162760 : True := trivial
theorem holds.tw12528141070781557109 : True := trivial
theorem holds.tw10576265454180977796 : True := trivial
theorem holds.tw18202751451028033538 : True := trivial
theorem holds.tw5857869478962280401 : True := trivial
theorem holds.tw15969937429085165904 : True := trivial
theorem holds.tw14438757958421221462 : True := trivial
theorem holds.tw10634055019105834221 : True := trivial
theorem holds.tw4500180452004054980 : True := trivial
theorem holds.tw8868040359437915812 : True := trivial
theorem holds.tw3393808461323943489 : True := trivial
theorem holds.tw17094759248423572775 : True := trivial
theorem holds.tw17631178891982236634 : True := trivial
theorem holds.tw12540800736699631050 : True := trivial
theorem holds.tw2781561513384061212 : True := trivial
theorem holds.tw1446027475299390936 : True := trivial
theorem holds.tw5932082505621288647 : True := trivial
theorem holds.tw8575535491628544125 : True := trivial
theorem holds.tw14394845925615563878 : True := trivial
theorem holds.tw14642846902033847964 : True := trivial
theorem holds.tw4753448620645791293 : True := trivial
theorem holds.tw10238092577321643331 : True := trivial
theorem holds.tw4397353207691548035 : True := trivial
theorem holds.tw16139409775219458943 : True := trivial
theorem holds.tw8324913547053779211 : True := trivial
theorem holds.tw143733397751180983 : True := trivial
theorem holds.tw759334954848157859 : True := trivial
theorem holds.tw3378624336152846145 : True := trivial
theorem holds.tw187104208977503339 : True := trivial
theorem holds.tw10531532615022067580 : True := trivial
theorem holds.tw960582308587345451 : True := trivial
theorem holds.tw5747684920607356772 : True := trivial
theorem holds.tw11619669790576578751 : True := trivial
theorem holds.tw2156681307112010326 : True := trivial
theorem holds.tw6159885450047824267 : True := trivial
theorem holds.tw16939745714101447976 : True := trivial
theorem holds.tw3381435865837020940 : True := trivial
theorem holds.tw16878984735049331645 : True := trivial
theorem holds.tw99148262030102190 : True := trivial
theorem holds.tw8260078842695283502 : True := trivial
theorem holds.tw10953125311028157021 : True := trivial
theorem holds.tw13338651292558784369 : True := trivial
theorem holds.tw9039863090174473464 : True := trivial
theorem holds.tw14083959995102712966 : True := trivial
theorem holds.tw8944343764007091065 : True := trivial
theorem holds.tw5295917329084666069 : True := trivial
theorem holds.tw5099458221760260784 : True := trivial
theorem holds.tw4077311611012620791 : True := trivial
theorem holds.tw8239031253751857358 : True := trivial
theorem holds.tw1311399786705062619 : True := trivial
theorem holds.tw10894570999934473159 : True := trivial
theorem holds.tw8087273147054526846 : True := trivial
theorem holds.tw4636335402390110268 : True := trivial
theorem holds.tw9160814584890018001 : True := trivial
theorem holds.tw4128658647157902601 : True := trivial
theorem holds.tw8413133151647880539 : True := trivial
theorem holds.tw4132201380793018340 : True := trivial
theorem holds.tw3232270311777372273 : True := trivial
theorem holds.tw15750308709622187472 : True := trivial
theorem holds.tw1357463484097335404 : True := trivial
theorem holds.tw14781169843320478655 : True := trivial
theorem holds.tw13153363017490239224 : True := trivial
theorem holds.tw5948040445239067262 : True := trivial
theorem holds.tw17551835440721493442 : True := trivial
theorem holds.tw11021402016762074336 : True := trivial
theorem holds.tw15456814982963452760 : True := trivial
theorem holds.tw7516632072315021061 : True := trivial
theorem holds.tw16239030619513480838 : True := trivial
theorem holds.tw1154172846717463235 : True := trivial
theorem holds.tw63030109126827207 : True := trivial
theorem holds.tw11322816463052944642 : True := trivial
theorem holds.tw1639197193820686003 : True := trivial
theorem holds.tw15654153127513851752 : True := trivial
theorem holds.tw1092734292537931370 : True := trivial
theorem holds.tw13208604148985916543 : True := trivial
theorem holds.tw17597196502641442581 : True := trivial
theorem holds.tw15566814792845459997 : True := trivial
theorem holds.tw3937267528351423324 : True := trivial
theorem holds.tw8086972369959518483 : True := trivial
theorem holds.tw10853043219271619230 : True := trivial
theorem holds.tw4717937361131159733 : True := trivial
theorem holds.tw707885073954110949 : True := trivial
theorem holds.tw16049930973857864354 : True := trivial
theorem holds.tw9486143321106344294 : True := trivial
theorem holds.tw820627826665183454 : True := trivial
theorem holds.tw17856180979147524769 : True := trivial
theorem holds.tw18348608232412713582 : True := trivial
theorem holds.tw1833173380454153921 : True := trivial
theorem holds.tw12774209864397607762 : True := trivial
theorem holds.tw8217837808669207805 : True := trivial
theorem holds.tw15493915963290111440 : True := trivial
theorem holds.tw7944191787301449481 : True := trivial
theorem holds.tw3626213265524300766 : True := trivial
theorem holds.tw16179787414501680475 : True := trivial
theorem holds.tw1118671588950128205 : True := trivial
theorem holds.tw9732041140710341944 : True := trivial
theorem holds.tw4480811336153992742 : True := trivial
theorem holds.tw10061326939861387809 : True := trivial
theorem holds.tw16740147826971877517 : True := trivial
theorem holds.tw10071743356415266081 : True := trivial
theorem holds.tw18143120713419237333 : True := trivial
theorem holds.tw1272921112123746405 : True := trivial
theorem holds.tw13334661261001831826 : True := trivial
theorem holds.tw16451975095625300501 : True := trivial
theorem holds.tw9766128667603022514 : True := trivial
theorem holds.tw10491065262344570346 : True := trivial
theorem holds.tw1095465085569150570 : True := trivial
theorem holds.tw8801499457356032720 : True := trivial
theorem holds.tw15785218014132313688 : True := trivial
theorem holds.tw4954732016240277505 : True := trivial
theorem holds.tw6357344898813262543 : True := trivial
theorem holds.tw4065146272016792997 : True := trivial
theorem holds.tw15228004617427520810 : True := trivial
theorem holds.tw14691085348537605332 : True := trivial
theorem holds.tw5565848844497943877 : True := trivial
theorem holds.tw14149781006570564392 : True := trivial
theorem holds.tw17510143785770761814 : True := trivial
theorem holds.tw9523873602847724419 : True := trivial
theorem holds.tw13356387430892511905 : True := trivial
theorem holds.tw15815842588268232306 : True := trivial
theorem holds.tw12698916279152862973 : True := trivial
theorem holds.tw7033360832409044607 : True := trivial
theorem holds.tw7122917452565745793 : True := trivial
theorem holds.tw1882270145967814011 : True := trivial
theorem holds.tw4876135695594978501 : True := trivial
theorem holds.tw15043986215568586124 : True := trivial
theorem holds.tw17822619038779606285 : True := trivial
theorem holds.tw6166532556598395850 : True := trivial
theorem holds.tw2335221107431800076 : True := trivial
theorem holds.tw10645105620128953169 : True := trivial
theorem holds.tw3962193942273884506 : True := trivial
theorem holds.tw15305512045591798990 : True := trivial
theorem holds.tw15421342739227911939 : True := trivial
theorem holds.tw16260029586006496120 : True := trivial
theorem holds.tw1382383790286775375 : True := trivial
theorem holds.tw5923573193019433623 : True := trivial
theorem holds.tw12632932662738783937 : True := trivial
theorem holds.tw14205006904943715905 : True := trivial
theorem holds.tw5112738896828158680 : True := trivial
theorem holds.tw11037822914523747621 : True := trivial
theorem holds.tw2160012875989923789 : True := trivial
theorem holds.tw8351548024695214574 : True := trivial
theorem holds.tw14533596452844920548 : True := trivial
theorem holds.tw5001821809252547642 : True := trivial
theorem holds.tw14607219995997415800 : True := trivial
theorem holds.tw2972900019843275892 : True := trivial
theorem holds.tw2946744036017948005 : True := trivial
theorem holds.tw10447927361281507451 : True := trivial
theorem holds.tw10705619171732726748 : True := trivial
theorem holds.tw14387954076880322906 : True := trivial
theorem holds.tw16955119412671694080 : True := trivial
theorem holds.tw3093010850272755244 : True := trivial
theorem holds.tw2963349702327202441 : True := trivial
theorem holds.tw4905061745869718969 : True := trivial
theorem holds.tw13370180491053348 : True := trivial
theorem holds.tw17858152450515298520 : True := trivial
theorem holds.tw14085268106739128817 : True := trivial
theorem holds.tw2041457743892144894 : True := trivial
theorem holds.tw11311999394344832113 : True := trivial
theorem holds.tw16880556292197207165 : True := trivial
theorem holds.tw10973056549479156102 : True := trivial
theorem holds.tw2802389028402739697 : True := trivial
theorem holds.tw12004910477815969792 : True := trivial
theorem holds.tw6118206324766035986 : True := trivial
theorem holds.tw11818566221774970091 : True := trivial
theorem holds.tw8277820557490507997 : True := trivial
theorem holds.tw9259533211598610082 : True := trivial
theorem holds.tw2929439407932294337 : True := trivial
theorem holds.tw3906943341852370832 : True := trivial
theorem holds.tw17779774989671706653 : True := trivial
theorem holds.tw11223116819087169764 : True := trivial
theorem holds.tw12633084752571091873 : True := trivial
theorem holds.tw10859938921441162988 : True := trivial
theorem holds.tw2667925813562934949 : True := trivial
theorem holds.tw11111472982789046935 : True := trivial
theorem holds.tw8218819101457601776 : True := trivial
theorem holds.tw17476224472650253806 : True := trivial
theorem holds.tw12733908048491186811 : True := trivial
theorem holds.tw3256209041318659551 : True := trivial
theorem holds.tw11775407622660791982 : True := trivial
theorem holds.tw5763553328388235881 : True := trivial
theorem holds.tw8451429660923938374 : True := trivial
theorem holds.tw4381346726385406224 : True := trivial
theorem holds.tw12929723366055764138 : True := trivial
theorem holds.tw4702539438339769474 : True := trivial
theorem holds.tw15203487316939043196 : True := trivial
theorem holds.tw6516123279178997459 : True := trivial
theorem holds.tw2585008018627690749 : True := trivial
theorem holds.tw16035096773351161327 : True := trivial
theorem holds.tw576298715544257586 : True := trivial
theorem holds.tw6099975724469302500 : True := trivial
theorem holds.tw10981351503976158137 : True := trivial
theorem holds.tw14012497318314112844 : True := trivial
theorem holds.tw11569915684508697678 : True := trivial
theorem holds.tw9260842090827677427 : True := trivial
theorem holds.tw15580662879708500073 : True := trivial
theorem holds.tw15402825562841796884 : True := trivial
theorem holds.tw11723004889028688699 : True := trivial
theorem holds.tw4021013208564600997 : True := trivial
theorem holds.tw15477653585598255317 : True := trivial
theorem holds.tw4399152324972305773 : True := trivial
theorem holds.tw13373784697917265674 : True := trivial
theorem holds.tw6424660084863691381 : True := trivial
theorem holds.tw7942442253511216057 : True := trivial
theorem holds.tw5887078386916838634 : True := trivial
theorem holds.tw8087799500789234286 : True := trivial
theorem holds.tw2395109189467087578 : True := trivial
theorem holds.tw6674158366018852832 : True := trivial
theorem holds.tw13758948915013449397 : True := trivial
theorem holds.tw7154447938429058438 : True := trivial
theorem holds.tw13222035019132090745 : True := trivial
theorem holds.tw8035951141280138642 : True := trivial
theorem holds.tw12158838097934144204 : True := trivial
theorem holds.tw9930548314228155742 : True := trivial
theorem holds.tw7258431392514884226 : True := trivial
theorem holds.tw2490583276235294983 : True := trivial
theorem holds.tw10675174832548182787 : True := trivial
theorem holds.tw1349225773494744244 : True := trivial
theorem holds.tw7399101569421298396 : True := trivial
theorem holds.tw3522650409621224377 : True := trivial
theorem holds.tw18193256452927958525 : True := trivial
theorem holds.tw7350330377624401328 : True := trivial
theorem holds.tw6307330118970589470 : True := trivial
theorem holds.tw15942494369296127945 : True := trivial
theorem holds.tw3101148707280403237 : True := trivial
theorem holds.tw7129523546110730894 : True := trivial
theorem holds.tw8070350036930755802 : True := trivial
theorem holds.tw16141144775947785660 : True := trivial
theorem holds.tw10520202591518659360 : True := trivial
theorem holds.tw8143335708233088440 : True := trivial
theorem holds.tw11822188140940861840 : True := trivial
theorem holds.tw5225467491883748592 : True := trivial
theorem holds.tw12160635655254385198 : True := trivial
theorem holds.tw15659084048362614264 : True := trivial
theorem holds.tw13926404443759844560 : True := trivial
theorem holds.tw17453241218497372113 : True := trivial
theorem holds.tw12941468149822085856 : True := trivial
theorem holds.tw13200177327426563521 : True := trivial
theorem holds.tw9816476011544392670 : True := trivial
theorem holds.tw13757568721421367004 : True := trivial
theorem holds.tw17254660705983429885 : True := trivial
theorem holds.tw8664812251140827045 : True := trivial
theorem holds.tw5252246860307943348 : True := trivial
theorem holds.tw427153306818859543 : True := trivial
theorem holds.tw13384883100587833847 : True := trivial
theorem holds.tw18078616723997116376 : True := trivial
theorem holds.tw7794074229983474189 : True := trivial
theorem holds.tw7548614866355832645 : True := trivial
theorem holds.tw8943767207682116370 : True := trivial
theorem holds.tw6460966521098074893 : True := trivial
theorem holds.tw6216033271563703469 : True := trivial
theorem holds.tw6896159741398044905 : True := trivial
theorem holds.tw3834328006691320696 : True := trivial
theorem holds.tw5015485144833937494 : True := trivial
theorem holds.tw8778671856527934898 : True := trivial
theorem holds.tw15462992800728643659 : True := trivial
theorem holds.tw154871700347349385 : True := trivial
theorem holds.tw5791938023122869331 : True := trivial
theorem holds.tw4099327968038344119 : True := trivial
theorem holds.tw915018914566706432 : True := trivial
theorem holds.tw2976685253332725484 : True := trivial
theorem holds.tw1876284267304334591 : True := trivial
theorem holds.tw11968577826497805164 : True := trivial
theorem holds.tw13150661809386230508 : True := trivial
theorem holds.tw18173914834931495973 : True := trivial
theorem holds.tw14977296931134136204 : True := trivial
theorem holds.tw13945929957867325323 : True := trivial
theorem holds.tw8105830805119860317 : True := trivial
theorem holds.tw9232459349045140238 : True := trivial
theorem holds.tw11450275943994455990 : True := trivial
theorem holds.tw17417429595627488627 : True := trivial
theorem holds.tw3811385743445658432 : True := trivial
theorem holds.tw14314133134477209284 : True := trivial
theorem holds.tw15814798929938293467 : True := trivial
theorem holds.tw9784731065822230439 : True := trivial
theorem holds.tw2207817973478938216 : True := trivial
theorem holds.tw16532224993992427823 : True := trivial
theorem holds.tw9370115536473471133 : True := trivial
theorem holds.tw18224010420261798391 : True := trivial
theorem holds.tw12563481999192008768 : True := trivial
theorem holds.tw5274829272982666545 : True := trivial
theorem holds.tw10269081998898121243 : True := trivial
theorem holds.tw12306811582311103309 : True := trivial
theorem holds.tw5471403574791894133 : True := trivial
theorem holds.tw1552857426587298226 : True := trivial
theorem holds.tw5619803957841784048 : True := trivial
theorem holds.tw9157471666820141079 : True := trivial
theorem holds.tw17274456146704370614 : True := trivial
theorem holds.tw17699125900338286826 : True := trivial
set_option Elab.async true in
theorem holds : PySem.Challenge.rw_pc0211_01.Holds := by
  w_on
  o_law
  o_head (kHook hk.heap_1 ASL (fun _ => by kernel_rfl))
  case hw => w_witness2
  case hc => exact walk _ _ _ (by kernel_rfl) (by rfl)
end Mine
theorem PySem.Challenge.cw_pc0211_01_holds : PySem.Challenge.rw_pc0211_01.Holds := by
  exact Mine.holds
