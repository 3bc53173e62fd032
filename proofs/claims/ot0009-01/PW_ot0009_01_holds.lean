import PyProof.Rows.All
import Wide.All
import OpenK.AllK
import Wide.FinOn
import Lean
import PySem.Challenge.RW_ot0009_01
open PySem PySem.W PyProof.Rows
set_option Elab.async false
set_option compiler.extract_closed false
set_option linter.all false
namespace Mine
-- part B0
set_option maxRecDepth 100000 in
set_option maxHeartbeats 8000000 in
open_top hd for PySem.Challenge.rw_ot0009_01
/-- the walker back as a fresh file has it -/
theorem quiet : True := by
  w_top off
  trivial

-- part S1
section
abbrev Led := List (Addr × Obj)
abbrev tupO (vs : List Value) (n : Nat) : Obj := { cls := .type "tuple", data := .seq vs.toArray n }
abbrev lstO (vs : List Value) (n : Nat) : Obj := { cls := .type "list", data := .seq vs.toArray n }

def Spec (prog : Program) (w : World) (K : Frag) (p : Program) (loose : List Str) (mean : ExcName → Option Value) (mg mb : Str → Option Value)
    (f : Addr) (nd nu : Nat) (vs : List Value) (Pre : Led → Prop) (Post : Led → Led → Value → Prop) : Prop :=
  ∀ (dp un : Nat) (gd : Option (List Code)) (cn : Str) (cs : Scope) (a : Addr) (ccd : Value) (cl : List (Str × Addr)) (outer : List Env) (A₀ : Around) (base h₀ : Heap) (L : Addr) (m : Str → Option Value) (news : Led) (s : Shared)
    (Q E : Value → Shared → Prop),
    Below A₀ base outer h₀ → Fr h₀ L s.heap m → K.In h₀ → News h₀ L s.heap news → Top p loose mean mg mb h₀ → cs.kind = .function → Pre news → dp + nd < recursionLimit → un + nu < cLine →
    (∀ r news' h' tk', Fr h₀ L h' m → News h₀ L h' news' → Post news news' r → Q r { s with heap := h', toks := tk' }) →
    wpAny (model prog w) (ktrTop dp un gd cn cs L a ccd cl outer) (call (.ref f) vs) Q E s

def Src (news : Led) (src : Addr) : Prop := ∃ a b ta tb n, (src, lstO [.int a ta, .int b tb] n) ∈ news ∧ 0 ≤ a ∧ 0 ≤ b ∧ b < 2147483647
def Upto (src : Addr) (news news' : Led) : Prop := ∀ p ∈ news, p.1 ≠ src → p ∈ news'
end

-- part R1
section
def setL (d : Addr) (o : Obj) (news : Led) : Led := news.map fun p => if p.1 = d then (d, o) else p
theorem setL_ne {d : Addr} {o : Obj} {news : Led} {p : Addr × Obj} (h : p ∈ news) (hn : p.1 ≠ d) : p ∈ setL d o news :=
  List.mem_map.mpr ⟨p, h, by rw [if_neg hn]⟩
theorem setL_self {d : Addr} {o o' : Obj} {news : Led} (h : (d, o) ∈ news) : (d, o') ∈ setL d o' news :=
  List.mem_map.mpr ⟨_, h, by rw [if_pos rfl]⟩
theorem setL_upto {d : Addr} {o : Obj} {news : Led} : Upto d news (setL d o news) := fun _ hp hn => setL_ne hp hn
theorem news_setL {h₀ h h' : Heap} {L d : Addr} {o o' : Obj} {news : Led} (N : News h₀ L h news) (hm : (d, o) ∈ news) (hs : Heap.SameBut d h h') (ho : h'.get? d = some o') : News h₀ L h' (setL d o' news) := by
  intro p hp
  obtain ⟨q, hq, e⟩ := List.mem_map.mp hp
  by_cases h1 : q.1 = d
  · rw [if_pos h1] at e
    subst e
    exact ⟨ho, (N _ hm).2⟩
  · rw [if_neg h1] at e
    subst e
    exact ⟨(hs.2 _ h1).trans (N _ hq).1, (N _ hq).2⟩

/-- what is a tuple stays -/
def Tups (news news' : Led) : Prop := ∀ (a : Addr) (vs : List Value) (n : Nat), (a, tupO vs n) ∈ news → (a, tupO vs n) ∈ news'
theorem Tups.app {a b : Led} {x : Addr} {vs : List Value} {n : Nat} (T : Tups a b) (h : (x, tupO vs n) ∈ a) : (x, tupO vs n) ∈ b := T _ _ _ h
theorem Tups.refl {news : Led} : Tups news news := fun _ _ _ h => h
theorem Tups.trans {a b c : Led} (h : Tups a b) (k : Tups b c) : Tups a c := fun _ _ _ x => k _ _ _ (h _ _ _ x)
theorem Tups.cons {news : Led} {p : Addr × Obj} : Tups news (p :: news) := fun _ _ _ h => .tail _ h
theorem Tups.set {h₀ h : Heap} {L D : Addr} {news : Led} {vs : List Value} {n : Nat} {o : Obj} (N : News h₀ L h news) (hm : (D, lstO vs n) ∈ news) : Tups news (setL D o news) := by
  intro a us k ha
  refine setL_ne ha fun e => ?_
  have e' : a = D := e
  subst e'
  have h1 := (N _ ha).1
  rw [(N _ hm).1] at h1
  have h2 := congrArg (fun o : Option Obj => o.map Obj.cls) h1
  simp at h2

section
variable {prog : Program} {w : World} {A : Around} {E : Value → Shared → Prop} {s : Shared} {h₀ : Heap} {L D : Addr} {m : Str → Option Value} {news : Led} {vs : List Value} {n : Nat} {k : Int} {t u : Tok} {v x : Value}
theorem m_get_list {Q : Value → Shared → Prop} (N : News h₀ L s.heap news) (hm : (D, lstO vs n) ∈ news) (h0 : 0 ≤ k) (hf : k < 2 ^ 63) (hx : vs[k.toNat]? = some v) (h : Q v s) :
    wpAny (model prog w) A (getItem (.ref D) (.int k u)) Q E s := wpAny_getItem_list (News.isList N hm) h0 hf (by simpa using hx) h
theorem m_sub_list {value slice : PySem.Expr} {Q : Value → Shared → Prop} (N : News h₀ L s.heap news) (hm : (D, lstO vs n) ∈ news) (h0 : 0 ≤ k) (hf : k < 2 ^ 63) (hx : vs[k.toNat]? = some v) (h : Q v s)
    (hs : subscripted slice false (.ref D) (.int k u) = operate [.ref D, .int k u] (getItem (.ref D) (.int k u)) := by with_unfolding_all rfl) :
    wpAny (model prog w) A (subscriptTail value slice (.ref D) (.int k u)) Q E s :=
  tail_any (News.isList N hm).typeIs slot_list_getitem.lookup (m_get_list N hm h0 hf hx h) hs
theorem m_sub_listN {i : Nat} {value slice : PySem.Expr} {Q : Value → Shared → Prop} (N : News h₀ L s.heap news) (hm : (D, lstO vs n) ∈ news) (hi : i < 2 ^ 62) (hx : vs[i]? = some v) (h : Q v s)
    (hs : subscripted slice false (.ref D) (.int (i : Int) u) = operate [.ref D, .int (i : Int) u] (getItem (.ref D) (.int (i : Int) u)) := by with_unfolding_all rfl) :
    wpAny (model prog w) A (subscriptTail value slice (.ref D) (.int (i : Int) u)) Q E s :=
  m_sub_list N hm (Int.natCast_nonneg i) (by omega) (by simpa using hx) h hs
theorem m_get_tup {Q : Value → Shared → Prop} (N : News h₀ L s.heap news) (hm : (D, tupO vs n) ∈ news) (h0 : 0 ≤ k) (hf : k < 2 ^ 63) (hx : vs[k.toNat]? = some v) (h : Q v s) :
    wpAny (model prog w) A (getItem (.ref D) (.int k u)) Q E s := by
  have hlt : k.toNat < vs.length := (List.getElem?_eq_some_iff.mp hx).1
  refine getItem_tuple (j := k.toNat) (News.isTup N hm) (by omega) hf ?_ (by simpa using hx) h
  have e : vs.toArray.size = vs.length := by simp
  rw [e]
  unfold seqIndex?
  have hk : ¬ k < 0 := by omega
  simp only [hk, if_false]
  have h2 : (decide (0 ≤ k) && decide (k < (vs.length : Int))) = true := by
    simp only [Bool.and_eq_true, decide_eq_true_eq]; omega
  rw [if_pos h2]
theorem m_sub_tup {value slice : PySem.Expr} {Q : Value → Shared → Prop} (N : News h₀ L s.heap news) (hm : (D, tupO vs n) ∈ news) (h0 : 0 ≤ k) (hf : k < 2 ^ 63) (hx : vs[k.toNat]? = some v) (h : Q v s)
    (hs : subscripted slice false (.ref D) (.int k u) = operate [.ref D, .int k u] (getItem (.ref D) (.int k u)) := by with_unfolding_all rfl) :
    wpAny (model prog w) A (subscriptTail value slice (.ref D) (.int k u)) Q E s :=
  tail_any (News.isTup N hm).typeIs slot_tuple_getitem.lookup (m_get_tup N hm h0 hf hx h) hs
theorem m_sub_last {value slice : PySem.Expr} {Q : Value → Shared → Prop} (N : News h₀ L s.heap news) (hm : (D, lstO (vs ++ [v]) n) ∈ news) (h : Q v s)
    (hs : subscripted slice false (.ref D) (.int (-1) u) = operate [.ref D, .int (-1) u] (getItem (.ref D) (.int (-1) u)) := by with_unfolding_all rfl) :
    wpAny (model prog w) A (subscriptTail value slice (.ref D) (.int (-1) u)) Q E s :=
  tail_any (News.isList N hm).typeIs slot_list_getitem.lookup (wpAny_getItem_list_neg (News.isList N hm) (by decide) (by simp; omega) (by decide) (by
    have e : ((-1 : Int) + ((vs ++ [v]).toArray.size : Nat)).toNat = vs.length := by simp; omega
    rw [e]; simp) h) hs
theorem m_set_list {Q : Unit → Shared → Prop} (F : Fr h₀ L s.heap m) (N : News h₀ L s.heap news) (hm : (D, lstO vs n) ∈ news) (h0 : 0 ≤ k) (hf : k < 2 ^ 63) (hn : k < vs.length)
    (h : ∀ h', Fr h₀ L h' m → News h₀ L h' (setL D (lstO (vs.set k.toNat x) n) news) → Tups news (setL D (lstO (vs.set k.toNat x) n) news) → Q () { s with heap := h' }) :
    wpAny (model prog w) A (setItem (.ref D) (.int k t) x) Q E s := by
  have z := N _ hm
  refine ki_setAt z.1 h0 hf (by simpa using hn) (h _ (F.change (Heap.SameBut.update ..) z.2.1 z.2.2) (news_setL N hm (Heap.SameBut.update ..) ?_) (Tups.set N hm))
  have e : (Obj.mapSeq (fun x_1 => x_1.setIfInBounds k.toNat x)) (lstO vs n) = lstO (vs.set k.toNat x) n := by
    show (⟨_, _, .seq _ _, _⟩ : Obj) = _
    simp
  rw [← e]
  exact Heap.get?_update_self _ z.1 (by rw [e]; rfl)
theorem m_append {Q : Value → Shared → Prop} (F : Fr h₀ L s.heap m) (N : News h₀ L s.heap news) (hm : (D, lstO vs n) ∈ news)
    (h : ∀ h', Fr h₀ L h' m → News h₀ L h' (setL D (lstO (vs ++ [x]) (n + 1)) news) → Tups news (setL D (lstO (vs ++ [x]) (n + 1)) news) → Q .none { s with heap := h' }) (hsz : vs.length ≤ sizeLine := by size_fits) :
    wpAny (model prog w) A (call (.builtin "list.append") [.ref D, x]) Q E s := by
  have z := N _ hm
  refine append_at (hsz := by simpa using hsz) z.1 fun h' hs ho' => h h' (F.change hs z.2.1 z.2.2) (news_setL N hm hs ?_) (Tups.set N hm)
  rw [ho']; simp
theorem m_tuple {Q : Value → Shared → Prop} (F : Fr h₀ L s.heap m) (N : News h₀ L s.heap news) (hm : (D, lstO vs n) ∈ news) (hz : vs.length ≤ 16384)
    (h : ∀ T h', Fr h₀ L h' m → News h₀ L h' ((T, tupO vs 0) :: news) → (∀ p ∈ news, p.1 < T) → Q (.ref T) { s with heap := h' }) : wpAny (model prog w) A (call (.type "tuple") [.ref D]) Q E s :=
  kde_tupleOf F N (News.isList N hm) (by simpa using hz) (by simp) h
theorem m_list {Q : Value → Shared → Prop} (F : Fr h₀ L s.heap m) (N : News h₀ L s.heap news) (hm : (D, lstO vs n) ∈ news) (hz : vs.length ≤ 16384)
    (h : ∀ T c h', Fr h₀ L h' m → News h₀ L h' ((T, lstO vs c) :: news) → (∀ p ∈ news, p.1 < T) → Q (.ref T) { s with heap := h' }) : wpAny (model prog w) A (call (.type "list") [.ref D]) Q E s :=
  list_copyK F N (News.isList N hm) h (by rw [sizeLine_eq, List.size_toArray]; omega)
end
end

-- part M1
local macro_rules | `(tactic| walk_at "subscriptTail") => `(tactic| (k_here; (with_reducible show wpAny _ _ (subscriptTail _ _ (Value.ref _) (Value.int _ _)) _ _ _); k_dflt ((first | refine m_sub_tup (by k_asm) (by first | k_mem | fail) (by decide) (by decide) (by rfl) ?_ | refine m_sub_list (by k_asm) (by first | k_mem | fail) (by decide) (by decide) (by rfl) ?_ | fail); k_whole)))
local macro_rules | `(tactic| walk_at "subscriptTail") => `(tactic| (k_here; (with_reducible show wpAny _ _ (subscriptTail _ _ (Value.ref _) (Value.int (-1) _)) _ _ _); k_dflt ((first | refine m_sub_last (by k_asm) (by first | k_mem | fail) ?_ | fail); k_whole)))
local macro_rules | `(tactic| walk_at "subscriptTail") => `(tactic| (k_here; (with_reducible show wpAny _ _ (subscriptTail _ _ (Value.ref _) (Value.int (Nat.cast _) _)) _ _ _); k_dflt ((first | refine m_sub_listN (by k_asm) (by first | k_mem | fail) (by with_reducible assumption) (by with_reducible assumption) ?_ | fail); k_whole)))
local macro_rules | `(tactic| walk_at "getItem ref int") => `(tactic| (k_here; k_dflt ((first | refine m_get_list (by k_asm) (by first | k_mem | fail) (by decide) (by decide) (by rfl) ?_ | fail); k_whole)))
local macro_rules | `(tactic| walk_at "setItem ref int") => `(tactic| (k_here; k_dflt ((first | refine m_set_list (by k_asm) (by k_asm) (by first | k_mem | fail) (by decide) (by decide) (by (((simp only [List.length_cons, List.length_nil]); omega))) ?_ | fail); k_whole); intro h' F' N' P'; (try dsimp only [List.set, Int.toNat] at N' P'); (try k_sweep)))
local macro_rules | `(tactic| walk_at "call type:list") => `(tactic| (k_here; k_dflt ((first | refine m_list (by k_asm) (by k_asm) (by first | k_mem | fail) (by (((try simp only [List.length_append, List.length_cons, List.length_nil, List.length_map] at *); omega))) ?_ | fail); k_whole); intro D' c' h' F' N' l1; (try k_lt l1); (try k_sweep)))
local macro_rules | `(tactic| walk_at "call type:tuple") => `(tactic| (k_here; k_dflt ((first | refine m_tuple (by k_asm) (by k_asm) (by first | k_mem | fail) (by (((try simp only [List.length_append, List.length_cons, List.length_nil, List.length_map] at *); omega))) ?_ | fail); k_whole); intro D' h' F' N' l1; (try k_lt l1); (try k_sweep)))
local macro_rules | `(tactic| walk_at "call builtin:list.append") => `(tactic| (k_here; k_dflt ((first | refine m_append (by k_asm) (by k_asm) (by first | k_mem | fail) ?_ (by (first | ((rw [sizeLine_eq]); (try simp only [List.length_append, List.length_cons, List.length_nil, List.length_map]); omega) | ((try simp only [List.length_append, List.length_cons, List.length_nil, List.length_map] at *); (rw [sizeLine_eq]); omega))) | fail); k_whole); intro h' F' N' P'; (try k_sweep)))
theorem m_isTup {D : Addr} {vs : List Value} {n : Nat} {news : Led} (h : (D, tupO vs n) ∈ news) : (D, tupO vs n) ∈ news := h
local macro_rules | `(tactic| k_mem) => `(tactic| first | exact List.mem_cons_self | (refine' List.mem_cons_of_mem _ ?m0; (case m0 => k_mem)))
local macro_rules | `(tactic| k_mem) => `(tactic| (((with_reducible show _ ∈ setL _ _ _)); refine' setL_ne ?m0 ?n0; (case n0 => (((try dsimp only); first | with_reducible assumption | with_reducible exact Ne.symm (by assumption)))); (case m0 => k_mem)))
local macro_rules | `(tactic| k_mem) => `(tactic| (((with_reducible show _ ∈ setL _ _ _)); refine' setL_self ?m0; (case m0 => k_mem)))
local macro_rules | `(tactic| k_mem) => `(tactic| (((with_reducible show _ ∈ setL _ _ _)); refine' Tups.app ?t0 ?m0; (case t0 => with_reducible assumption); (case m0 => k_mem)))

-- part S2
section
def Stop (P : Prop) : Prop := P
theorem stop_of {P : Prop} (h : Stop P) : P := h

theorem Spec.use {prog : Program} {w : World} {K : Frag} {p : Program} {loose : List Str} {mean : ExcName → Option Value} {mg mb : Str → Option Value}
    {f : Addr} {nd nu : Nat} {vs : List Value} {Pre : Led → Prop} {Post : Led → Led → Value → Prop} (C : Spec prog w K p loose mean mg mb f nd nu vs Pre Post)
    {dp un : Nat} {gd : Option (List Code)} {cn : Str} {cs : Scope} {a : Addr} {ccd : Value} {cl : List (Str × Addr)} {outer : List Env} {A₀ : Around} {base h₀ : Heap} {L : Addr} {m : Str → Option Value} {news : Led} {s : Shared}
    {Q E : Value → Shared → Prop} (B : Below A₀ base outer h₀) (F : Fr h₀ L s.heap m) (X : K.In h₀) (N : News h₀ L s.heap news) (T : Top p loose mean mg mb h₀) (hk : cs.kind = .function) (hp : Pre news) (hd : dp + nd < recursionLimit) (hu : un + nu < cLine)
    (ret : ∀ r news' h' tk', Fr h₀ L h' m → News h₀ L h' news' → Post news news' r → Q r { s with heap := h', toks := tk' }) :
    wpAny (model prog w) (ktrTop dp un gd cn cs L a ccd cl outer) (call (.ref f) vs) Q E s := C _ _ _ _ _ _ _ _ _ _ _ _ _ _ _ _ _ _ B F X N T hk hp hd hu ret

inductive Ty where
  | int
  | tup (a b : Ty)
  | arr (t : Ty)
  | box (t : Ty)
  | ref (m : Bool) (t : Ty)

inductive TyIn (news : Led) : Value → Ty → Prop where
  | int {a : Addr} {t1 t2 : Tok} {n : Nat} : (a, tupO [.str (Str.ofString "int") t1, .str (Str.ofString "u8") t2] n) ∈ news → TyIn news (.ref a) .int
  | tup {a b : Addr} {t1 : Tok} {n1 n2 : Nat} {x y : Value} {tx ty : Ty} : (a, tupO [.str (Str.ofString "tuple") t1, .ref b] n1) ∈ news → (b, tupO [x, y] n2) ∈ news → TyIn news x tx → TyIn news y ty → TyIn news (.ref a) (.tup tx ty)
  | arr {a : Addr} {t1 t2 : Tok} {n : Nat} {x : Value} {t : Ty} : (a, tupO [.str (Str.ofString "array") t1, x, .int 2 t2] n) ∈ news → TyIn news x t → TyIn news (.ref a) (.arr t)
  | box {a : Addr} {t1 : Tok} {n : Nat} {x : Value} {t : Ty} : (a, tupO [.str (Str.ofString "box") t1, x] n) ∈ news → TyIn news x t → TyIn news (.ref a) (.box t)
  | ref {a : Addr} {t1 : Tok} {n : Nat} {x : Value} {t : Ty} {m : Bool} : (a, tupO [.str (Str.ofString "ref") t1, .none, .bool m, x] n) ∈ news → TyIn news x t → TyIn news (.ref a) (.ref m t)

theorem TyIn.mono {news news' : Led} {v : Value} {t : Ty} (h : TyIn news v t) (k : Tups news news') : TyIn news' v t := by
  induction h with
  | int h => exact .int (k _ _ _ h)
  | tup h1 h2 _ _ i1 i2 => exact .tup (k _ _ _ h1) (k _ _ _ h2) i1 i2
  | arr h _ i => exact .arr (k _ _ _ h) i
  | box h _ i => exact .box (k _ _ _ h) i
  | ref h _ i => exact .ref (k _ _ _ h) i

theorem News.ne_src {h₀ h : Heap} {L a src : Addr} {news : Led} {vs us : List Value} {n k : Nat} (N : News h₀ L h news) (ha : (a, tupO vs n) ∈ news) (hs : (src, lstO us k) ∈ news) : a ≠ src := by
  intro e
  subst e
  have h1 := (N _ ha).1
  rw [(N _ hs).1] at h1
  have h2 := congrArg (fun o : Option Obj => o.map Obj.cls) h1
  simp at h2
theorem Upto.tups {h₀ h : Heap} {L src : Addr} {news news' : Led} (U : Upto src news news') (N : News h₀ L h news) (S : Src news src) : Tups news news' := by
  intro a vs n hm
  obtain ⟨_, _, _, _, _, hs, _⟩ := S
  exact U _ hm (News.ne_src N hm hs)
structure Ext (src : Addr) (a b : Led) : Prop where
  upto : Upto src a b
  tups : Tups a b
theorem Ext.trans {src : Addr} {a b c : Led} (h : Ext src a b) (k : Ext src b c) : Ext src a c := ⟨fun p hp hn => k.upto p (h.upto p hp hn) hn, h.tups.trans k.tups⟩
theorem Ext.refl {src : Addr} {a : Led} : Ext src a a := ⟨fun _ h _ => h, .refl⟩
theorem Ext.cons {src : Addr} {a : Led} {p : Addr × Obj} : Ext src a (p :: a) := ⟨fun _ h _ => .tail _ h, .cons⟩
theorem Ext.setL {h₀ h : Heap} {L src : Addr} {news : Led} {o : Obj} (N : News h₀ L h news) (S : Src news src) : Ext src news (setL src o news) := ⟨setL_upto, Upto.tups setL_upto N S⟩
theorem Src.cons {news : Led} {p : Addr × Obj} {src : Addr} (h : Src news src) : Src (p :: news) src := by
  obtain ⟨a, b, ta, tb, n, hm, r⟩ := h
  exact ⟨a, b, ta, tb, n, .tail _ hm, r⟩
theorem Ext.set {src al : Addr} {news0 nw : Led} {o : Obj} (hal : ∀ p ∈ news0, p.1 ≠ al) (U : Ext src news0 nw) (T : Tups nw (Mine.setL al o nw)) : Ext src news0 (Mine.setL al o nw) :=
  ⟨fun p hp hn => setL_ne (U.upto p hp hn) (hal p hp), U.tups.trans T⟩
theorem Src.set {src al : Addr} {nw : Led} {o : Obj} (S : Src nw src) (hn : src ≠ al) : Src (setL al o nw) src := by
  obtain ⟨a, b, ta, tb, n, hm, r⟩ := S
  exact ⟨a, b, ta, tb, n, setL_ne hm hn, r⟩
def Ty.depth : Ty → Nat
  | .int => 0
  | .tup a b => max a.depth b.depth + 1
  | .arr t => t.depth + 1
  | .box t => t.depth + 1
  | .ref _ t => t.depth + 1
end

-- part M2
def stopAt (a : Addr) : Bool := a == 190 || a == 204 || a == 211 || a == 164 || a == 171 || a == 176 || a == 157 || a == 183
theorem stop_ref {M : Model} {A : Around} {Q E : Value → Shared → Prop} {s : Shared} {a : Addr} {vs : List Value} (_ : stopAt a = true) (h : Stop (wpAny M A (call (.ref a) vs) Q E s)) : wpAny M A (call (.ref a) vs) Q E s := h
local macro_rules | `(tactic| walk_at "m_enter") => `(tactic| (refine' code_def ?k1 ?k2 ?k3 ?k4 ?k5 ?kA ?kF ?kK ?k6 ?k7 ?k8 ?k9 ?kB ?_ ?c2 ?c3 ?c4 ?c5; (case kA => exact rfl); (case kF => exact rfl); (case kK => first | exact rfl | assumption); (case k1 => k_asm); (case k2 => k_asm); (case k3 => k_asm); (case k4 => k_asm); (case k5 => k_asm); (case k6 => k_is); (case k7 => k_is); (case k8 => (((try simp only [depth_under_make, depth_under_kw, depth_in1, depth_deeper, depth_caller]); (try dsimp only [ktrTop]); (simp only [recursionLimit] at *); omega))); (case k9 => first | exact BindsTo.of_eq rfl | exact binds_K (by k_in) rfl (by k_is) rfl rfl rfl); (case c5 => decide); (case kB => exact locs rfl); (case c2 => exact rfl); (case c3 => exact rfl); (case c4 => exact rfl); k_whole; intro g' L' h' FG' F' N' B' X' T'; (try dsimp only); (try k_fold)))
local macro_rules | `(tactic| walk_at "call ref") => `(tactic| (k_here; k_dflt (first
  | (refine call_cls (by k_asm) (by k_asm) (by k_asm) (by k_is) (by k_is) (by k_is) ?_; k_whole; intro x' d' h' F' N' l1 l2; (try k_lt l1); (try k_lt2 l2); (try k_sweep); (walk_at "m_enter"))
  | (refine call_meth (by k_asm) (by first | k_mem | fail) ?_; k_whole; (walk_at "m_enter"))
  | (refine wpAny_call ?_; (walk_at "m_enter")))))
local macro_rules | `(tactic| walk_at "call ref") => `(tactic| (k_here; refine stop_ref (by decide) ?_))

local macro_rules | `(tactic| walk_at "m_src") => `(tactic| first | assumption | (refine Src.cons ?_; (walk_at "m_src")))
local macro_rules | `(tactic| walk_at "m_ext") => `(tactic| first | assumption | exact Ext.refl | (refine Ext.trans ?_ Ext.cons; (walk_at "m_ext")) | (refine' Ext.trans ?_ ?u9; (case u9 => assumption); (walk_at "m_ext")))
local macro_rules | `(tactic| walk_at "m_tups") => `(tactic| first | assumption | exact Tups.refl | (refine Tups.trans ?_ Tups.cons; (walk_at "m_tups")) | (refine' Tups.trans ?_ ?u9; (case u9 => assumption); (walk_at "m_tups")) | (refine' Tups.trans ?_ (Ext.tups ?u9); (case u9 => assumption); (walk_at "m_tups")))

-- part T1
section
set_option maxRecDepth 100000 in
set_option maxHeartbeats 8000000 in
theorem take_spec {p : Program} {loose : List Str} {w : World} {mean : ExcName → Option Value} {mg mb : Str → Option Value} (src : Addr) (top : Int) (tt : Tok) (h1 : 1 ≤ top) (h6 : top ≤ 6) :
    Spec PySem.Challenge.rw_ot0009_01.row.prog w (hd.heap_39 w.params) p loose mean mg mb 190 1 50 [.ref src, .int top tt]
      (fun news => Src news src) (fun news news' r => Ext src news news' ∧ Src news' src ∧ ∃ k t, r = .int k t ∧ 0 ≤ k ∧ k < top) := by
  k_fill
  unfold Spec
  intro dp un gd cn cs a ccd cl outer A₀ base h₀ L m news s Q E B F X N T hk hpre hd' hu hret
  have hS := hpre
  obtain ⟨sa, sb, ta, tb, sn, hm, ha0, hb0, hb1⟩ := hpre
  refine wpAny_call ?_
  k_dflt ktr_enter
  k_steps
  · refine hret _ _ _ _ (by k_asm) (by k_asm) ⟨Ext.setL N hS, ⟨_, _, _, _, _, setL_self hm, Int.fdiv_nonneg ha0 (by omega), hb0, hb1⟩, _, _, rfl, Int.fmod_nonneg_of_pos _ (by omega), Int.fmod_lt_of_pos _ (by omega)⟩
  · refine hret _ _ _ _ (by k_asm) (by k_asm) ⟨Ext.setL N hS, ⟨_, _, _, _, _, setL_self hm, ha0, Int.fmod_nonneg_of_pos _ (by omega), Int.fmod_lt_of_pos _ (by omega)⟩, _, _, rfl, Int.fmod_nonneg_of_pos _ (by omega), Int.fmod_lt_of_pos _ (by omega)⟩
end

-- part T2
section
set_option maxRecDepth 100000 in
set_option maxHeartbeats 8000000 in
theorem type_spec {p : Program} {loose : List Str} {w : World} {mean : ExcName → Option Value} {mg mb : Str → Option Value} (src : Addr) : ∀ (d : Nat) (x : Int) (td : Tok), x = d → d ≤ 3 → 
    Spec PySem.Challenge.rw_ot0009_01.row.prog w (hd.heap_39 w.params) p loose mean mg mb 204 (d + 3) (100 + 10 * d) [.ref src, .int x td]
      (fun news => Src news src) (fun news news' r => Ext src news news' ∧ Src news' src ∧ ∃ t, TyIn news' r t ∧ t.depth ≤ d) := by
  k_fill
  intro d
  induction d with
  | zero =>
    intro x td hx hd3
    simp only [Int.ofNat_zero, Int.natCast_zero] at hx
    subst hx
    unfold Spec
    intro dp un gd cn cs a ccd cl outer A₀ base h₀ L m news s Q E B F X N T hk hpre hd' hu hret
    refine wpAny_call ?_
    k_dflt ktr_enter
    k_steps
    refine hret _ _ _ _ (by k_asm) (by k_asm) ?_
    exact ⟨by (walk_at "m_ext"), by (walk_at "m_src"), .int, .int (.head _), Nat.le_refl _⟩
  | succ d ih =>
    intro x td hx hd3
    have hx0 : 0 < x := by omega
    unfold Spec
    intro dp un gd cn cs a ccd cl outer A₀ base h₀ L m news s Q E B F X N T hk hpre hd' hu hret
    refine wpAny_call ?_
    k_dflt ktr_enter
    k_steps
    (refine' Spec.use (take_spec src 6 _ (by decide) (by decide)) ?k1x1 ?k2x1 ?k3x1 ?k4x1 ?k5x1 ?kKx1 ?kpx1 ?kdx1 ?kux1 ?_; (case k1x1 => k_asm); (case k2x1 => k_asm); (case k3x1 => k_asm); (case k4x1 => k_asm); (case k5x1 => k_asm); (case kKx1 => first | exact rfl | assumption); (case kdx1 => first | ((try simp only [depth_under_make, depth_under_kw, depth_in1, depth_deeper, depth_caller]); (try dsimp only [ktrTop]); (simp only [recursionLimit] at *); omega)); (case kux1 => ((have hcL9 := cLine_is); (try simp only [units_in1, units_deeper, Around.mark_units, units_caller]); (try dsimp only [ktrTop]); omega)))
    case kpx1 => exact hpre
    rintro r1 n1 h1 tk1 F1 N1 ⟨U1, S1, k, t, rfl, k0, k6⟩
    (try dsimp only); (try k_fold)
    have hk5 : k < 2 ∨ k = 2 ∨ k = 3 ∨ k = 4 ∨ k = 5 := by omega
    rcases hk5 with hk2 | rfl | rfl | rfl | rfl
    · k_steps
      (refine' Spec.use (ih (x - 1) _ (by omega) (by omega)) ?k1x2 ?k2x2 ?k3x2 ?k4x2 ?k5x2 ?kKx2 ?kpx2 ?kdx2 ?kux2 ?_; (case k1x2 => k_asm); (case k2x2 => k_asm); (case k3x2 => k_asm); (case k4x2 => k_asm); (case k5x2 => k_asm); (case kKx2 => first | exact rfl | assumption); (case kdx2 => first | ((try simp only [depth_under_make, depth_under_kw, depth_in1, depth_deeper, depth_caller]); (try dsimp only [ktrTop]); (simp only [recursionLimit] at *); omega)); (case kux2 => ((have hcL9 := cLine_is); (try simp only [units_in1, units_deeper, Around.mark_units, units_caller]); (try dsimp only [ktrTop]); omega)))
      case kpx2 => (walk_at "m_src")
      rintro r2 n2 h2 tk2 F2 N2 ⟨U2, S2, t2, Y2, D2⟩
      (try dsimp only); (try k_fold)
      k_steps
      (refine' Spec.use (ih (x - 1) _ (by omega) (by omega)) ?k1x3 ?k2x3 ?k3x3 ?k4x3 ?k5x3 ?kKx3 ?kpx3 ?kdx3 ?kux3 ?_; (case k1x3 => k_asm); (case k2x3 => k_asm); (case k3x3 => k_asm); (case k4x3 => k_asm); (case k5x3 => k_asm); (case kKx3 => first | exact rfl | assumption); (case kdx3 => first | ((try simp only [depth_under_make, depth_under_kw, depth_in1, depth_deeper, depth_caller]); (try dsimp only [ktrTop]); (simp only [recursionLimit] at *); omega)); (case kux3 => ((have hcL9 := cLine_is); (try simp only [units_in1, units_deeper, Around.mark_units, units_caller]); (try dsimp only [ktrTop]); omega)))
      case kpx3 => (walk_at "m_src")
      rintro r3 n3 h3 tk3 F3 N3 ⟨U3, S3, t3, Y3, D3⟩
      (try dsimp only); (try k_fold)
      k_steps
      refine hret _ _ _ _ (by k_asm) (by k_asm) ?_
      exact ⟨by (walk_at "m_ext"), by (walk_at "m_src"), .tup t2 t3, .tup (.head _) (.tail _ (.head _)) (by (refine TyIn.mono Y2 ?_; walk_at "m_tups")) (by (refine TyIn.mono Y3 ?_; walk_at "m_tups")), by show max _ _ + 1 ≤ _; omega⟩
    · k_steps
      (refine' Spec.use (ih (x - 1) _ (by omega) (by omega)) ?k1x4 ?k2x4 ?k3x4 ?k4x4 ?k5x4 ?kKx4 ?kpx4 ?kdx4 ?kux4 ?_; (case k1x4 => k_asm); (case k2x4 => k_asm); (case k3x4 => k_asm); (case k4x4 => k_asm); (case k5x4 => k_asm); (case kKx4 => first | exact rfl | assumption); (case kdx4 => first | ((try simp only [depth_under_make, depth_under_kw, depth_in1, depth_deeper, depth_caller]); (try dsimp only [ktrTop]); (simp only [recursionLimit] at *); omega)); (case kux4 => ((have hcL9 := cLine_is); (try simp only [units_in1, units_deeper, Around.mark_units, units_caller]); (try dsimp only [ktrTop]); omega)))
      case kpx4 => (walk_at "m_src")
      rintro r2 n2 h2 tk2 F2 N2 ⟨U2, S2, t2, Y2, D2⟩
      (try dsimp only); (try k_fold)
      k_steps
      refine hret _ _ _ _ (by k_asm) (by k_asm) ?_
      exact ⟨by (walk_at "m_ext"), by (walk_at "m_src"), .box t2, .box (.head _) (by (refine TyIn.mono Y2 ?_; walk_at "m_tups")), by show _ + 1 ≤ _; omega⟩
    · k_steps
      (refine' Spec.use (ih (x - 1) _ (by omega) (by omega)) ?k1x5 ?k2x5 ?k3x5 ?k4x5 ?k5x5 ?kKx5 ?kpx5 ?kdx5 ?kux5 ?_; (case k1x5 => k_asm); (case k2x5 => k_asm); (case k3x5 => k_asm); (case k4x5 => k_asm); (case k5x5 => k_asm); (case kKx5 => first | exact rfl | assumption); (case kdx5 => first | ((try simp only [depth_under_make, depth_under_kw, depth_in1, depth_deeper, depth_caller]); (try dsimp only [ktrTop]); (simp only [recursionLimit] at *); omega)); (case kux5 => ((have hcL9 := cLine_is); (try simp only [units_in1, units_deeper, Around.mark_units, units_caller]); (try dsimp only [ktrTop]); omega)))
      case kpx5 => (walk_at "m_src")
      rintro r2 n2 h2 tk2 F2 N2 ⟨U2, S2, t2, Y2, D2⟩
      (try dsimp only); (try k_fold)
      k_steps
      refine hret _ _ _ _ (by k_asm) (by k_asm) ?_
      exact ⟨by (walk_at "m_ext"), by (walk_at "m_src"), .ref _ t2, .ref (.head _) (by (refine TyIn.mono Y2 ?_; walk_at "m_tups")), by show _ + 1 ≤ _; omega⟩
    · k_steps
      (refine' Spec.use (ih (x - 1) _ (by omega) (by omega)) ?k1x6 ?k2x6 ?k3x6 ?k4x6 ?k5x6 ?kKx6 ?kpx6 ?kdx6 ?kux6 ?_; (case k1x6 => k_asm); (case k2x6 => k_asm); (case k3x6 => k_asm); (case k4x6 => k_asm); (case k5x6 => k_asm); (case kKx6 => first | exact rfl | assumption); (case kdx6 => first | ((try simp only [depth_under_make, depth_under_kw, depth_in1, depth_deeper, depth_caller]); (try dsimp only [ktrTop]); (simp only [recursionLimit] at *); omega)); (case kux6 => ((have hcL9 := cLine_is); (try simp only [units_in1, units_deeper, Around.mark_units, units_caller]); (try dsimp only [ktrTop]); omega)))
      case kpx6 => (walk_at "m_src")
      rintro r2 n2 h2 tk2 F2 N2 ⟨U2, S2, t2, Y2, D2⟩
      (try dsimp only); (try k_fold)
      k_steps
      refine hret _ _ _ _ (by k_asm) (by k_asm) ?_
      exact ⟨by (walk_at "m_ext"), by (walk_at "m_src"), .ref _ t2, .ref (.head _) (by (refine TyIn.mono Y2 ?_; walk_at "m_tups")), by show _ + 1 ≤ _; omega⟩
    · k_steps
      · exfalso; omega
      (refine' Spec.use (take_spec src 3 _ (by decide) (by decide)) ?k1x7 ?k2x7 ?k3x7 ?k4x7 ?k5x7 ?kKx7 ?kpx7 ?kdx7 ?kux7 ?_; (case k1x7 => k_asm); (case k2x7 => k_asm); (case k3x7 => k_asm); (case k4x7 => k_asm); (case k5x7 => k_asm); (case kKx7 => first | exact rfl | assumption); (case kdx7 => first | ((try simp only [depth_under_make, depth_under_kw, depth_in1, depth_deeper, depth_caller]); (try dsimp only [ktrTop]); (simp only [recursionLimit] at *); omega)); (case kux7 => ((have hcL9 := cLine_is); (try simp only [units_in1, units_deeper, Around.mark_units, units_caller]); (try dsimp only [ktrTop]); omega)))
      case kpx7 => (walk_at "m_src")
      rintro r2 n2 h2 tk2 F2 N2 ⟨U2, S2, k, t, rfl, k0, k3⟩
      (try dsimp only); (try k_fold)
      k_steps
      · refine hret _ _ _ _ (by k_asm) (by k_asm) ?_
        exact ⟨by (walk_at "m_ext"), by (walk_at "m_src"), .int, .int (.head _), Nat.zero_le _⟩
      (refine' Spec.use (ih (x - 1) _ (by omega) (by omega)) ?k1x8 ?k2x8 ?k3x8 ?k4x8 ?k5x8 ?kKx8 ?kpx8 ?kdx8 ?kux8 ?_; (case k1x8 => k_asm); (case k2x8 => k_asm); (case k3x8 => k_asm); (case k4x8 => k_asm); (case k5x8 => k_asm); (case kKx8 => first | exact rfl | assumption); (case kdx8 => first | ((try simp only [depth_under_make, depth_under_kw, depth_in1, depth_deeper, depth_caller]); (try dsimp only [ktrTop]); (simp only [recursionLimit] at *); omega)); (case kux8 => ((have hcL9 := cLine_is); (try simp only [units_in1, units_deeper, Around.mark_units, units_caller]); (try dsimp only [ktrTop]); omega)))
      case kpx8 => (walk_at "m_src")
      rintro r3 n3 h3 tk3 F3 N3 ⟨U3, S3, t3, Y3, D3⟩
      (try dsimp only); (try k_fold)
      k_steps
      refine hret _ _ _ _ (by k_asm) (by k_asm) ?_
      exact ⟨by (walk_at "m_ext"), by (walk_at "m_src"), .arr t3, .arr (.head _) (by (refine TyIn.mono Y3 ?_; walk_at "m_tups")), by show _ + 1 ≤ _; omega⟩
end

-- part S3
section
structure Hop where
  sv : Value
  v : Value
  ks : List Str

inductive HopIn (news : Led) : Value → Hop → Prop where
  | f0 {a b c : Addr} {t1 t2 t3 : Tok} {n1 n2 n3 : Nat} {x y : Value} : (a, tupO [.str (Str.ofString "tuple") t1, .ref b] n1) ∈ news → (b, tupO [x, y] n2) ∈ news → (c, tupO [.str (Str.ofString "field") t2, .int 0 t3] n3) ∈ news →
      HopIn news (.ref a) ⟨.ref c, x, []⟩
  | f1 {a b c : Addr} {t1 t2 t3 : Tok} {n1 n2 n3 : Nat} {x y : Value} : (a, tupO [.str (Str.ofString "tuple") t1, .ref b] n1) ∈ news → (b, tupO [x, y] n2) ∈ news → (c, tupO [.str (Str.ofString "field") t2, .int 1 t3] n3) ∈ news →
      HopIn news (.ref a) ⟨.ref c, y, []⟩
  | idx {a c : Addr} {t1 t2 t3 t4 : Tok} {n1 n3 : Nat} {x : Value} : (a, tupO [.str (Str.ofString "array") t1, x, .int 2 t4] n1) ∈ news → (c, tupO [.str (Str.ofString "index") t2, .int 0 t3] n3) ∈ news →
      HopIn news (.ref a) ⟨.ref c, x, []⟩
  | box {a c : Addr} {t1 t2 : Tok} {n1 n3 : Nat} {x : Value} : (a, tupO [.str (Str.ofString "box") t1, x] n1) ∈ news → (c, tupO [.str (Str.ofString "deref") t2] n3) ∈ news →
      HopIn news (.ref a) ⟨.ref c, x, [Str.ofString "box"]⟩
  | rmut {a c : Addr} {t1 t2 : Tok} {n1 n3 : Nat} {x : Value} : (a, tupO [.str (Str.ofString "ref") t1, .none, .bool true, x] n1) ∈ news → (c, tupO [.str (Str.ofString "deref") t2] n3) ∈ news →
      HopIn news (.ref a) ⟨.ref c, x, [Str.ofString "mut"]⟩
  | rsh {a c : Addr} {t1 t2 : Tok} {n1 n3 : Nat} {x : Value} : (a, tupO [.str (Str.ofString "ref") t1, .none, .bool false, x] n1) ∈ news → (c, tupO [.str (Str.ofString "deref") t2] n3) ∈ news →
      HopIn news (.ref a) ⟨.ref c, x, [Str.ofString "shared"]⟩
theorem HopIn.mono {news news' : Led} {v : Value} {h : Hop} (H : HopIn news v h) (k : Tups news news') : HopIn news' v h := by
  cases H with
  | f0 a b c => exact .f0 (k _ _ _ a) (k _ _ _ b) (k _ _ _ c)
  | f1 a b c => exact .f1 (k _ _ _ a) (k _ _ _ b) (k _ _ _ c)
  | idx a b => exact .idx (k _ _ _ a) (k _ _ _ b)
  | box a b => exact .box (k _ _ _ a) (k _ _ _ b)
  | rmut a b => exact .rmut (k _ _ _ a) (k _ _ _ b)
  | rsh a b => exact .rsh (k _ _ _ a) (k _ _ _ b)

def Chain (news : Led) : Value → List Hop → Prop
  | _, [] => True
  | v, h :: r => HopIn news v h ∧ Chain news h.v r
def endv : Value → List Hop → Value
  | v, [] => v
  | _, h :: r => endv h.v r
def kindsOf (hs : List Hop) : List Str := hs.flatMap (·.ks)
theorem Chain.mono {news news' : Led} (k : Tups news news') : ∀ {hs : List Hop} {v : Value}, Chain news v hs → Chain news' v hs
  | [], _, _ => trivial
  | _ :: _, _, ⟨h, r⟩ => ⟨h.mono k, Chain.mono k r⟩
theorem chain_append {news : Led} : ∀ {a b : List Hop} {v : Value}, Chain news v (a ++ b) ↔ Chain news v a ∧ Chain news (endv v a) b
  | [], _, _ => by simp [Chain, endv]
  | h :: r, b, v => by simp only [List.cons_append, Chain, endv, chain_append (a := r), and_assoc]
theorem endv_append : ∀ {a b : List Hop} {v : Value}, endv v (a ++ b) = endv (endv v a) b
  | [], _, _ => rfl
  | _ :: r, _, _ => endv_append (a := r)
theorem kindsOf_append {a b : List Hop} : kindsOf (a ++ b) = kindsOf a ++ kindsOf b := by simp [kindsOf]

theorem Fr.known {h₀ h : Heap} {L : Addr} {m : Str → Option Value} {x : Str} {v : Value} (F : Fr h₀ L h m) (e : m x = some v) : Fr h₀ L h (fun y => if y = x then some v else m y) := by
  have : (fun y => if y = x then some v else m y) = m := by
    funext y
    by_cases q : y = x
    · rw [if_pos q, q, e]
    · rw [if_neg q]
  rw [this]; exact F

def kB (m : Str → Option Value) : List (Str × Value) → Str → Option Value
  | [] => m
  | p :: r => fun y => if y = p.1 then some p.2 else kB m r y
def Knows (m : Str → Option Value) : List (Str × Value) → Prop
  | [] => True
  | p :: r => m p.1 = some p.2 ∧ Knows m r
theorem kB_eq {m : Str → Option Value} : ∀ {ps : List (Str × Value)}, Knows m ps → kB m ps = m
  | [], _ => rfl
  | p :: r, ⟨h, k⟩ => by
    funext y
    show (if y = p.1 then some p.2 else kB m r y) = m y
    by_cases q : y = p.1
    · rw [if_pos q, q, h]
    · rw [if_neg q, kB_eq k]
theorem Fr.knowns {h₀ h : Heap} {L : Addr} {m : Str → Option Value} (F : Fr h₀ L h m) (ps : List (Str × Value)) (k : Knows m ps) : Fr h₀ L h (kB m ps) := by rw [kB_eq k]; exact F

theorem HopIn.kinds {news : Led} {v : Value} {h : Hop} (H : HopIn news v h) : h.ks.length ≤ 1 := by cases H <;> simp
theorem Chain.kinds {news : Led} : ∀ {hs : List Hop} {v : Value}, Chain news v hs → (kindsOf hs).length ≤ hs.length
  | [], _, _ => Nat.le_refl _
  | h :: r, _, ⟨H, k⟩ => by
    have := H.kinds
    have := Chain.kinds k
    simp only [kindsOf, List.flatMap_cons, List.length_append, List.length_cons] at *
    omega

def shutOf (ks : List Str) : Bool := ks.any (· == Str.ofString "shared")
def nbOf (ks : List Str) : Bool := ks.any (· != Str.ofString "box")
def let0 (ks : List Str) : Bool := if nbOf ks then !shutOf ks else true
def let1 (ks : List Str) : Bool := if nbOf ks then !shutOf ks else false
theorem shutOf_append {a b : List Str} : shutOf (a ++ b) = (shutOf a || shutOf b) := by simp [shutOf]
theorem nbOf_append {a b : List Str} : nbOf (a ++ b) = (nbOf a || nbOf b) := by simp [nbOf]
theorem shut_box : shutOf [Str.ofString "box"] = false := by decide +kernel
theorem shut_mut : shutOf [Str.ofString "mut"] = false := by decide +kernel
theorem shut_shared : shutOf [Str.ofString "shared"] = true := by decide +kernel
theorem nb_box : nbOf [Str.ofString "box"] = false := by decide +kernel
theorem nb_mut : nbOf [Str.ofString "mut"] = true := by decide +kernel
theorem nb_shared : nbOf [Str.ofString "shared"] = true := by decide +kernel
theorem kindsOf_one {h : Hop} : kindsOf [h] = h.ks := by simp [kindsOf]

def WDone (h₀ : Heap) (L : Addr) (s : Shared) (J : Nat → (Str → Option Value) → Led → Prop) (s₂ : Shared) : Prop := ∃ h tk m' nw n, s₂ = { s with heap := h, toks := tk } ∧ Fr h₀ L h m' ∧ News h₀ L h nw ∧ J n m' nw
theorem WDone.intro {h₀ h : Heap} {L : Addr} {s : Shared} {J : Nat → (Str → Option Value) → Led → Prop} {m' : Str → Option Value} {nw : Led} {n : Nat} {tk : Nat} (F : Fr h₀ L h m') (N : News h₀ L h nw) (j : J n m' nw) : WDone h₀ L s J { s with heap := h, toks := tk } := ⟨h, tk, m', nw, n, rfl, F, N, j⟩
theorem While_led {prog : Program} {w : World} {A : Around} {E : Value → Shared → Prop} {Q : Flow → Shared → Prop} {s : Shared} {env : Env} {h₀ : Heap} {L : Addr} {test : Expr} {body : List Stmt} {pos : Pos} {m : Str → Option Value} {news : Led} (J : Nat → (Str → Option Value) → Led → Prop) {n₀ : Nat}
    (F : Fr h₀ L s.heap m) (N : News h₀ L s.heap news) (hJ : J n₀ m news)
    (turn : ∀ n m₁ news₁ h₁ tk₁, Fr h₀ L h₁ m₁ → News h₀ L h₁ news₁ → J n m₁ news₁ →
      wpAny (model prog w) A (isTrue test env (eval test env)) (fun b s₂ =>
        if b = true then wpAny (model prog w) A (execs body env) (WhileStep h₀ L s J n) E s₂ else WDone h₀ L s J s₂) E { s with heap := h₁, toks := tk₁ })
    (done : ∀ n m₁ news₁ h₁ tk₁, Fr h₀ L h₁ m₁ → News h₀ L h₁ news₁ → J n m₁ news₁ → Q .next { s with heap := h₁, toks := tk₁ })
    (hE : PassesOwn (model prog w) A env E := by passes_own) :
    wpAny (model prog w) A (exec (.While test body [] pos) env) Q E s := by
  refine wpAny_mono (While_inv (Q := fun f s₂ => f = .next ∧ WDone h₀ L s J s₂) J F N hJ (fun n m₁ nw h₁ tk₁ F₁ N₁ j => wpAny_mono (turn n m₁ nw h₁ tk₁ F₁ N₁ j) (fun b s₂ hq => ?_) fun _ _ x => x) hE) (fun f s₂ hq => ?_) fun _ _ x => x
  · cases b with
    | true => rw [if_pos rfl] at hq ⊢; exact hq
    | false => rw [if_neg Bool.false_ne_true] at hq ⊢; exact ⟨rfl, hq⟩
  · obtain ⟨rfl, h, tk, m', nw, n, rfl, F', N', j⟩ := hq
    exact done n m' nw h tk F' N' j

/-- the loop of _law_place, between two turns -/
inductive PlaceJ (src : Addr) (v0 : Value) (news0 : Led) (al ak : Addr) (n : Nat) (m : Str → Option Value) (nw : Led) : Prop where
  | mk {a3 : Addr} {n1 n2 n3 : Nat} (hops : List Hop) (kv : List Value) {v : Value} {t : Ty} {l0 l1 : Bool} (shut : Bool)
    (es : m (Str.ofString "source") = some (.ref src)) (e1 : m (Str.ofString "steps") = some (.ref al)) (e2 : m (Str.ofString "kinds") = some (.ref ak)) (e3 : m (Str.ofString "lets") = some (.ref a3)) (e4 : m (Str.ofString "is_shut") = some (.bool shut)) (e5 : m (Str.ofString "sort") = some v)
    (h1 : (al, lstO (hops.map Hop.sv) n1) ∈ nw) (h2 : (ak, lstO kv n2) ∈ nw) (h3 : (a3, lstO [.bool l0, .bool l1] n3) ∈ nw) (hk : StrsAre kv (kindsOf hops)) (hc : Chain nw v0 hops) (hv : endv v0 hops = v) (hy : TyIn nw v t)
    (hn : t.depth = n) (hlen : hops.length + t.depth ≤ 30) (hsh : shut = shutOf (kindsOf hops)) (hl0 : l0 = let0 (kindsOf hops)) (hl1 : l1 = let1 (kindsOf hops)) (hS : Src nw src) (hU : Ext src news0 nw) (d3 : a3 ≠ src) (d31 : a3 ≠ al) (d32 : a3 ≠ ak) : PlaceJ src v0 news0 al ak n m nw

theorem PlaceJ.step {src : Addr} {v0 : Value} {news0 : Led} {al ak : Addr} {m : Str → Option Value} {nw : Led} {a3 : Addr} {n1 n2 n3 : Nat} (hops : List Hop) (h : Hop) {kv : List Value} {v : Value} {t : Ty} {l0 l1 shut : Bool}
    (es : m (Str.ofString "source") = some (.ref src)) (e1 : m (Str.ofString "steps") = some (.ref al)) (e2 : m (Str.ofString "kinds") = some (.ref ak)) (e3 : m (Str.ofString "lets") = some (.ref a3)) (e4 : m (Str.ofString "is_shut") = some (.bool shut)) (e5 : m (Str.ofString "sort") = some h.v)
    (h1 : (al, lstO (hops.map Hop.sv ++ [h.sv]) n1) ∈ nw) (h2 : (ak, lstO kv n2) ∈ nw) (h3 : (a3, lstO [.bool l0, .bool l1] n3) ∈ nw) (hk : StrsAre kv (kindsOf hops ++ h.ks)) (hc : Chain nw v0 hops) (hv : endv v0 hops = v) (hh : HopIn nw v h) (hy : TyIn nw h.v t)
    (hlen : hops.length + 1 + t.depth ≤ 30) (hsh : shut = (shutOf (kindsOf hops) || shutOf h.ks)) (hl0 : l0 = if (nbOf (kindsOf hops) || nbOf h.ks) then !(shutOf (kindsOf hops) || shutOf h.ks) else true) (hl1 : l1 = if (nbOf (kindsOf hops) || nbOf h.ks) then !(shutOf (kindsOf hops) || shutOf h.ks) else false) (hS : Src nw src) (hU : Ext src news0 nw) (d3 : a3 ≠ src) (d31 : a3 ≠ al) (d32 : a3 ≠ ak) : PlaceJ src v0 news0 al ak t.depth m nw :=
  .mk (hops ++ [h]) _ _ es e1 e2 e3 e4 e5 (by rw [List.map_append]; exact h1) h2 h3 (by rw [kindsOf_append, kindsOf_one]; exact hk) (chain_append.mpr ⟨hc, by rw [hv]; exact ⟨hh, trivial⟩⟩) (by rw [endv_append]; rfl) hy rfl (by rw [List.length_append]; exact hlen)
    (by rw [kindsOf_append, kindsOf_one, shutOf_append]; exact hsh) (by rw [kindsOf_append, kindsOf_one, let0, shutOf_append, nbOf_append]; exact hl0) (by rw [kindsOf_append, kindsOf_one, let1, shutOf_append, nbOf_append]; exact hl1) hS hU d3 d31 d32
theorem shut_nil : shutOf [] = false := rfl
theorem nb_nil : nbOf [] = false := rfl
theorem box_shared : (Str.ofString "box" == Str.ofString "shared") = false := by decide +kernel
theorem mut_shared : (Str.ofString "mut" == Str.ofString "shared") = false := by decide +kernel
theorem shared_shared : (Str.ofString "shared" == Str.ofString "shared") = true := by decide +kernel

inductive PlaceOut (nw : Led) (v0 : Value) : Value → Prop where
  | mk {l tu ak a3 : Addr} {n0 n1 n2 n3 : Nat} (hops : List Hop) {kv : List Value} (h0 : (l, lstO [.ref tu, .ref ak, .ref a3, endv v0 hops] n0) ∈ nw) (h1 : (tu, tupO (hops.map Hop.sv) n1) ∈ nw) (h2 : (ak, lstO kv n2) ∈ nw) (h3 : (a3, lstO [.bool (let0 (kindsOf hops)), .bool (let1 (kindsOf hops))] n3) ∈ nw)
    (hk : StrsAre kv (kindsOf hops)) (hc : Chain nw v0 hops) (hlen : hops.length ≤ 100) {t : Ty} (hy : TyIn nw (endv v0 hops) t) (hdt : t.depth ≤ 30) : PlaceOut nw v0 (.ref l)
end

-- part T3
local macro_rules | `(tactic| walk_at "exec While BoolOp cons nil") => `(tactic| (k_here; refine stop_of ?_))
theorem body_op {M : Model} {A : Around} {t : Sem Flow} {Q : Flow → Shared → Prop} {E : Value → Shared → Prop} {s : Shared} (h : ∀ (P : Flow → Shared → Prop), (∀ f s₂, Q f s₂ → P f s₂) → wpAny M A t P E s) : wpAny M A t Q E s := h Q fun _ _ h => h
theorem while_op {M : Model} {A : Around} {t : Sem Bool} {u : Sem Flow} {W : Flow → Shared → Prop} {D : Shared → Prop} {E : Value → Shared → Prop} {s : Shared}
    (h : ∀ (P : Flow → Shared → Prop) (EP : Value → Shared → Prop) (D' : Shared → Prop), (∀ f s₂, W f s₂ → P f s₂) → (∀ s₂, D s₂ → D' s₂) → wpAny M A t (fun b s₂ => if b = true then wpAny M A u P EP s₂ else D' s₂) EP s) :
    wpAny M A t (fun b s₂ => if b = true then wpAny M A u W E s₂ else D s₂) E s := h W E D (fun _ _ h => h) (fun _ h => h)
set_option maxRecDepth 100000 in
set_option maxHeartbeats 8000000 in
theorem place_spec {p : Program} {loose : List Str} {w : World} {mean : ExcName → Option Value} {mg mb : Str → Option Value} (src : Addr) (v0 : Value) (t0 : Ty) (hd0 : t0.depth ≤ 30) :
    Spec PySem.Challenge.rw_ot0009_01.row.prog w (hd.heap_39 w.params) p loose mean mg mb 211 3 100 [.ref src, v0]
      (fun news => Src news src ∧ TyIn news v0 t0) (fun news news' r => Ext src news news' ∧ Src news' src ∧ PlaceOut news' v0 r) := by
  k_fill
  unfold Spec
  intro dp un gd cn cs a ccd cl outer A₀ base h₀ L m news s Q E B F X N T hk hpre hd' hu hret
  obtain ⟨hS, hT⟩ := hpre
  refine wpAny_call ?_
  k_dflt ktr_enter
  refine body_op fun PB hPB => ?_
  k_steps
  rename_i tk al hA lA ak hB lB a3 hC lC D hD lD hE hF hG hH hI FF NN
  have d1 : al ≠ src := by
    obtain ⟨_, _, _, _, _, hs, _⟩ := hS
    exact (Nat.ne_of_lt (lA _ hs)).symm
  have d2 : ak ≠ src := by
    obtain ⟨_, _, _, _, _, hs, _⟩ := hS
    exact (Nat.ne_of_lt (ktn_ltOf lB.2 _ hs)).symm
  have d3 : a3 ≠ src := by
    obtain ⟨_, _, _, _, _, hs, _⟩ := hS
    exact (Nat.ne_of_lt (ktn_ltOf lC.2.2 _ hs)).symm
  have d12 : al ≠ ak := Nat.ne_of_lt lB.1
  have hal : ∀ p ∈ news, p.1 ≠ al := fun p hp => Nat.ne_of_lt (lA p hp)
  have hak : ∀ p ∈ news, p.1 ≠ ak := fun p hp => Nat.ne_of_lt (ktn_ltOf lB.2 p hp)
  refine While_led (PlaceJ src v0 news al ak) (n₀ := t0.depth) FF NN ?_ ?_ ?_
  · exact .mk [] [] _ (v := v0) (t := t0) rfl rfl rfl rfl rfl rfl (.tail _ (.tail _ (.tail _ (.head _)))) (.tail _ (.tail _ (.head _))) (.tail _ (.head _)) .nil trivial rfl (by (refine TyIn.mono hT ?_; walk_at "m_tups")) rfl (by simpa using hd0) rfl rfl rfl (by (walk_at "m_src")) (by (walk_at "m_ext")) d3 (Nat.ne_of_gt lC.2.1) (Nat.ne_of_gt lC.1)
  · clear lA lB lC lD FF NN
    rintro n mm nw h1 tk1 F1 N1 ⟨hops, kv, shut, es, e1, e2, e3, e4, e5, m1, m2, m3, hk, hc, hv, hy, hn, hlen, hsh, hl0, hl1, hS1, hU1, d3, d31, d32⟩
    have F2 := Fr.knowns F1 [(Str.ofString "sort", _), (Str.ofString "is_shut", _), (Str.ofString "lets", _), (Str.ofString "kinds", _), (Str.ofString "steps", _), (Str.ofString "source", _)] ⟨e5, e4, e3, e2, e1, es, trivial⟩
    dsimp only [kB] at F2
    clear F1
    have hz : hops.length ≤ 100 := by omega
    have hzk : kv.length ≤ 100 := by
      have := hk.length
      have := hc.kinds
      omega
    have hy0 := hy
    refine while_op fun PW EW DW hPW hDW => ?_
    cases hy with
    | int b1 => 
      k_steps
      exact hDW _ (WDone.intro F2 N1 (.mk hops _ _ rfl rfl rfl rfl rfl rfl m1 m2 m3 hk hc hv hy0 hn hlen hsh hl0 hl1 hS1 hU1 d3 d31 d32))
    | tup b1 b2 y1 y2 => 
      k_steps
      (refine' Spec.use (take_spec src 6 _ (by decide) (by decide)) ?k1x9 ?k2x9 ?k3x9 ?k4x9 ?k5x9 ?kKx9 ?kpx9 ?kdx9 ?kux9 ?_; (case k1x9 => k_asm); (case k2x9 => k_asm); (case k3x9 => k_asm); (case k4x9 => k_asm); (case k5x9 => k_asm); (case kKx9 => first | exact rfl | assumption); (case kdx9 => first | ((try simp only [depth_under_make, depth_under_kw, depth_in1, depth_deeper, depth_caller]); (try dsimp only [ktrTop]); (simp only [recursionLimit] at *); omega)); (case kux9 => ((have hcL9 := cLine_is); (try simp only [units_in1, units_deeper, Around.mark_units, units_caller]); (try dsimp only [ktrTop]); omega)))
      case kpx9 => exact hS1
      rintro r3 n3 h3 tk3 F3 N3 ⟨U3, S3, k, tt, rfl, k0, k6⟩
      (try dsimp only); (try k_fold)
      have m1' := U3.upto _ m1 d1
      have m2' := U3.upto _ m2 d2
      have m3' := U3.upto _ m3 d3
      have b1' := U3.tups _ _ _ b1
      have b2' := U3.tups _ _ _ b2
      k_steps
      · (refine' Spec.use (take_spec src 2 _ (by decide) (by decide)) ?k1x10 ?k2x10 ?k3x10 ?k4x10 ?k5x10 ?kKx10 ?kpx10 ?kdx10 ?kux10 ?_; (case k1x10 => k_asm); (case k2x10 => k_asm); (case k3x10 => k_asm); (case k4x10 => k_asm); (case k5x10 => k_asm); (case kKx10 => first | exact rfl | assumption); (case kdx10 => first | ((try simp only [depth_under_make, depth_under_kw, depth_in1, depth_deeper, depth_caller]); (try dsimp only [ktrTop]); (simp only [recursionLimit] at *); omega)); (case kux10 => ((have hcL9 := cLine_is); (try simp only [units_in1, units_deeper, Around.mark_units, units_caller]); (try dsimp only [ktrTop]); omega)))
        case kpx10 => exact S3
        rintro r4 n4 h4 tk4 F4 N4 ⟨U4, S4, k, tt, rfl, k0, k6⟩
        (try dsimp only); (try k_fold)
        have m1'' := U4.upto _ m1' d1
        have m2'' := U4.upto _ m2' d2
        have m3'' := U4.upto _ m3' d3
        have b1'' := U4.tups _ _ _ b1'
        have b2'' := U4.tups _ _ _ b2'
        have hk01 : k = 0 ∨ k = 1 := by omega
        have Y1 := (y1.mono U3.tups).mono U4.tups
        have Y2 := (y2.mono U3.tups).mono U4.tups
        have C' := (hc.mono U3.tups).mono U4.tups
        have U' := (hU1.trans U3).trans U4
        rcases hk01 with rfl | rfl
        · k_steps
          rename Tups _ _ => P
          rename Fr _ _ _ _ => F5
          rename News _ _ _ _ => N5
          refine hPW _ _ (WhileStep.intro F5 N5 ?_ (.step hops ⟨.ref _, _, []⟩ rfl rfl rfl rfl rfl rfl (setL_self (.tail _ m1'')) (setL_ne (.tail _ m2'') (Ne.symm d12)) (setL_ne (.tail _ m3'') d31) (by simpa using hk) (C'.mono (Tups.trans .cons P)) hv (.f0 (P _ _ _ (.tail _ b1'')) (P _ _ _ (.tail _ b2'')) (P _ _ _ (.head _))) (Y1.mono (Tups.trans .cons P)) ?_ (by simpa [shut_nil] using hsh) (by simpa [shut_nil, nb_nil, let0] using hl0) (by simpa [shut_nil, nb_nil, let1] using hl1) (S4.cons.set (Ne.symm d1)) (Ext.set hal (U'.trans .cons) P) d3 d31 d32))
          · simp only [Ty.depth] at hn; omega
          · simp only [Ty.depth] at hlen; omega
        · k_steps
          rename Tups _ _ => P
          rename Fr _ _ _ _ => F5
          rename News _ _ _ _ => N5
          refine hPW _ _ (WhileStep.intro F5 N5 ?_ (.step hops ⟨.ref _, _, []⟩ rfl rfl rfl rfl rfl rfl (setL_self (.tail _ m1'')) (setL_ne (.tail _ m2'') (Ne.symm d12)) (setL_ne (.tail _ m3'') d31) (by simpa using hk) (C'.mono (Tups.trans .cons P)) hv (.f1 (P _ _ _ (.tail _ b1'')) (P _ _ _ (.tail _ b2'')) (P _ _ _ (.head _))) (Y2.mono (Tups.trans .cons P)) ?_ (by simpa [shut_nil] using hsh) (by simpa [shut_nil, nb_nil, let0] using hl0) (by simpa [shut_nil, nb_nil, let1] using hl1) (S4.cons.set (Ne.symm d1)) (Ext.set hal (U'.trans .cons) P) d3 d31 d32))
          · simp only [Ty.depth] at hn; omega
          · simp only [Ty.depth] at hlen; omega
      · exact hDW _ (WDone.intro F3 N3 (.mk hops _ _ rfl rfl rfl rfl rfl rfl m1' m2' m3' hk (hc.mono U3.tups) hv (hy0.mono U3.tups) hn hlen hsh hl0 hl1 S3 (hU1.trans U3) d3 d31 d32))
    | arr b1 y1 =>
      k_steps
      (refine' Spec.use (take_spec src 6 _ (by decide) (by decide)) ?k1x11 ?k2x11 ?k3x11 ?k4x11 ?k5x11 ?kKx11 ?kpx11 ?kdx11 ?kux11 ?_; (case k1x11 => k_asm); (case k2x11 => k_asm); (case k3x11 => k_asm); (case k4x11 => k_asm); (case k5x11 => k_asm); (case kKx11 => first | exact rfl | assumption); (case kdx11 => first | ((try simp only [depth_under_make, depth_under_kw, depth_in1, depth_deeper, depth_caller]); (try dsimp only [ktrTop]); (simp only [recursionLimit] at *); omega)); (case kux11 => ((have hcL9 := cLine_is); (try simp only [units_in1, units_deeper, Around.mark_units, units_caller]); (try dsimp only [ktrTop]); omega)))
      case kpx11 => exact hS1
      rintro r3 n3 h3 tk3 F3 N3 ⟨U3, S3, k, tt, rfl, k0, k6⟩
      (try dsimp only); (try k_fold)
      have m1' := U3.upto _ m1 d1
      have m2' := U3.upto _ m2 d2
      have m3' := U3.upto _ m3 d3
      have b1' := U3.tups _ _ _ b1
      k_steps
      · rename Tups _ _ => P
        rename Fr _ _ _ _ => F5
        rename News _ _ _ _ => N5
        refine hPW _ _ (WhileStep.intro F5 N5 ?_ (.step hops ⟨.ref _, _, []⟩ rfl rfl rfl rfl rfl rfl (setL_self (.tail _ m1')) (setL_ne (.tail _ m2') (Ne.symm d12)) (setL_ne (.tail _ m3') d31) (by simpa using hk) ((hc.mono U3.tups).mono (Tups.trans .cons P)) hv (.idx (P _ _ _ (.tail _ b1')) (P _ _ _ (.head _))) ((y1.mono U3.tups).mono (Tups.trans .cons P)) ?_ (by simpa [shut_nil] using hsh) (by simpa [shut_nil, nb_nil, let0] using hl0) (by simpa [shut_nil, nb_nil, let1] using hl1) (S3.cons.set (Ne.symm d1)) (Ext.set hal ((hU1.trans U3).trans .cons) P) d3 d31 d32))
        · simp only [Ty.depth] at hn; omega
        · simp only [Ty.depth] at hlen; omega
      · exact hDW _ (WDone.intro F3 N3 (.mk hops _ _ rfl rfl rfl rfl rfl rfl m1' m2' m3' hk (hc.mono U3.tups) hv (hy0.mono U3.tups) hn hlen hsh hl0 hl1 S3 (hU1.trans U3) d3 d31 d32))
    | box b1 y1 =>
      k_steps
      (refine' Spec.use (take_spec src 6 _ (by decide) (by decide)) ?k1x12 ?k2x12 ?k3x12 ?k4x12 ?k5x12 ?kKx12 ?kpx12 ?kdx12 ?kux12 ?_; (case k1x12 => k_asm); (case k2x12 => k_asm); (case k3x12 => k_asm); (case k4x12 => k_asm); (case k5x12 => k_asm); (case kKx12 => first | exact rfl | assumption); (case kdx12 => first | ((try simp only [depth_under_make, depth_under_kw, depth_in1, depth_deeper, depth_caller]); (try dsimp only [ktrTop]); (simp only [recursionLimit] at *); omega)); (case kux12 => ((have hcL9 := cLine_is); (try simp only [units_in1, units_deeper, Around.mark_units, units_caller]); (try dsimp only [ktrTop]); omega)))
      case kpx12 => exact hS1
      rintro r3 n3 h3 tk3 F3 N3 ⟨U3, S3, k, tt, rfl, k0, k6⟩
      (try dsimp only); (try k_fold)
      have m1' := U3.upto _ m1 d1
      have m2' := U3.upto _ m2 d2
      have m3' := U3.upto _ m3 d3
      have b1' := U3.tups _ _ _ b1
      cases shut
      · k_steps
        · rename Fr _ _ _ _ => F5
          rename News _ _ _ _ => N5
          refine hPW _ _ (WhileStep.intro F5 N5 ?_ (.step hops ⟨.ref _, _, [Str.ofString "box"]⟩ rfl rfl rfl rfl rfl rfl (by (first | k_mem | fail "m_mem")) (by (first | k_mem | fail "m_mem")) (by (first | k_mem | fail "m_mem")) (StrsAre.append' hk (.cons _ _ .nil)) (by refine (hc.mono U3.tups).mono ?_; (walk_at "m_tups")) hv (.box (by (first | k_mem | fail "m_mem")) (by (first | k_mem | fail "m_mem"))) (by refine (y1.mono U3.tups).mono ?_; (walk_at "m_tups")) ?_ (by rw [box_shared, shut_box, ← hsh]; rfl) (by rw [nb_box, shut_box, Bool.or_false, Bool.or_false]; exact hl0) (by rw [nb_box, shut_box, Bool.or_false, Bool.or_false]; exact hl1) ((S3.cons.set (Ne.symm d1)).set (Ne.symm d2)) (Ext.set hak (Ext.set hal ((hU1.trans U3).trans .cons) (by assumption)) (by assumption)) d3 d31 d32))
          · simp only [Ty.depth] at hn; omega
          · simp only [Ty.depth] at hlen; omega
        · exact hDW _ (WDone.intro F3 N3 (.mk hops _ _ rfl rfl rfl rfl rfl rfl m1' m2' m3' hk (hc.mono U3.tups) hv (hy0.mono U3.tups) hn hlen hsh hl0 hl1 S3 (hU1.trans U3) d3 d31 d32))
      · k_steps
        · rename Fr _ _ _ _ => F5
          rename News _ _ _ _ => N5
          refine hPW _ _ (WhileStep.intro F5 N5 ?_ (.step hops ⟨.ref _, _, [Str.ofString "box"]⟩ rfl rfl rfl rfl rfl rfl (by (first | k_mem | fail "m_mem")) (by (first | k_mem | fail "m_mem")) (by (first | k_mem | fail "m_mem")) (StrsAre.append' hk (.cons _ _ .nil)) (by refine (hc.mono U3.tups).mono ?_; (walk_at "m_tups")) hv (.box (by (first | k_mem | fail "m_mem")) (by (first | k_mem | fail "m_mem"))) (by refine (y1.mono U3.tups).mono ?_; (walk_at "m_tups")) ?_ (by rw [shut_box, ← hsh]; rfl) (by rw [nb_box, shut_box, Bool.or_false, Bool.or_false]; exact hl0) (by rw [nb_box, shut_box, Bool.or_false, Bool.or_false]; exact hl1) ((S3.cons.set (Ne.symm d1)).set (Ne.symm d2)) (Ext.set hak (Ext.set hal ((hU1.trans U3).trans .cons) (by assumption)) (by assumption)) d3 d31 d32))
          · simp only [Ty.depth] at hn; omega
          · simp only [Ty.depth] at hlen; omega
        · exact hDW _ (WDone.intro F3 N3 (.mk hops _ _ rfl rfl rfl rfl rfl rfl m1' m2' m3' hk (hc.mono U3.tups) hv (hy0.mono U3.tups) hn hlen hsh hl0 hl1 S3 (hU1.trans U3) d3 d31 d32))
    | @ref _ _ _ _ _ mb b1 y1 =>
      cases mb
      · k_steps
        (refine' Spec.use (take_spec src 6 _ (by decide) (by decide)) ?k1x13 ?k2x13 ?k3x13 ?k4x13 ?k5x13 ?kKx13 ?kpx13 ?kdx13 ?kux13 ?_; (case k1x13 => k_asm); (case k2x13 => k_asm); (case k3x13 => k_asm); (case k4x13 => k_asm); (case k5x13 => k_asm); (case kKx13 => first | exact rfl | assumption); (case kdx13 => first | ((try simp only [depth_under_make, depth_under_kw, depth_in1, depth_deeper, depth_caller]); (try dsimp only [ktrTop]); (simp only [recursionLimit] at *); omega)); (case kux13 => ((have hcL9 := cLine_is); (try simp only [units_in1, units_deeper, Around.mark_units, units_caller]); (try dsimp only [ktrTop]); omega)))
        case kpx13 => exact hS1
        rintro r3 n3 h3 tk3 F3 N3 ⟨U3, S3, k, tt, rfl, k0, k6⟩
        (try dsimp only); (try k_fold)
        have m1' := U3.upto _ m1 d1
        have m2' := U3.upto _ m2 d2
        have m3' := U3.upto _ m3 d3
        have b1' := U3.tups _ _ _ b1
        cases shut
        · k_steps
          · rename Fr _ _ _ _ => F5
            rename News _ _ _ _ => N5
            rename ∀ p : Addr × Obj, p ∈ setL _ _ _ → p.1 < _ => lN
            obtain ⟨_, _, _, _, _, hs9, _⟩ := id S3
            refine hPW _ _ (WhileStep.intro F5 N5 ?_ (.step hops ⟨.ref _, _, [Str.ofString "shared"]⟩ rfl rfl rfl rfl rfl rfl (by (first | k_mem | fail "m_mem")) (by (first | k_mem | fail "m_mem")) (by (first | k_mem | fail "m_mem")) (StrsAre.append' hk (.cons _ _ .nil)) (by refine (hc.mono U3.tups).mono ?_; (walk_at "m_tups")) hv (.rsh (by (first | k_mem | fail "m_mem")) (by (first | k_mem | fail "m_mem"))) (by refine (y1.mono U3.tups).mono ?_; (walk_at "m_tups")) ?_ (by rw [shared_shared, shut_shared, Bool.or_true]) (by rw [nb_shared, shut_shared, Bool.or_true, Bool.or_true, if_pos rfl, shared_shared]) (by rw [nb_shared, shut_shared, Bool.or_true, Bool.or_true, if_pos rfl, shared_shared]) ((S3.cons.set (Ne.symm d1)).set (Ne.symm d2)).cons ((Ext.set hak (Ext.set hal ((hU1.trans U3).trans .cons) (by assumption)) (by assumption)).trans .cons) (Nat.ne_of_gt (lN _ (setL_ne (setL_ne (.tail _ hs9) (Ne.symm d1)) (Ne.symm d2)))) (Nat.ne_of_gt (lN _ (setL_ne (setL_self (.tail _ m1')) d12))) (Nat.ne_of_gt (lN _ (setL_self (setL_ne (.tail _ m2') (Ne.symm d12)))))))
            · simp only [Ty.depth] at hn; omega
            · simp only [Ty.depth] at hlen; omega
          · exact hDW _ (WDone.intro F3 N3 (.mk hops _ _ rfl rfl rfl rfl rfl rfl m1' m2' m3' hk (hc.mono U3.tups) hv (hy0.mono U3.tups) hn hlen hsh hl0 hl1 S3 (hU1.trans U3) d3 d31 d32))
        · k_steps
          · rename Fr _ _ _ _ => F5
            rename News _ _ _ _ => N5
            rename ∀ p : Addr × Obj, p ∈ setL _ _ _ → p.1 < _ => lN
            obtain ⟨_, _, _, _, _, hs9, _⟩ := id S3
            refine hPW _ _ (WhileStep.intro F5 N5 ?_ (.step hops ⟨.ref _, _, [Str.ofString "shared"]⟩ rfl rfl rfl rfl rfl rfl (by (first | k_mem | fail "m_mem")) (by (first | k_mem | fail "m_mem")) (by (first | k_mem | fail "m_mem")) (StrsAre.append' hk (.cons _ _ .nil)) (by refine (hc.mono U3.tups).mono ?_; (walk_at "m_tups")) hv (.rsh (by (first | k_mem | fail "m_mem")) (by (first | k_mem | fail "m_mem"))) (by refine (y1.mono U3.tups).mono ?_; (walk_at "m_tups")) ?_ (by rw [shut_shared, Bool.or_true]) (by rw [nb_shared, shut_shared, Bool.or_true, Bool.or_true, if_pos rfl]) (by rw [nb_shared, shut_shared, Bool.or_true, Bool.or_true, if_pos rfl]) ((S3.cons.set (Ne.symm d1)).set (Ne.symm d2)).cons ((Ext.set hak (Ext.set hal ((hU1.trans U3).trans .cons) (by assumption)) (by assumption)).trans .cons) (Nat.ne_of_gt (lN _ (setL_ne (setL_ne (.tail _ hs9) (Ne.symm d1)) (Ne.symm d2)))) (Nat.ne_of_gt (lN _ (setL_ne (setL_self (.tail _ m1')) d12))) (Nat.ne_of_gt (lN _ (setL_self (setL_ne (.tail _ m2') (Ne.symm d12)))))))
            · simp only [Ty.depth] at hn; omega
            · simp only [Ty.depth] at hlen; omega
          · exact hDW _ (WDone.intro F3 N3 (.mk hops _ _ rfl rfl rfl rfl rfl rfl m1' m2' m3' hk (hc.mono U3.tups) hv (hy0.mono U3.tups) hn hlen hsh hl0 hl1 S3 (hU1.trans U3) d3 d31 d32))
      · k_steps
        (refine' Spec.use (take_spec src 6 _ (by decide) (by decide)) ?k1x14 ?k2x14 ?k3x14 ?k4x14 ?k5x14 ?kKx14 ?kpx14 ?kdx14 ?kux14 ?_; (case k1x14 => k_asm); (case k2x14 => k_asm); (case k3x14 => k_asm); (case k4x14 => k_asm); (case k5x14 => k_asm); (case kKx14 => first | exact rfl | assumption); (case kdx14 => first | ((try simp only [depth_under_make, depth_under_kw, depth_in1, depth_deeper, depth_caller]); (try dsimp only [ktrTop]); (simp only [recursionLimit] at *); omega)); (case kux14 => ((have hcL9 := cLine_is); (try simp only [units_in1, units_deeper, Around.mark_units, units_caller]); (try dsimp only [ktrTop]); omega)))
        case kpx14 => exact hS1
        rintro r3 n3 h3 tk3 F3 N3 ⟨U3, S3, k, tt, rfl, k0, k6⟩
        (try dsimp only); (try k_fold)
        have m1' := U3.upto _ m1 d1
        have m2' := U3.upto _ m2 d2
        have m3' := U3.upto _ m3 d3
        have b1' := U3.tups _ _ _ b1
        cases shut
        · k_steps
          · rename Fr _ _ _ _ => F5
            rename News _ _ _ _ => N5
            rename ∀ p : Addr × Obj, p ∈ setL _ _ _ → p.1 < _ => lN
            obtain ⟨_, _, _, _, _, hs9, _⟩ := id S3
            refine hPW _ _ (WhileStep.intro F5 N5 ?_ (.step hops ⟨.ref _, _, [Str.ofString "mut"]⟩ rfl rfl rfl rfl rfl rfl (by (first | k_mem | fail "m_mem")) (by (first | k_mem | fail "m_mem")) (by (first | k_mem | fail "m_mem")) (StrsAre.append' hk (.cons _ _ .nil)) (by refine (hc.mono U3.tups).mono ?_; (walk_at "m_tups")) hv (.rmut (by (first | k_mem | fail "m_mem")) (by (first | k_mem | fail "m_mem"))) (by refine (y1.mono U3.tups).mono ?_; (walk_at "m_tups")) ?_ (by rw [mut_shared, shut_mut, ← hsh]; rfl) (by rw [nb_mut, shut_mut, Bool.or_true, if_pos rfl, Bool.or_false, ← hsh, mut_shared]) (by rw [nb_mut, shut_mut, Bool.or_true, if_pos rfl, Bool.or_false, ← hsh, mut_shared]) ((S3.cons.set (Ne.symm d1)).set (Ne.symm d2)).cons ((Ext.set hak (Ext.set hal ((hU1.trans U3).trans .cons) (by assumption)) (by assumption)).trans .cons) (Nat.ne_of_gt (lN _ (setL_ne (setL_ne (.tail _ hs9) (Ne.symm d1)) (Ne.symm d2)))) (Nat.ne_of_gt (lN _ (setL_ne (setL_self (.tail _ m1')) d12))) (Nat.ne_of_gt (lN _ (setL_self (setL_ne (.tail _ m2') (Ne.symm d12)))))))
            · simp only [Ty.depth] at hn; omega
            · simp only [Ty.depth] at hlen; omega
          · exact hDW _ (WDone.intro F3 N3 (.mk hops _ _ rfl rfl rfl rfl rfl rfl m1' m2' m3' hk (hc.mono U3.tups) hv (hy0.mono U3.tups) hn hlen hsh hl0 hl1 S3 (hU1.trans U3) d3 d31 d32))
        · k_steps
          · rename Fr _ _ _ _ => F5
            rename News _ _ _ _ => N5
            rename ∀ p : Addr × Obj, p ∈ setL _ _ _ → p.1 < _ => lN
            obtain ⟨_, _, _, _, _, hs9, _⟩ := id S3
            refine hPW _ _ (WhileStep.intro F5 N5 ?_ (.step hops ⟨.ref _, _, [Str.ofString "mut"]⟩ rfl rfl rfl rfl rfl rfl (by (first | k_mem | fail "m_mem")) (by (first | k_mem | fail "m_mem")) (by (first | k_mem | fail "m_mem")) (StrsAre.append' hk (.cons _ _ .nil)) (by refine (hc.mono U3.tups).mono ?_; (walk_at "m_tups")) hv (.rmut (by (first | k_mem | fail "m_mem")) (by (first | k_mem | fail "m_mem"))) (by refine (y1.mono U3.tups).mono ?_; (walk_at "m_tups")) ?_ (by rw [shut_mut, ← hsh]; rfl) (by rw [nb_mut, shut_mut, Bool.or_true, if_pos rfl, Bool.or_false, ← hsh]) (by rw [nb_mut, shut_mut, Bool.or_true, if_pos rfl, Bool.or_false, ← hsh]) ((S3.cons.set (Ne.symm d1)).set (Ne.symm d2)).cons ((Ext.set hak (Ext.set hal ((hU1.trans U3).trans .cons) (by assumption)) (by assumption)).trans .cons) (Nat.ne_of_gt (lN _ (setL_ne (setL_ne (.tail _ hs9) (Ne.symm d1)) (Ne.symm d2)))) (Nat.ne_of_gt (lN _ (setL_ne (setL_self (.tail _ m1')) d12))) (Nat.ne_of_gt (lN _ (setL_self (setL_ne (.tail _ m2') (Ne.symm d12)))))))
            · simp only [Ty.depth] at hn; omega
            · simp only [Ty.depth] at hlen; omega
          · exact hDW _ (WDone.intro F3 N3 (.mk hops _ _ rfl rfl rfl rfl rfl rfl m1' m2' m3' hk (hc.mono U3.tups) hv (hy0.mono U3.tups) hn hlen hsh hl0 hl1 S3 (hU1.trans U3) d3 d31 d32))
  · clear lA lB lC lD FF NN
    rintro n mm nw h1 tk1 F1 N1 ⟨hops, kv, shut, es, e1, e2, e3, e4, e5, m1, m2, m3, hk, hc, hv, hy, hn, hlen, hsh, hl0, hl1, hS1, hU1, d3, d31, d32⟩
    have F2 := Fr.knowns F1 [(Str.ofString "sort", _), (Str.ofString "is_shut", _), (Str.ofString "lets", _), (Str.ofString "kinds", _), (Str.ofString "steps", _), (Str.ofString "source", _)] ⟨e5, e4, e3, e2, e1, es, trivial⟩
    dsimp only [kB] at F2
    clear F1
    have hz : hops.length ≤ 100 := by omega
    have hzk : kv.length ≤ 100 := by
      have := hk.length
      have := hc.kinds
      omega
    dsimp only
    k_steps
    refine hPB _ _ ?_
    k_steps
    refine hret _ _ _ _ (by k_asm) (by k_asm) ?_
    subst hl0 hl1 hv
    exact ⟨by (walk_at "m_ext"), by (walk_at "m_src"), .mk hops (.head _) (.tail _ (.head _)) (.tail _ (.tail _ m2)) (.tail _ (.tail _ m3)) hk (by refine hc.mono ?_; (walk_at "m_tups")) (by omega) (by (refine TyIn.mono hy ?_; walk_at "m_tups")) (by omega)⟩

-- part E1
section
open AutoSeq1 (wpAny_loadPart')
set_option maxRecDepth 100000
section
variable {prog : Program} {w : World} {A : Around} {E : Value → Shared → Prop} {s : Shared}

theorem m_next_item {it t : Addr} {i : Nat} {items : Array Value} {x : Value} {Q : Value → Shared → Prop} (hit : s.heap.IsTupleIter it t i) (ht : s.heap.IsTuple t items) (hx : items[i]? = some x)
    (hQ : ∀ h', h'.IsTupleIter it t (i + 1) → Heap.SameBut it s.heap h' → Q x { s with heap := h' }) : wpAny (model prog w) A (Builtin.SmallTypes.nextOf (.ref it)) Q E s := by
  obtain ⟨oi, hi, ci, di⟩ := id hit
  obtain ⟨ot, hot, _, nt, dt⟩ := ht
  unfold Builtin.SmallTypes.nextOf
  refine wpAny_bind (wpAny_callSpecial?_slot (name := Str.ofString "__next__") hit.typeIs F.slot_tuple_iterator_next (wpAny_call_entry F.slot_tuple_iterator_next hit.typeIs F.entry_tuple_iterator_next ?_ (F.args_tuple_iterator_next_1 _)))
  show wpAny _ _ (field (.ref it) 0 >>= _) _ _ s
  refine wpAny_bind (wpAny_field hi di (x := .ref t) rfl ?_)
  show wpAny _ _ (if (Value.ref t == Value.none) = true then _ else _) _ _ s
  rw [if_neg (show ¬ ((Value.ref t == Value.none) = true) from Bool.false_ne_true)]
  show wpAny _ _ (field (.ref it) 1 >>= _) _ _ s
  refine wpAny_bind (wpAny_field hi di (x := .int i 0) rfl ?_)
  show wpAny _ _ (seqItems? (.ref t) >>= _) _ _ s
  refine wpAny_bind (wpAny_seqItems hot dt ?_)
  simp only [Int.toNat_natCast, hx]
  refine wpAny_bind (wpAny_setField hi di (by simp) (wpAny_pure ⟨x, rfl, wpAny_pure (hQ _ ⟨_, Heap.get?_update_self _ hi (Obj.isFreed_of_fields (Obj.data_mapFields di _)), (Obj.cls_mapFields ..).trans ci, ?_⟩ (Heap.SameBut.update ..))⟩))
  rw [Obj.data_mapFields di]; simp [rawInt]

theorem m_next_end {it t : Addr} {i : Nat} {items : Array Value} {Q : Value → Shared → Prop} (hh : A.handled = none) (hit : s.heap.IsTupleIter it t i) (ht : s.heap.IsTuple t items) (hx : items[i]? = none)
    (hE : ∀ h' e, Heap.ExtBut it s.heap h' → (∃ o, h'.get? e = some o ∧ o.cls = .type "StopIteration") → E (.ref e) { s with heap := h' }) : wpAny (model prog w) A (Builtin.SmallTypes.nextOf (.ref it)) Q E s := by
  obtain ⟨oi, hi, ci, di⟩ := id hit
  obtain ⟨ot, hot, _, nt, dt⟩ := ht
  unfold Builtin.SmallTypes.nextOf
  refine wpAny_bind (wpAny_callSpecial?_slot (name := Str.ofString "__next__") hit.typeIs F.slot_tuple_iterator_next (wpAny_call_entry F.slot_tuple_iterator_next hit.typeIs F.entry_tuple_iterator_next ?_ (F.args_tuple_iterator_next_1 _)))
  show wpAny _ _ (field (.ref it) 0 >>= _) _ _ s
  refine wpAny_bind (wpAny_field hi di (x := .ref t) rfl ?_)
  show wpAny _ _ (if (Value.ref t == Value.none) = true then _ else _) _ _ s
  rw [if_neg (show ¬ ((Value.ref t == Value.none) = true) from Bool.false_ne_true)]
  show wpAny _ _ (field (.ref it) 1 >>= _) _ _ s
  refine wpAny_bind (wpAny_field hi di (x := .int i 0) rfl ?_)
  show wpAny _ _ (seqItems? (.ref t) >>= _) _ _ s
  refine wpAny_bind (wpAny_seqItems hot dt ?_)
  simp only [Int.toNat_natCast, hx]
  refine wpAny_bind (wpAny_rule (wpAny_bind (wpAny_setField hi di (by simp) ?_)))
  show wpAny _ _ (newExc (.type "StopIteration") [] >>= _) _ _ _
  refine wpAny_bind ?_
  simp only [newExc, newTuple]
  refine wpAny_bind (wpAny_newObj_type ?_ (by size_fits))
  refine wpAny_bind (m := firstArgMember _ _) (wpAny_of_eq (a := Value.none) (by first | rfl | (simp only [firstArgMember]; rfl)) ?_)
  refine wpAny_newObj_type ?_ (by size_fits)
  simp only [raiseNew]
  refine wpAny_bind (wpAny_handled ?_)
  first | rw [show A.in1.handled = none from hh] | rw [hh]
  exact wpAny_bind (wpAny_pure (wpAny_throw (hE _ _ (((Heap.SameBut.update ..).extBut.push _).push _) ⟨_, Heap.get?_push_size _ rfl, rfl⟩)))
end

theorem draws_tup {prog : Program} {w : World} {A : Around} (hh : A.handled = none) (it t : Addr) (hne : t ≠ it) (items : Array Value) :
    Draws prog w A it [it, t] items.size (fun i v => items[i]? = some v) (fun i h => h.IsTupleIter it t i ∧ h.IsTuple t items) where
  live := fun _ _ st => let ⟨o, ho, _⟩ := st.1; ⟨o, ho⟩
  frame := fun _ _ _ st hk => ⟨st.1.at fun o e => hk it (by simp) o e, st.2.at fun o e => hk t (by simp) o e⟩
  item := fun i s Q E hi st hQ => m_next_item st.1 st.2 (x := items[i]) (by simp [hi]) fun h' hit' hs' => hQ _ h' s.toks (by simp [hi]) ⟨hit', st.2.extBut hs'.extBut hne⟩ hs'
  done := fun s Q E st hE => m_next_end hh st.1 st.2 (by simp) hE

theorem m_enum_new (t : Addr) (items : Array Value) (o : Obj) (n : Nat) (hc : o.cls = .type "tuple") (hd : o.data = .seq items n) :
    Meets (Builtin.«enumerate.__new__» ⟨[.type "enumerate", .ref t], []⟩) (fun _ R s => s.heap.get? t = some o ∧
      R (.ok (.ret (.ref (s.heap.push { cls := .type "tuple_iterator", data := .fields #[.ref t, .int 0 0] }).objs.size)))
        { s with heap := (s.heap.push { cls := .type "tuple_iterator", data := .fields #[.ref t, .int 0 0] }).push { cls := .type "enumerate", data := .fields #[.none, .bool false, .ref s.heap.objs.size, rawInt 0, .none, .none] } }) :=
  .of_wp fun prog w A R s h => by
    obtain ⟨hp, g, d, tk, os⟩ := s; obtain ⟨ht, h⟩ := h
    have hsub := sub_enumerate
    have hT : Heap.IsTuple (Shared.heap ⟨hp, g, d, tk, os⟩) t items := ⟨_, ht, hc, n, hd⟩
    wp_walk using wpAny_loadPart' ht
    refine wpAny_stack_any fun st => wpAny_pure ?_
    split
    · rename_i c _ _ _ _ _
      cases (c == Value.type "enumerate")
      · wp_walk using wpAny_loadPart' ht, wpAny_pyIter_tuple hT
        exact ⟨_, rfl, h⟩
      · wp_walk using wpAny_loadPart' ht, wpAny_pyIter_tuple hT
        exact ⟨_, rfl, h⟩
    · wp_walk using wpAny_loadPart' ht, wpAny_pyIter_tuple hT
      exact ⟨_, rfl, h⟩

theorem m_call_enum {prog : Program} {w : World} {A : Around} {E : Value → Shared → Prop} {s : Shared} {t : Addr} {items : Array Value} {Q : Value → Shared → Prop} (hT : s.heap.IsTuple t items)
    (h : ∀ h', IsEnum h' (s.heap.objs.size + 1) s.heap.objs.size 0 .none → h'.IsTupleIter s.heap.objs.size t 0 → h'.objs.size = s.heap.objs.size + 2 →
      (∀ b o, s.heap.get? b = some o → h'.get? b = some o) → (∀ o : Obj, True) → Q (.ref (s.heap.objs.size + 1)) { s with heap := h' }) :
    wpAny (model prog w) A (call (.type "enumerate") [.ref t]) Q E s := by
  obtain ⟨o, ht, hc, n, hd⟩ := hT
  refine callType_new F.called_enumerate (by decide) (F.typeCall_enumerate_1 _) (F.newCall_enumerate_1 _) (fun obj => F.args_object_init_2 obj _) F.entry_enumerate_new
    (m_enum_new t items o n hc hd) ⟨ht, ?_⟩
  have hz : (s.heap.push { cls := .type "tuple_iterator", data := .fields #[.ref t, .int 0 0] }).objs.size = s.heap.objs.size + 1 := Heap.size_push ..
  show _ ∧ _
  rw [hz]
  have he : IsEnum ((s.heap.push { cls := .type "tuple_iterator", data := .fields #[.ref t, .int 0 0] }).push
      { cls := .type "enumerate", data := .fields #[.none, .bool false, .ref s.heap.objs.size, rawInt 0, .none, .none] }) (s.heap.objs.size + 1) s.heap.objs.size 0 .none := by
    have := Heap.get?_push_size (s.heap.push { cls := .type "tuple_iterator", data := .fields #[.ref t, .int 0 0] })
      (o := { cls := .type "enumerate", data := .fields #[.none, .bool false, .ref s.heap.objs.size, rawInt 0, .none, .none] }) rfl
    rw [hz] at this; exact this
  exact ⟨⟨_, he, rfl⟩, h _ he ⟨_, Heap.get?_push_of_some _ (Heap.get?_push_size _ rfl), rfl, rfl⟩ (by rw [Heap.size_push, hz]) (fun b o x => Heap.get?_push_of_some _ (Heap.get?_push_of_some _ x)) fun _ => trivial⟩
end

-- part L1
section
set_option maxRecDepth 100000
section
variable {prog : Program} {w : World} {A : Around} {E : Value → Shared → Prop} {s : Shared} {env : Env} {h₀ : Heap} {x : Str} {body : List Stmt} {Q : Flow → Shared → Prop}

theorem loop_led {I : Addr} {fp wr : List Addr} {n : Nat} {P : Nat → Value → Prop} {St : Nat → Heap → Prop} {m₀ : Str → Option Value} {news : Led} (J : Nat → (Str → Option Value) → Led → Prop)
    (W : Walks prog w A I fp wr n P St) (hLf : env.locals ∉ fp) (hwr : ∀ b ∈ wr, h₀.get? b = none) (hnw : ∀ p ∈ news, p.1 ∉ wr) (hst : St 0 s.heap) (F : Fr h₀ env.locals s.heap m₀) (N : News h₀ env.locals s.heap news) (hj : J 0 m₀ news)
    (turn : ∀ i v m₁ nx h tk own, i < n → P i v → nx.map (·.1) = news.map (·.1) → (∀ p ∈ own, p.1 ∈ fp) → J i m₁ nx → Fr h₀ env.locals h (fun y => if y = x then some v else m₁ y) → News h₀ env.locals h (own ++ nx) →
      wpAny (model prog w) A (execs body env) (InvPostN h₀ env.locals (J (i + 1)) own (news.map (·.1)) { s with heap := h, toks := tk } Q) E { s with heap := h, toks := tk })
    (done : ∀ m₁ nx h tk, J n m₁ nx → Fr h₀ env.locals h m₁ → News h₀ env.locals h nx → Q .next { s with heap := h, toks := tk }) :
    LoopAtV prog w A h₀ env x body Q E (.ref I) s := by
  refine ⟨I, fp, wr, n, P, St, m₀, news, fun i m nx => nx.map (·.1) = news.map (·.1) ∧ J i m nx, rfl, W, hLf, hwr, hnw, hst, F, N, ⟨rfl, hj⟩, ?_, ?_⟩
  · rintro i v m₁ nx s₁ own ⟨hp, tk, rfl⟩ hin hP ⟨hadr, hJ⟩ hoff hown _ _ _ F₁ N₁
    refine wpAny_mono (turn i v m₁ nx hp tk own hin hP hadr hown hJ F₁ N₁) (fun f s₂ q => ?_) fun _ _ e => e
    have fin : InvEndN h₀ env.locals (J (i + 1)) own (news.map (·.1)) { s with heap := hp, toks := tk } s₂ → LoopStepU h₀ env.locals wr own (fun m nx => nx.map (·.1) = news.map (·.1) ∧ J (i + 1) m nx) { s with heap := hp, toks := tk } .next s₂ := by
      rintro ⟨h', tk', m', news', nx', e, F', N', hn, ho, ha, hm⟩
      refine ⟨rfl, h', tk', m', nx', e, F', fun p hp => N' p ((List.mem_append.mp hp).elim (ho p) (hn p)), fun p hp hq => ?_, ha, hm⟩
      have h1 : p.1 ∈ nx'.map (·.1) := List.mem_map.mpr ⟨p, hp, rfl⟩
      rw [ha] at h1
      obtain ⟨q, hq1, hq2⟩ := List.mem_map.mp h1
      exact hnw q hq1 (hq2 ▸ hq)
    cases f with
    | ret v => exact .ret q
    | brk => exact .brk q
    | next => exact .next (fin q)
    | cont => exact .cont (fin q)
  · rintro h' tk m' news' F' N' _ ⟨_, hJ⟩
    exact done m' news' h' tk hJ F' N'

theorem iter_tup_led {t : Addr} {vs : List Value} {n₀ : Nat} {m₀ : Str → Option Value} {news : Led} (J : Nat → (Str → Option Value) → Led → Prop) (hh : A.handled = none) (hm : (t, tupO vs n₀) ∈ news)
    (F : Fr h₀ env.locals s.heap m₀) (N : News h₀ env.locals s.heap news) (hj : J 0 m₀ news)
    (turn : ∀ i v m₁ nx h tk own, i < vs.length → vs[i]? = some v → nx.map (·.1) = news.map (·.1) → (∀ p ∈ own, p.1 ∈ [s.heap.objs.size, t]) → J i m₁ nx → Fr h₀ env.locals h (fun y => if y = x then some v else m₁ y) → News h₀ env.locals h (own ++ nx) →
      wpAny (model prog w) A (execs body env) (InvPostN h₀ env.locals (J (i + 1)) own (news.map (·.1)) { s with heap := h, toks := tk } Q) E { s with heap := h, toks := tk })
    (done : ∀ m₁ nx h tk, J vs.length m₁ nx → Fr h₀ env.locals h m₁ → News h₀ env.locals h nx → Q .next { s with heap := h, toks := tk }) :
    wpAny (model prog w) A (pyIter (.ref t)) (fun it s₂ => LoopAtV prog w A h₀ env x body Q E it s₂) E s := by
  have ht : s.heap.IsTuple t vs.toArray := ⟨_, (N _ hm).1, rfl, n₀, rfl⟩
  have hlt : t < s.heap.objs.size := Heap.lt_size (N _ hm).1
  refine wpAny_pyIter_tuple ht ?_
  have W := Walks.tuple (prog := prog) (w := w) hh s.heap.objs.size t (Nat.ne_of_lt hlt) vs.toArray
  have e : vs.toArray.size = vs.length := by simp
  rw [e] at W
  refine loop_led J W ?_ ?_ ?_ ⟨⟨_, Heap.get?_push_size _ rfl, rfl, rfl⟩, ht.push _⟩ (F.push _) (fun p hp => ⟨Heap.get?_push_of_some _ (N p hp).1, (N p hp).2⟩) hj (fun i v m₁ nx h tk own hi hP => turn i v m₁ nx h tk own hi (by simpa using hP)) done
  · intro hL
    rcases List.mem_cons.mp hL with q | q
    · exact absurd F.ns.lt (q ▸ Nat.lt_irrefl _)
    · exact (N _ hm).2.1 (List.mem_singleton.mp q).symm
  · intro b hb
    rw [List.mem_singleton.mp hb]
    exact next_is_new F
  · intro p hp hI
    exact absurd (Heap.lt_size (N p hp).1) ((List.mem_singleton.mp hI) ▸ Nat.lt_irrefl _)

theorem iter_list_led {t : Addr} {vs : List Value} {n₀ : Nat} {m₀ : Str → Option Value} {news : Led} (J : Nat → (Str → Option Value) → Led → Prop) (hh : A.handled = none) (hm : (t, lstO vs n₀) ∈ news)
    (F : Fr h₀ env.locals s.heap m₀) (N : News h₀ env.locals s.heap news) (hj : J 0 m₀ news)
    (turn : ∀ i v m₁ nx h tk own, i < vs.length → vs[i]? = some v → nx.map (·.1) = news.map (·.1) → (∀ p ∈ own, p.1 ∈ [s.heap.objs.size, t]) → J i m₁ nx → Fr h₀ env.locals h (fun y => if y = x then some v else m₁ y) → News h₀ env.locals h (own ++ nx) →
      wpAny (model prog w) A (execs body env) (InvPostN h₀ env.locals (J (i + 1)) own (news.map (·.1)) { s with heap := h, toks := tk } Q) E { s with heap := h, toks := tk })
    (done : ∀ m₁ nx h tk, J vs.length m₁ nx → Fr h₀ env.locals h m₁ → News h₀ env.locals h nx → Q .next { s with heap := h, toks := tk }) :
    wpAny (model prog w) A (pyIter (.ref t)) (fun it s₂ => LoopAtV prog w A h₀ env x body Q E it s₂) E s := by
  have ht : s.heap.IsList t vs.toArray := News.isList N hm
  have hlt : t < s.heap.objs.size := Heap.lt_size (N _ hm).1
  refine wpAny_pyIter_list ht ?_
  have W := Walks.list (prog := prog) (w := w) hh s.heap.objs.size t (Nat.ne_of_lt hlt) vs.toArray
  have e : vs.toArray.size = vs.length := by simp
  rw [e] at W
  refine loop_led J W ?_ ?_ ?_ ⟨⟨_, Heap.get?_push_size _ rfl, rfl, rfl⟩, ht.at fun o e => Heap.get?_push_of_some _ e⟩ (F.push _) (fun p hp => ⟨Heap.get?_push_of_some _ (N p hp).1, (N p hp).2⟩) hj (fun i v m₁ nx h tk own hi hP => turn i v m₁ nx h tk own hi (by simpa using hP)) done
  · intro hL
    rcases List.mem_cons.mp hL with q | q
    · exact absurd F.ns.lt (q ▸ Nat.lt_irrefl _)
    · exact (N _ hm).2.1 (List.mem_singleton.mp q).symm
  · intro b hb
    rw [List.mem_singleton.mp hb]
    exact next_is_new F
  · intro p hp hI
    exact absurd (Heap.lt_size (N p hp).1) ((List.mem_singleton.mp hI) ▸ Nat.lt_irrefl _)

theorem iter_range_led {r : Addr} {b₀ : Int} {t₀ u₀ v₀ : Tok} {n : Nat} {m₀ : Str → Option Value} {news : Led} (J : Nat → (Str → Option Value) → Led → Prop) (hh : A.handled = none) (hr : IsRange s.heap r 0 b₀ 1 t₀ u₀ v₀) (hsmall : Builtin.Range.small 0 b₀ 1 = true) (hn : Builtin.Range.rangeSize 0 b₀ 1 = (n : Int))
    (F : Fr h₀ env.locals s.heap m₀) (N : News h₀ env.locals s.heap news) (hj : J 0 m₀ news)
    (turn : ∀ (i : Nat) t m₁ nx h tk own, i < n → nx.map (·.1) = news.map (·.1) → (∀ p ∈ own, p.1 = s.heap.objs.size) → J i m₁ nx → Fr h₀ env.locals h (fun y => if y = x then some (.int i t) else m₁ y) → News h₀ env.locals h (own ++ nx) →
      wpAny (model prog w) A (execs body env) (InvPostN h₀ env.locals (J (i + 1)) own (news.map (·.1)) { s with heap := h, toks := tk } Q) E { s with heap := h, toks := tk })
    (done : ∀ m₁ nx h tk, J n m₁ nx → Fr h₀ env.locals h m₁ → News h₀ env.locals h nx → Q .next { s with heap := h, toks := tk }) :
    wpAny (model prog w) A (pyIter (.ref r)) (fun it s₂ => LoopAtV prog w A h₀ env x body Q E it s₂) E s := by
  refine wpAny_pyIter_range hr hsmall ?_
  have W := Walks.range (prog := prog) (w := w) hh s.heap.objs.size 0 1 n
  refine loop_led J W ?_ ?_ ?_ (by show IsRangeIter _ _ _ _ _; rw [hn]; simpa using Heap.get?_push_size _ rfl) (F.push _) (fun p hp => ⟨Heap.get?_push_of_some _ (N p hp).1, (N p hp).2⟩) hj ?_ done
  · intro hL
    exact absurd F.ns.lt ((List.mem_singleton.mp hL) ▸ Nat.lt_irrefl _)
  · intro b hb
    rw [List.mem_singleton.mp hb]
    exact next_is_new F
  · intro p hp hI
    exact absurd (Heap.lt_size (N p hp).1) ((List.mem_singleton.mp hI) ▸ Nat.lt_irrefl _)
  · rintro i v m₁ nx h tk own hi ⟨t, rfl⟩ ha ho hJ F₁ N₁
    have e : (0 : Int) + (i : Int) * 1 = i := by omega
    rw [e] at F₁
    exact turn i t m₁ nx h tk own hi ha (fun p hp => List.mem_singleton.mp (ho p hp)) hJ F₁ N₁

theorem enum_tup_led {xi xc : Str} {t : Addr} {vs : List Value} {n₀ : Nat} {m₀ : Str → Option Value} {news : Led} (J : Nat → (Str → Option Value) → Led → Prop) (hh : A.in1.handled = none) (hm : (t, tupO vs n₀) ∈ news)
    (F : Fr h₀ env.locals s.heap m₀) (N : News h₀ env.locals s.heap news) (hj : J 0 m₀ news)
    (turn : ∀ (i : Nat) ti v m₁ nx h tk own, vs[i]? = some v → nx.map (·.1) = news.map (·.1) → (∀ p ∈ own, p.1 ∈ [s.heap.objs.size + 1, s.heap.objs.size, t]) → J i m₁ nx → Fr h₀ env.locals h (fun y => if y = xc then some v else if y = xi then some (.int i ti) else m₁ y) → News h₀ env.locals h (own ++ nx) →
      wpAny (model prog w) A (execs body env) (InvPostN h₀ env.locals (J (i + 1)) own (news.map (·.1)) { s with heap := h, toks := tk } Q) E { s with heap := h, toks := tk })
    (done : ∀ m₁ nx h tk, J vs.length m₁ nx → Fr h₀ env.locals h m₁ → News h₀ env.locals h nx → Q .next { s with heap := h, toks := tk }) :
    wpAny (model prog w) A (call (.type "enumerate") [.ref t]) (fun xv s₁ => wpAny (model prog w) A (pyIter xv) (fun it s₂ => PairAt3 prog w A h₀ env xi xc body Q E it s₂) E s₁) E s := by
  have ht : s.heap.IsTuple t vs.toArray := ⟨_, (N _ hm).1, rfl, n₀, rfl⟩
  have hlt : t < s.heap.objs.size := Heap.lt_size (N _ hm).1
  have hL : env.locals < s.heap.objs.size := F.ns.lt
  refine m_call_enum ht fun h' he hi hz hk _ => ?_
  have F' : Fr h₀ env.locals h' m₀ := F.keeps hk
  have N' : News h₀ env.locals h' news := fun p hp => ⟨hk _ _ (N p hp).1, (N p hp).2⟩
  have hne : ∀ b, s.heap.objs.size ≤ b → h₀.get? b = none := fun b hb => Heap.get?_none_of_le (Nat.le_trans F.above (Nat.le_trans (Nat.le_of_lt hL) hb))
  have D := draws_tup (prog := prog) (w := w) hh s.heap.objs.size t (Nat.ne_of_lt hlt) vs.toArray
  have e : vs.toArray.size = vs.length := by simp
  rw [e] at D
  have W := WalksT.enumerateD D (s.heap.objs.size + 1) (Nat.succ_ne_self _) (by
    intro hq
    rcases List.mem_cons.mp hq with q | q
    · exact absurd q (Nat.succ_ne_self _)
    · exact Nat.not_succ_lt_self ((List.mem_singleton.mp q) ▸ hlt)) (.head _)
  refine wpAny_pyIter_enum he ?_
  refine ⟨_, _, _, vs.length, _, _, _, (fun i v0 v1 => ∃ ti, v0 = .int i ti ∧ vs[i]? = some v1), m₀, news, fun i m nx => J i m nx, rfl, W, ?_, ?_, ?_, ?_, ⟨⟨_, by simpa using he⟩, hi, ht.at fun o q => hk _ _ q⟩, F', N', hj, ?_, ?_⟩
  · rintro i vals ⟨ti, v, hP, rfl⟩
    exact ⟨_, _, rfl, ti, rfl, by simpa using hP⟩
  · intro hq
    rcases List.mem_cons.mp hq with q | q
    · exact Nat.not_succ_lt_self (q ▸ hL)
    · rcases List.mem_cons.mp q with q | q
      · exact Nat.lt_irrefl _ (q ▸ hL)
      · exact (N _ hm).2.1 (List.mem_singleton.mp q).symm
  · intro b hb
    rcases List.mem_cons.mp hb with q | q
    · exact hne b (q ▸ Nat.le_succ _)
    · exact hne b (Nat.le_of_eq (List.mem_singleton.mp q).symm)
  · intro p hp hb
    have := Heap.lt_size (N p hp).1
    rcases List.mem_cons.mp hb with q | q
    · exact Nat.not_succ_lt_self (q ▸ this)
    · exact Nat.lt_irrefl _ ((List.mem_singleton.mp q) ▸ this)
  · rintro i v0 v1 m₁ nx s₁ own ⟨hp, tk, rfl⟩ _ ⟨ti, rfl, hv⟩ hJ hadr hown F₁ N₁
    refine wpAny_mono (turn i ti v1 m₁ nx hp tk own hv hadr hown hJ F₁ N₁) (fun f s₂ q => ?_) fun _ _ e => e
    have fin : InvEndN h₀ env.locals (J (i + 1)) own (news.map (·.1)) { s with heap := hp, toks := tk } s₂ → LoopStep2 h₀ env.locals own nx (J (i + 1)) { s with heap := hp, toks := tk } .next s₂ := by
      rintro ⟨h', tk', m', news', nx', e, F', N', hn, ho, ha, hm⟩
      exact ⟨rfl, h', tk', m', nx', e, F', fun p hp => N' p ((List.mem_append.mp hp).elim (ho p) (hn p)), ha.trans hadr.symm, hm⟩
    cases f with
    | ret v => exact q
    | brk => exact q
    | next => exact fin q
    | cont => exact fin q
  · intro h' tk m' news' F' N' _ hJ
    exact done m' news' h' tk hJ F' N'
end
theorem post_weak {h₀ : Heap} {L : Addr} {J : (Str → Option Value) → Led → Prop} {own : Led} {adr : List Addr} {s : Shared} {Q : Flow → Shared → Prop} : ∀ f s₂, InvPostN h₀ L J own adr s (fun _ _ => False) f s₂ → InvPostN h₀ L J own adr s Q f s₂
  | .ret _, _, h => (show False from h).elim
  | .brk, _, h => (show False from h).elim
  | .next, _, h => h
  | .cont, _, h => h
theorem turn_op {M : Model} {A : Around} {t : Sem Flow} {Q : Flow → Shared → Prop} {E : Value → Shared → Prop} {h₀ : Heap} {L : Addr} {J : (Str → Option Value) → Led → Prop} {own : Led} {adr : List Addr} {s s' : Shared}
    (h : ∀ (J' : (Str → Option Value) → Led → Prop), (∀ m nx, J m nx → J' m nx) → wpAny M A t (InvPostN h₀ L J' own adr s (fun _ _ => False)) (fun _ _ => False) s') : wpAny M A t (InvPostN h₀ L J own adr s Q) E s' := wpAny_mono (h J fun _ _ h => h) post_weak fun _ _ h => h.elim
end

-- part S4
section
def Sub (a b : Led) : Prop := ∀ p ∈ a, p ∈ b
theorem Sub.refl {a : Led} : Sub a a := fun _ h => h
theorem Sub.trans {a b c : Led} (h : Sub a b) (k : Sub b c) : Sub a c := fun p hp => k p (h p hp)
theorem Sub.cons {a : Led} {p : Addr × Obj} : Sub a (p :: a) := fun _ h => .tail _ h
theorem Sub.tups {a b : Led} (h : Sub a b) : Tups a b := fun _ _ _ x => h _ x
theorem Sub.app {a b : Led} (h : Sub a b) {x : Addr} {o : Obj} (k : (x, o) ∈ a) : (x, o) ∈ b := h _ k
theorem Sub.ext {src : Addr} {a b : Led} (h : Sub a b) : Ext src a b := ⟨fun p hp _ => h p hp, h.tups⟩
theorem Sub.src {src : Addr} {a b : Led} (h : Sub a b) (S : Src a src) : Src b src := by
  obtain ⟨a, b, ta, tb, n, hm, r⟩ := S
  exact ⟨a, b, ta, tb, n, h _ hm, r⟩

theorem Sub.appR {a b : Led} : Sub a (b ++ a) := fun _ h => List.mem_append_right _ h
theorem Sub.left {a b c : Led} (h : Sub (a ++ b) c) : Sub a c := fun p hp => h p (List.mem_append_left _ hp)
theorem Sub.right {a b c : Led} (h : Sub (a ++ b) c) : Sub b c := fun p hp => h p (List.mem_append_right _ hp)
theorem Fr.under {h₀ h : Heap} {L : Addr} {m : Str → Option Value} {x : Str} {v : Value} (F : Fr h₀ L h (fun y => if y = x then some v else m y)) (ps : List (Str × Value)) (k : Knows m ps) : Fr h₀ L h (fun y => if y = x then some v else kB m ps y) := by rw [kB_eq k]; exact F
theorem Fr.under2 {h₀ h : Heap} {L : Addr} {m : Str → Option Value} {x x' : Str} {v v' : Value} (F : Fr h₀ L h (fun y => if y = x then some v else if y = x' then some v' else m y)) (ps : List (Str × Value)) (k : Knows m ps) : Fr h₀ L h (fun y => if y = x then some v else if y = x' then some v' else kB m ps y) := by rw [kB_eq k]; exact F
theorem chain_at {nw : Led} : ∀ {hs : List Hop} {v : Value} {j : Nat} {h : Hop}, Chain nw v hs → hs[j]? = some h → HopIn nw (endv v (hs.take j)) h ∧ endv v (hs.take (j + 1)) = h.v
  | [], _, _, _, _, e => by simp at e
  | g :: r, v, 0, h, ⟨H, _⟩, e => by
    simp only [List.getElem?_cons_zero, Option.some.injEq] at e
    subst e
    exact ⟨H, rfl⟩
  | g :: r, v, j + 1, h, ⟨_, C⟩, e => by
    simp only [List.getElem?_cons_succ] at e
    exact chain_at (hs := r) C e

/-- a Body whose locals are rv -/
inductive BodyIn (w : World) (news : Led) : Value → List Value → Prop where
  | mk {x dx ll : Addr} {c : Nat} {k1 k2 k3 k4 k5 : Tok} {v1 v2 v4 v5 : Value} {rv : List Value} : (x, instObj 139 dx) ∈ news →
      (dx, dictOf [⟨PyData.keyHash w.params (Str.ofString "name"), .str (Str.ofString "name") k1, v1⟩, ⟨PyData.keyHash w.params (Str.ofString "arg_count"), .str (Str.ofString "arg_count") k2, v2⟩,
        ⟨PyData.keyHash w.params (Str.ofString "locals"), .str (Str.ofString "locals") k3, .ref ll⟩, ⟨PyData.keyHash w.params (Str.ofString "blocks"), .str (Str.ofString "blocks") k4, v4⟩,
        ⟨PyData.keyHash w.params (Str.ofString "spots"), .str (Str.ofString "spots") k5, v5⟩] 5) ∈ news → (ll, lstO rv c) ∈ news → BodyIn w news (.ref x) rv
theorem BodyIn.mono {w : World} {a b : Led} {v : Value} {rv : List Value} (H : BodyIn w a v rv) (h : Sub a b) : BodyIn w b v rv := by
  cases H with
  | mk h1 h2 h3 => exact .mk (h _ h1) (h _ h2) (h _ h3)
end

-- part M3
local macro_rules | `(tactic| walk_at "m_sub") => `(tactic| first | assumption | exact Sub.refl | (refine Sub.trans ?_ Sub.cons; (walk_at "m_sub")) | (refine Sub.trans ?_ Sub.appR; (walk_at "m_sub")) | (refine' Sub.trans ?_ ?u9; (case u9 => assumption); (walk_at "m_sub")))
local macro_rules | `(tactic| walk_at "m_tups") => `(tactic| (refine Sub.tups ?_; (walk_at "m_sub")))

-- part T4
section
set_option maxRecDepth 100000 in
set_option maxHeartbeats 8000000 in
theorem body_spec {p : Program} {loose : List Str} {w : World} {mean : ExcName → Option Value} {mg mb : Str → Option Value} (x1 : Str) (t1 t2 : Tok) (rl bl dl : Addr) (rv : List Value) (n : Nat) (hz : rv.length ≤ 100) : 
    Spec PySem.Challenge.rw_ot0009_01.row.prog w (hd.heap_39 w.params) p loose mean mg mb 139 3 100 [.str x1 t1, .int 0 t2, .ref rl, .ref bl, .ref dl]
      (fun news => (rl, lstO rv n) ∈ news) (fun news news' r => Sub news news' ∧ BodyIn w news' r rv) := by
  k_fill
  unfold Spec
  intro dp un gd cn cs a ccd cl outer A₀ base h₀ L m news s Q E B F X N T hk hpre hd' hu hret
  k_steps
  refine hret _ _ _ _ (by k_asm) (by k_asm) ?_
  exact ⟨by (walk_at "m_sub"), .mk (.tail _ (.head _)) (.tail _ (.tail _ (.head _))) (.head _)⟩
end

-- part T5
section
set_option maxRecDepth 100000 in
set_option maxHeartbeats 8000000 in
theorem projected_spec {p : Program} {loose : List Str} {w : World} {mean : ExcName → Option Value} {mg mb : Str → Option Value} (v : Value) (h : Hop) (vv wv : Value) (nws0 : Led) (H : HopIn nws0 v h) :
    Spec PySem.Challenge.rw_ot0009_01.row.prog w (hd.heap_39 w.params) p loose mean mg mb 157 3 100 [v, vv, h.sv, wv]
      (fun news => Tups nws0 news) (fun news news' r => Sub news news' ∧ ∃ a t n, r = .ref a ∧ (a, tupO [h.v, .int 0 t] n) ∈ news') := by
  k_fill
  unfold Spec
  intro dp un gd cn cs a ccd cl outer A₀ base h₀ L m news s Q E B F X N T hk hpre hd' hu hret
  replace H := H.mono hpre
  cases H with
  | f0 a1 a2 a3 =>
    refine wpAny_call ?_
    k_dflt (walk_at "m_enter")
    k_steps
    refine hret _ _ _ _ (by k_asm) (by k_asm) ?_
    exact ⟨by (walk_at "m_sub"), _, _, _, rfl, .head _⟩
  | f1 a1 a2 a3 =>
    refine wpAny_call ?_
    k_dflt (walk_at "m_enter")
    k_steps
    refine hret _ _ _ _ (by k_asm) (by k_asm) ?_
    exact ⟨by (walk_at "m_sub"), _, _, _, rfl, .head _⟩
  | idx a1 a2 =>
    refine wpAny_call ?_
    k_dflt (walk_at "m_enter")
    k_steps
    refine hret _ _ _ _ (by k_asm) (by k_asm) ?_
    exact ⟨by (walk_at "m_sub"), _, _, _, rfl, .head _⟩
  | box a1 a2 =>
    refine wpAny_call ?_
    k_dflt (walk_at "m_enter")
    k_steps
    refine hret _ _ _ _ (by k_asm) (by k_asm) ?_
    exact ⟨by (walk_at "m_sub"), _, _, _, rfl, .head _⟩
  | rmut a1 a2 =>
    refine wpAny_call ?_
    k_dflt (walk_at "m_enter")
    k_steps
    refine hret _ _ _ _ (by k_asm) (by k_asm) ?_
    exact ⟨by (walk_at "m_sub"), _, _, _, rfl, .head _⟩
  | rsh a1 a2 =>
    refine wpAny_call ?_
    k_dflt (walk_at "m_enter")
    k_steps
    refine hret _ _ _ _ (by k_asm) (by k_asm) ?_
    exact ⟨by (walk_at "m_sub"), _, _, _, rfl, .head _⟩
end

-- part E2
set_option maxRecDepth 100000
section
variable {prog : Program} {w : World} {A : Around} {E : Value → Shared → Prop} {s : Shared} {h₀ : Heap} {L : Addr} {m : Str → Option Value} {news : Led}

theorem adjust_to (b n : Nat) (hb : b ≤ n) : Builtin.Slice.sliceAdjust none (some (b : Int)) 1 (n : Int) = (0, (b : Int)) := by
  unfold Builtin.Slice.sliceAdjust
  have h1 : ¬ ((1 : Int) < 0) := by omega
  have h2 : ¬ ((b : Int) < 0) := by omega
  simp only [h1, h2, if_false]
  congr 1
  omega
theorem places_to (b : Nat) : Builtin.Slice.slicePlaces 0 (b : Int) 1 = b := by
  unfold Builtin.Slice.slicePlaces
  have h1 : (1 : Int) > 0 := by omega
  simp only [h1, if_true, Int.ediv_one]
  split <;> omega
theorem applied_to {sl : Addr} {b n : Nat} {u : Tok} {Q : Int × Int × Nat → Shared → Prop} (hs : s.heap.IsSliceOf sl .none (.int b u) .none) (hb : b ≤ n) (h : Q (0, 1, b) s) :
    wpAny (model prog w) A (Builtin.Slice.sliceApplied (.ref sl) (pure (n : Int))) Q E s := by
  obtain ⟨o, ho, hc, hd⟩ := id hs
  unfold Builtin.Slice.sliceApplied Builtin.Slice.sliceFields
  refine wpAny_bind (wpAny_bind (wpAny_field ho hd (x := .none) rfl (wpAny_bind (wpAny_field ho hd (x := .int b u) rfl (wpAny_bind (wpAny_field ho hd (x := .none) rfl (wpAny_pure ?_)))))))
  refine wpAny_bind (slicePart_none ?_)
  show wpAny _ _ (if ((1 : Int) == 0) = true then _ else _) _ _ s
  rw [if_neg (by decide)]
  refine wpAny_bind (slicePart_none (wpAny_bind (slicePart_int (wpAny_bind (wpAny_pure ?_)))))
  show wpAny _ _ (match Builtin.Slice.sliceAdjust none (some (b : Int)) 1 (n : Int) with | (lo, hi) => pure (lo, (1 : Int), Builtin.Slice.slicePlaces lo hi 1)) _ _ s
  rw [adjust_to b n hb]
  show wpAny _ _ (pure ((0 : Int), (1 : Int), Builtin.Slice.slicePlaces 0 (b : Int) 1)) _ _ s
  rw [places_to b]
  exact wpAny_pure h
theorem pick_to (xs : List Value) (b : Nat) : ((List.range b).filterMap fun (k : Nat) => xs.toArray[((0 : Int) + (k : Int) * 1).toNat]?) = xs.take b := by
  have e : (fun (k : Nat) => xs.toArray[((0 : Int) + (k : Int) * 1).toNat]?) = fun k => xs[k]? := by
    funext k
    have : ((0 : Int) + (k : Int) * 1).toNat = k := by omega
    rw [this]; simp
  rw [e]
  induction b with
  | zero => simp
  | succ b ih => rw [List.range_succ, List.filterMap_append, ih, List.take_add_one]; congr 1
theorem getItem_to {t sl : Addr} {vs : List Value} {b : Nat} {u : Tok} {Q : Value → Shared → Prop} (ht : IsTup s.heap t vs.toArray) (hs : s.heap.IsSliceOf sl .none (.int b u) .none) (hb : b < vs.length) (hz : vs.length ≤ 16384)
    (h : Q (.ref s.heap.objs.size) { s with heap := s.heap.push { cls := .type "tuple", data := .seq (vs.take b).toArray } }) : wpAny (model prog w) A (getItem (.ref t) (.ref sl)) Q E s := by
  have hok : sizeOk (.seq (vs.take b).toArray) := by
    show (vs.take b).toArray.size ≤ sizeLine
    rw [List.size_toArray, List.length_take, sizeLine_eq]
    omega
  obtain ⟨o, ho, hc, hd⟩ := id hs
  have hT : s.TypeIs (.ref sl) "slice" := ⟨o, ho, hc⟩
  have hn : vs.toArray.size = vs.length := by simp
  unfold getItem
  try with_reducible refine wpAny_holding ?_
  first | refine wpAny_bind (wpAny_pure ?_) | skip
  refine wpAny_bind (wpAny_sequenceKey ht.typeIs (by decide) ?_)
  refine wpAny_bind (wpAny_callSpecial?_slot (name := Str.ofString "__getitem__") ht.typeIs slot_tuple_getitem (wpAny_call_entry slot_tuple_getitem ht.typeIs entry_tuple_getitem ?_ (args_tuple_getitem _ _)))
  show wpAny _ _ (Builtin.Tuple.tupleItemsOf (.ref t) >>= _) _ _ s
  refine wpAny_bind (tupleItemsOf_ ht ?_)
  refine wpAny_bind (wpAny_typeOf hT ?_)
  rw [if_pos (by decide)]
  refine wpAny_bind (applied_to hs (by rw [hn]; omega) ?_)
  have hno : ¬ (((0 : Int) == 0 && (1 : Int) == 1 && b == vs.toArray.size) = true) := by
    have : (b == vs.toArray.size) = false := by rw [beq_eq_false_iff_ne, hn]; omega
    rw [this]; simp
  show wpAny _ _ (if ((0 : Int) == 0 && (1 : Int) == 1 && b == vs.toArray.size) = true then _ else _) _ _ s
  rw [if_neg hno, pick_to vs b]
  first
    | exact wpAny_bind (m := Builtin.Tuple.tupleExact _) (wpAny_newObj_type (wpAny_pure ⟨_, rfl, wpAny_pure h⟩) hok)
    | exact wpAny_bind (m := Builtin.Tuple.tupleExact _) (wpAny_newObj_type (wpAny_bind (wpAny_pure (wpAny_pure ⟨_, rfl, wpAny_pure h⟩))) hok)
    | exact wpAny_bind (wpAny_bind (m := Builtin.Tuple.tupleExact _) (wpAny_newObj_type (wpAny_pure (wpAny_pure ⟨_, rfl, wpAny_pure h⟩)) hok))
    | exact wpAny_bind (wpAny_bind (m := Builtin.Tuple.tupleExact _) (wpAny_newObj_type (wpAny_pure ⟨_, rfl, wpAny_pure h⟩) hok))

theorem m_slice_to {value slice : PySem.Expr} {t : Addr} {vs : List Value} {n b : Nat} {u : Tok} {Q : Value → Shared → Prop} (F : Fr h₀ L s.heap m) (N : News h₀ L s.heap news) (hm : (t, tupO vs n) ∈ news) (hb : b < vs.length) (hz : vs.length ≤ 16384)
    (h : ∀ T h', Fr h₀ L h' m → News h₀ L h' ((T, tupO (vs.take b) 0) :: news) → (∀ p ∈ news, p.1 < T) → Q (.ref T) { s with heap := h' })
    (hs : subscripted slice false (.ref t) (.ref s.heap.objs.size) = operate [.ref s.heap.objs.size, .ref t] (getItem (.ref t) (.ref s.heap.objs.size)))
    (hg : ∀ r, letTemporaryGo value (.ref t) r = pure ()) :
    wpAny (model prog w) A (subscriptTail value slice (.ref t) (.ref s.heap.objs.size)) Q E { s with heap := s.heap.push { cls := .type "slice", data := .fields #[.none, .int b u, .none] } } := by
  have ht : IsTup (s.heap.push { cls := .type "slice", data := .fields #[.none, .int b u, .none] }) t vs.toArray := (News.isTup N hm).keeps fun _ _ e => Heap.get?_push_of_some _ e
  refine subscriptTail_ops (s := { s with heap := s.heap.push { cls := .type "slice", data := .fields #[.none, .int b u, .none] } }) ht.typeIs slot_tuple_getitem.lookup (getItem_to ht (Heap.IsSliceOf.new ..) hb hz ?_) hs hg
  have N1 := News.push (F.push { cls := .type "slice", data := .fields #[.none, .int b u, .none] }) (N.grown fun _ _ e => Heap.get?_push_of_some _ e) { cls := .type "tuple", data := .seq (vs.take b).toArray }
  rw [Heap.size_push] at N1
  show Q (.ref (s.heap.push _).objs.size) _
  rw [Heap.size_push]
  exact h _ _ ((F.push _).push _) N1 fun p hp => Nat.lt_succ_of_lt (Heap.lt_size (N p hp).1)
end
local macro_rules | `(tactic| walk_at "subscriptTail") => `(tactic| (k_here; (with_reducible show wpAny _ _ (subscriptTail _ (PySem.Expr.Slice none (some _) none _) (Value.ref _) (Value.ref _)) _ _ _); k_dflt (first | refine m_slice_to (by k_asm) (by k_asm) (by first | k_mem | fail) (by with_reducible assumption) (by with_reducible assumption) ?_ (by with_unfolding_all rfl) (by kmk_pure) | fail); intro D' h' F' N' l1; (try k_lt l1); (try k_sweep)))

-- part E3
section
open PyProof.V
set_option maxRecDepth 100000
theorem eqv_strs : ∀ ss ts : List Str, PyData.eqvAll (ss.map PyData.str) (ts.map PyData.str) = decide (ss = ts)
  | [], [] => by simp [PyData.eqvAll]
  | [], _ :: _ => by simp [PyData.eqvAll]
  | _ :: _, [] => by simp [PyData.eqvAll]
  | x :: r, y :: q => by
    simp only [List.map_cons, PyData.eqvAll, PyData.eqv, eqv_strs r q, List.cons.injEq]
    by_cases h1 : x = y
    · subst h1; simp
    · have : (x == y) = false := by rw [beq_eq_false_iff_ne]; exact h1
      simp [h1, this]
theorem lay_strs : ∀ ss : List Str, (∀ x ∈ ss, PyData.strOk x = true) → PyData.canLayAll0 (ss.map PyData.str) = true ∧ PyData.depthAll (ss.map PyData.str) = 0
  | [], _ => by simp [PyData.canLayAll0, PyData.depthAll]
  | x :: r, h => by
    have := lay_strs r fun y hy => h y (.tail _ hy)
    simp [PyData.canLayAll0, PyData.depthAll, PyData.canLay0, PyData.depth, this.1, this.2, h x (.head _)]
theorem shaped_strs {ss : List Str} (h : ∀ x ∈ ss, PyData.strOk x = true) : SeqAt.shaped (.list (ss.map PyData.str)) = true := by
  have := lay_strs ss h
  simp [SeqAt.shaped, PyData.canLay0, PyData.depth, this.1, this.2]
section
variable {prog : Program} {w : World} {A : Around} {E : Value → Shared → Prop} {s : Shared} {h₀ : Heap} {L : Addr} {news : Led}
theorem m_ne_strs {a b : Addr} {xs ys : List Value} {ss ts : List Str} {ka kb : Nat} {Q : Value → Shared → Prop} (N : News h₀ L s.heap news) (ma : (a, lstO xs ka) ∈ news) (hi : StrsAre xs ss) (mb : (b, lstO ys kb) ∈ news) (hj : StrsAre ys ts)
    (oa : ∀ x ∈ ss, PyData.strOk x = true) (ob : ∀ x ∈ ts, PyData.strOk x = true) (hu : A.units + 64 < cLine) (h : Q (.bool (!decide (ss = ts))) s) : wpAny (model prog w) A (compareOp .NotEq (.ref a) (.ref b)) Q E s :=
  ne_dataH (reads_list_at (N.get ma) rfl rfl (by simpa using hi.reads _)) (reads_list_at (N.get mb) rfl rfl (by simpa using hj.reads _)) (shaped_strs oa) (shaped_strs ob) hu (by
    have e : PyData.eqv (.list (ss.map PyData.str)) (.list (ts.map PyData.str)) = decide (ss = ts) := by simp only [PyData.eqv]; exact eqv_strs ss ts
    rw [e]; exact h)
end
def KOk (ks : List Str) : Prop := ∀ x ∈ ks, PyData.strOk x = true
theorem ok_box : PyData.strOk (Str.ofString "box") = true := by decide +kernel
theorem ok_mut : PyData.strOk (Str.ofString "mut") = true := by decide +kernel
theorem ok_shared : PyData.strOk (Str.ofString "shared") = true := by decide +kernel
theorem HopIn.ok {nw : Led} {v : Value} {h : Hop} (H : HopIn nw v h) : KOk h.ks := by
  cases H <;> intro x hx <;> simp only [List.mem_cons, List.not_mem_nil, or_false] at hx
  · subst hx; exact ok_box
  · subst hx; exact ok_mut
  · subst hx; exact ok_shared
theorem Chain.ok {nw : Led} : ∀ {hs : List Hop} {v : Value}, Chain nw v hs → KOk (kindsOf hs)
  | [], _, _ => fun _ h => nomatch h
  | h :: r, _, ⟨H, C⟩ => fun x hx => by
    rw [kindsOf, List.flatMap_cons] at hx
    rcases List.mem_append.mp hx with q | q
    · exact H.ok x q
    · exact Chain.ok C x q
def mutR (ks : List Str) (mb none : Bool) : Bool := if shutOf ks then false else if nbOf ks then true else mb || none
theorem shut_filter (ks : List Str) : (ks.filter fun a => a != Str.ofString "box").any (· == Str.ofString "shared") = shutOf ks := by
  unfold shutOf
  induction ks with
  | nil => rfl
  | cons k r ih =>
    by_cases h : k = Str.ofString "box"
    · subst h
      have e : (Str.ofString "box" == Str.ofString "shared") = false := box_shared
      simp only [List.filter_cons, bne_self_eq_false, Bool.false_eq_true, if_false, List.any_cons, e, Bool.false_or, ih]
    · have e : (k != Str.ofString "box") = true := by rw [bne_iff_ne]; exact h
      simp only [List.filter_cons, e, if_true, List.any_cons, ih]
theorem nb_filter (ks : List Str) : (!decide ((ks.filter fun a => a != Str.ofString "box") = [])) = nbOf ks := by
  unfold nbOf
  induction ks with
  | nil => rfl
  | cons k r ih =>
    by_cases h : k = Str.ofString "box"
    · subst h
      simpa only [List.filter_cons, bne_self_eq_false, Bool.false_eq_true, if_false, List.any_cons, Bool.false_or] using ih
    · have e : (k != Str.ofString "box") = true := by rw [bne_iff_ne]; exact h
      simp only [List.filter_cons, e, if_true, List.any_cons, Bool.true_or]
      simp
end

-- part E4
section
set_option maxRecDepth 100000
theorem ok_int : PyData.strOk (Str.ofString "int") = true := by decide +kernel
theorem ok_u8 : PyData.strOk (Str.ofString "u8") = true := by decide +kernel
theorem ok_tuple : PyData.strOk (Str.ofString "tuple") = true := by decide +kernel
theorem ok_array : PyData.strOk (Str.ofString "array") = true := by decide +kernel
theorem ok_box' : PyData.strOk (Str.ofString "box") = true := by decide +kernel
theorem ok_ref : PyData.strOk (Str.ofString "ref") = true := by decide +kernel
theorem reads_tupO {h₀ h : Heap} {L a : Addr} {news : Led} {vs : List Value} {n : Nat} {ds : List PyData} {as : List Addr} (N : News h₀ L h news) (hm : (a, tupO vs n) ∈ news) (H : ReadsAll h vs ds as) : Reads h (.ref a) (.tuple ds) as :=
  reads_tuple_at (N _ hm).1 rfl rfl (by simpa using H)
theorem TyIn.data {h₀ h : Heap} {L : Addr} {news : Led} (N : News h₀ L h news) {v : Value} {t : Ty} (H : TyIn news v t) : ∃ d as, Reads h v d as ∧ d.canLay0 = true ∧ d.depth ≤ 2 * t.depth + 1 := by
  induction H with
  | int m =>
    refine ⟨_, _, reads_tupO N m (.cons (.str _ _) (.cons (.str _ _) .nil)), ?_, ?_⟩
    · simp only [PyData.canLay0, PyData.canLayAll0, ok_int, ok_u8, Bool.and_self]
    · simp only [PyData.depth, PyData.depthAll, Ty.depth]; omega
  | tup m1 m2 _ _ i1 i2 =>
    obtain ⟨d1, a1, r1, c1, p1⟩ := i1
    obtain ⟨d2, a2, r2, c2, p2⟩ := i2
    refine ⟨_, _, reads_tupO N m1 (.cons (.str _ _) (.cons (reads_tupO N m2 (.cons r1 (.cons r2 .nil))) .nil)), ?_, ?_⟩
    · simp only [PyData.canLay0, PyData.canLayAll0, ok_tuple, c1, c2, Bool.and_self]
    · simp only [PyData.depth, PyData.depthAll, Ty.depth]; omega
  | arr m _ i =>
    obtain ⟨d1, a1, r1, c1, p1⟩ := i
    refine ⟨_, _, reads_tupO N m (.cons (.str _ _) (.cons r1 (.cons (.int _ _) .nil))), ?_, ?_⟩
    · simp only [PyData.canLay0, PyData.canLayAll0, ok_array, c1, Bool.and_self]
    · simp only [PyData.depth, PyData.depthAll, Ty.depth]; omega
  | box m _ i =>
    obtain ⟨d1, a1, r1, c1, p1⟩ := i
    refine ⟨_, _, reads_tupO N m (.cons (.str _ _) (.cons r1 .nil)), ?_, ?_⟩
    · simp only [PyData.canLay0, PyData.canLayAll0, ok_box', c1, Bool.and_self]
    · simp only [PyData.depth, PyData.depthAll, Ty.depth]; omega
  | ref m _ i =>
    obtain ⟨d1, a1, r1, c1, p1⟩ := i
    refine ⟨_, _, reads_tupO N m (.cons (.str _ _) (.cons .none (.cons (.bool _) (.cons r1 .nil)))), ?_, ?_⟩
    · simp only [PyData.canLay0, PyData.canLayAll0, ok_ref, c1, Bool.and_self]
    · simp only [PyData.depth, PyData.depthAll, Ty.depth]; omega
section
variable {prog : Program} {w : World} {A : Around} {E : Value → Shared → Prop} {s : Shared} {h₀ : Heap} {L : Addr} {news : Led}
theorem m_ne_ty {v : Value} {t : Ty} {Q : Value → Shared → Prop} (N : News h₀ L s.heap news) (H : TyIn news v t) (hz : t.depth ≤ 30) (hu : A.units + 64 < cLine) (h : Q (.bool false) s) : wpAny (model prog w) A (compareOp .NotEq v v) Q E s := by
  obtain ⟨d, as, r, c, p⟩ := H.data N
  have hs : SeqAt.shaped d = true := by simp only [SeqAt.shaped, c, Bool.true_and, decide_eq_true_eq]; omega
  exact ne_dataH r r hs hs hu (by rw [PySem.SeqAt.eqv_refl d c]; exact h)
end
theorem ne_src_obj {h₀ h : Heap} {L a src : Addr} {news : Led} {o : Obj} (N : News h₀ L h news) (ha : (a, o) ∈ news) (S : Src news src) (hne : ∀ u v t1 t2 n, o ≠ lstO [.int u t1, .int v t2] n) : a ≠ src := by
  intro e
  obtain ⟨u, v, t1, t2, n, hm, _⟩ := S
  subst e
  have h1 := (N _ ha).1
  rw [(N _ hm).1] at h1
  exact hne _ _ _ _ _ (Option.some.inj h1).symm
theorem BodyIn.upto {w : World} {h₀ h : Heap} {L src x : Addr} {a b : Led} {bd : Value} {r : List Value} (H : BodyIn w a bd (.ref x :: r)) (N : News h₀ L h a) (S : Src a src) (U : Upto src a b) : BodyIn w b bd (.ref x :: r) := by
  cases H with
  | mk h1 h2 h3 =>
    refine .mk (U _ h1 (ne_src_obj N h1 S ?_)) (U _ h2 (ne_src_obj N h2 S ?_)) (U _ h3 (ne_src_obj N h3 S ?_))
    · intro _ _ _ _ _ e; have := congrArg Obj.cls e; simp [instObj] at this
    · intro _ _ _ _ _ e; have := congrArg Obj.cls e; simp [dictOf] at this
    · intro _ _ _ _ _ e
      have h9 := congrArg (fun o : Obj => match o.data with | .seq v _ => v.toList.head? | _ => none) e
      simp at h9

/-- what one source's turn keeps in the ledger -/
structure TL (w : World) (keep : Led) (src : Addr) (bd : Value) (x : Addr) (r : List Value) (a1 a2 : Addr) (so nm : Value) (t : Ty) (nx : Led) : Prop where
  S : Src nx src
  B : BodyIn w nx bd (.ref x :: r)
  h1 : ∃ kx, (a1, tupO [so, .bool true, .str (Str.ofString "x") kx] 0) ∈ nx
  h2 : (a2, tupO [so, .bool false, nm] 0) ∈ nx
  hT : TyIn nx so t
  hK : Sub keep nx
theorem TL.upto {w : World} {keep : Led} {src : Addr} {bd : Value} {x : Addr} {r : List Value} {a1 a2 : Addr} {so nm : Value} {t : Ty} {h₀ h : Heap} {L : Addr} {a b : Led} (H : TL w keep src bd x r a1 a2 so nm t a) (hk : ∀ p ∈ keep, p.1 ≠ src) (N : News h₀ L h a) (U : Upto src a b) (Sb : Src b src) : TL w keep src bd x r a1 a2 so nm t b :=
  have T := U.tups N H.S
  ⟨Sb, H.B.upto N H.S U, H.h1.imp fun _ z => T _ _ _ z, T _ _ _ H.h2, H.hT.mono T, fun p hp => U p (H.hK p hp) (hk p hp)⟩
theorem TL.next {w : World} {keep : Led} {src : Addr} {bd : Value} {x : Addr} {r : List Value} {a1 a2 : Addr} {so nm : Value} {t : Ty} {h₀ h : Heap} {L : Addr} {nx nb own : Led} (H : TL w keep src bd x r a1 a2 so nm t nx) (hk : ∀ p ∈ keep, p.1 ≠ src) (N : News h₀ L h (own ++ nx)) (U : Ext src (own ++ nx) nb) (Sb : Src nb src) (ho : ∀ p ∈ own, p.1 ≠ src) :
    TL w keep src bd x r a1 a2 so nm t nb ∧ Sub own nb ∧ ∃ o, TL w keep src bd x r a1 a2 so nm t (setL src o nx) ∧ Sub (setL src o nx) nb := by
  have Nx : News h₀ L h nx := fun p hp => N p (List.mem_append_right _ hp)
  have Ux : Upto src nx nb := fun p hp hn => U.upto p (List.mem_append_right _ hp) hn
  refine ⟨H.upto hk Nx Ux Sb, fun p hp => U.upto p (List.mem_append_left _ hp) (ho p hp), ?_⟩
  obtain ⟨u, v, t1, t2, n, hm, hb⟩ := Sb
  obtain ⟨_, _, _, _, _, hm0, _⟩ := H.S
  refine ⟨lstO [.int u t1, .int v t2] n, H.upto hk Nx setL_upto ⟨u, v, t1, t2, n, setL_self hm0, hb⟩, fun p hp => ?_⟩
  obtain ⟨q, hq, e⟩ := List.mem_map.mp hp
  by_cases hc : q.1 = src
  · rw [if_pos hc] at e; exact e ▸ hm
  · rw [if_neg hc] at e; exact e ▸ Ux q hq hc
theorem shared_box : (Str.ofString "shared" != Str.ofString "box") = true := by decide +kernel
theorem shut_nb {ks : List Str} (h : shutOf ks = true) : nbOf ks = true := by
  unfold shutOf at h
  unfold nbOf
  obtain ⟨y, hy, e⟩ := List.any_eq_true.mp h
  have := eq_of_beq e
  subst this
  exact List.any_eq_true.mpr ⟨_, hy, shared_box⟩
theorem ty_rb {h₀ h : Heap} {L a b : Addr} {nw : Led} {t1 t2 : Tok} {n1 n2 : Nat} {v : Value} {t : Ty} (_ : News h₀ L h ((a, tupO [.str (Str.ofString "ref") t1, .none, .bool true, .ref b] n1) :: (b, tupO [.str (Str.ofString "box") t2, v] n2) :: nw)) (Y : TyIn nw v t) :
    TyIn ((a, tupO [.str (Str.ofString "ref") t1, .none, .bool true, .ref b] n1) :: (b, tupO [.str (Str.ofString "box") t2, v] n2) :: nw) (.ref a) (.ref true (.box t)) :=
  .ref (.head _) (.box (.tail _ (.head _)) (Y.mono (Sub.tups (Sub.cons.trans Sub.cons))))
theorem ty_pair {h₀ h : Heap} {L a b : Addr} {nw : Led} {t1 : Tok} {n1 n2 : Nat} {x y : Value} {tx ty : Ty} (_ : News h₀ L h ((a, tupO [.str (Str.ofString "tuple") t1, .ref b] n1) :: (b, tupO [x, y] n2) :: nw)) (X : TyIn nw x tx) (Y : TyIn nw y ty) :
    TyIn ((a, tupO [.str (Str.ofString "tuple") t1, .ref b] n1) :: (b, tupO [x, y] n2) :: nw) (.ref a) (.tup tx ty) :=
  .tup (.head _) (.tail _ (.head _)) (X.mono (Sub.tups (Sub.cons.trans Sub.cons))) (Y.mono (Sub.tups (Sub.cons.trans Sub.cons)))
theorem inN {h₀ h : Heap} {L : Addr} {nw : Led} {p : Addr × Obj} (_ : News h₀ L h nw) (H : p ∈ nw) : p ∈ nw := H
theorem src_lt {h₀ h : Heap} {L src : Addr} {nw : Led} (N : News h₀ L h nw) (S : Src nw src) : src < h.objs.size := by
  obtain ⟨_, _, _, _, _, hm, _⟩ := S
  exact Heap.lt_size (N _ hm).1
theorem m_ne_same {prog : Program} {w : World} {A : Around} {E : Value → Shared → Prop} {s : Shared} {h₀ : Heap} {L : Addr} {news : Led} {a b : Addr} {xs ys : List Value} {ss : List Str} {ka kb : Nat} {Q : Value → Shared → Prop} (N : News h₀ L s.heap news) (ma : (a, lstO xs ka) ∈ news) (hi : StrsAre xs ss) (mb : (b, lstO ys kb) ∈ news) (hj : StrsAre ys ss)
    (oa : KOk ss) (hu : A.units + 64 < cLine) (h : Q (.bool false) s) : wpAny (model prog w) A (compareOp .NotEq (.ref a) (.ref b)) Q E s :=
  m_ne_strs N ma hi mb hj oa oa hu (by rw [show (!decide (ss = ss)) = false from by simp]; exact h)
theorem m_ne_bool {prog : Program} {w : World} {A : Around} {E : Value → Shared → Prop} {s : Shared} {c : Bool} {Q : Value → Shared → Prop} (h : Q (.bool false) s) : wpAny (model prog w) A (compareOp .NotEq (.bool c) (.bool c)) Q E s := ne_bool (by rw [bne_self_eq_false]; exact h)
theorem m_ne_two {prog : Program} {w : World} {A : Around} {E : Value → Shared → Prop} {s : Shared} {h₀ : Heap} {L : Addr} {news : Led} {a b : Addr} {ka kb : Nat} {Q : Value → Shared → Prop} (N : News h₀ L s.heap news) (ma : (a, lstO [.bool true, .bool false] ka) ∈ news) (mb : (b, lstO [.bool true, .bool false] kb) ∈ news) (hu : A.units + 64 < cLine) (h : Q (.bool false) s) : wpAny (model prog w) A (compareOp .NotEq (.ref a) (.ref b)) Q E s :=
  ne_dataH (reads_list_at (N.get ma) rfl rfl (.cons (.bool _) (.cons (.bool _) .nil))) (reads_list_at (N.get mb) rfl rfl (.cons (.bool _) (.cons (.bool _) .nil))) (by decide) (by decide) hu h
theorem plIn {h₀ h : Heap} {L pl : Addr} {nw : Led} {i : Int} {t : Tok} {em : Value} {n : Nat} (_ : News h₀ L h ((pl, tupO [.int i t, em] n) :: nw)) : ∃ t', (pl, tupO [.int i t', em] n) ∈ ((pl, tupO [.int i t, em] n) :: nw) := ⟨t, .head _⟩
theorem str_none {x : Str} {t : Tok} : ((Value.str x t) == Value.none) = false := rfl
theorem none_none : (Value.none == Value.none) = true := rfl
theorem mutR_true (ks : List Str) (b : Bool) : mutR ks true b = let0 ks := by
  unfold mutR let0
  cases h : shutOf ks
  · cases nbOf ks <;> rfl
  · rw [shut_nb h]; rfl
theorem mutR_none (ks : List Str) (b : Bool) : mutR ks b true = let0 ks := by
  unfold mutR let0
  cases h : shutOf ks
  · cases nbOf ks <;> cases b <;> rfl
  · rw [shut_nb h]; rfl
theorem mutR_named (ks : List Str) : mutR ks false false = let1 ks := by
  unfold mutR let1
  cases h : shutOf ks
  · cases nbOf ks <;> rfl
  · rw [shut_nb h]; rfl
end

-- part T9
section
theorem fill0 : (fun (_ : OpenLaw) (_ : Params → Frag) => True) PySem.Challenge.rw_ot0009_01 hd.heap_39 := by
  k_fill
  trivial
local macro_rules | `(tactic| walk_at "exec If") => `(tactic| (k_here; refine stop_of ?_))
inductive CellOut (h₀ : Heap) (L : Addr) (news : Led) (kv : Value) (s : Shared) : Flow → Shared → Prop where
  | mk (h' : Heap) (tk : Nat) (m' : Str → Option Value) (c : Int) (tc : Tok) (F : Fr h₀ L h' m') (N : News h₀ L h' news) (K : Knows m' [(Str.ofString "cell", .int c tc), (Str.ofString "k", kv)]) : CellOut h₀ L news kv s .next { s with heap := h', toks := tk }
theorem cell_join {M : Model} {A : Around} {t : Sem Flow} {Q : Flow → Shared → Prop} {E : Value → Shared → Prop} {s : Shared} {h₀ : Heap} {L : Addr} {m : Str → Option Value} {news : Led} (kv : Value) (_ : Fr h₀ L s.heap m) (_ : News h₀ L s.heap news) (h : wpAny M A t (CellOut h₀ L news kv s) E s)
    (k : ∀ h' tk m' c tc, Fr h₀ L h' m' → News h₀ L h' news → Knows m' [(Str.ofString "cell", .int c tc), (Str.ofString "k", kv)] → Q .next { s with heap := h', toks := tk }) : wpAny M A t Q E s :=
  wpAny_mono h (by rintro f s' ⟨h', tk, m', c, tc, F, N, K⟩; exact k h' tk m' c tc F N K) (fun _ _ x => x)
theorem mx_nonneg (c : Int) : 0 ≤ (if -1 - c > c then -1 - c else c) := by split <;> omega
theorem bit_nonneg (b : Bool) : (0 : Int) ≤ (if b = true then 1 else 0) := by split <;> decide
set_option maxRecDepth 100000 in
set_option maxHeartbeats 8000000 in
theorem pool_spec {p : Program} {loose : List Str} {w : World} {mean : ExcName → Option Value} {mg mb : Str → Option Value} (sc : Addr) (k : Int) (tk0 : Tok) (vs : List Value) (ns : List Int) (hk01 : k = 0 ∨ k = 1) (hi : IntsAre vs ns) (hlen : ns.length ≤ 1048576) 
    {dp un : Nat} {gd : Option (List Code)} {cn : Str} {cs : Scope} {a : Addr} {ccd : Value} {cl : List (Str × Addr)} {outer : List Env} {A₀ : Around} {base h₀ : Heap} {L : Addr} {m : Str → Option Value} {news : Led} {s : Shared}
    {Q E : Value → Shared → Prop} (B : Below A₀ base outer h₀) (F : Fr h₀ L s.heap m) (X : (hd.heap_39 w.params).In h₀) (N : News h₀ L s.heap news) (T : Top p loose mean mg mb h₀) (hk : cs.kind = .function) (hl : base.IsList sc vs.toArray) (hdd : dp + 3 < recursionLimit) (hu : un + 50 < cLine)
    (hret : ∀ r news' h' tk', Fr h₀ L h' m → News h₀ L h' news' → Sub news news' → (∃ src x y tx ty n, r = .ref src ∧ (src, lstO [.int x tx, .int y ty] n) ∈ news' ∧ 0 ≤ x ∧ 0 ≤ y ∧ y < 2147483647 ∧ ∀ p ∈ news, p.1 < src) → Q r { s with heap := h', toks := tk' }) :
    wpAny (model PySem.Challenge.rw_ot0009_01.row.prog w) (ktrTop dp un gd cn cs L a ccd cl outer) (call (.ref 183) [.ref sc, .int k tk0]) Q E s := by
  refine wpAny_call ?_
  k_dflt (walk_at "m_enter")
  rename (Below _ _ _ _) => B1
  have hl1 := stays_list B1.stays hl
  have hlenv : vs.length ≤ 1048576 := by rw [hi.length]; exact hlen
  k_steps
  rename Fr _ _ _ _ => F1
  rename News _ _ _ _ => N1
  refine cell_join (.int k tk0) F1 N1 ?_ ?_
  · refine wpAny_If ?_
    rcases hk01 with rfl | rfl
    · k_steps
      · exact .mk _ _ _ _ _ (by k_asm) (by k_asm) ⟨rfl, rfl, trivial⟩
      · exact .mk _ _ _ _ _ (by k_asm) (by k_asm) ⟨rfl, rfl, trivial⟩
    · k_steps
      · exact .mk _ _ _ _ _ (by k_asm) (by k_asm) ⟨rfl, rfl, trivial⟩
      · exact .mk _ _ _ _ _ (by k_asm) (by k_asm) ⟨rfl, rfl, trivial⟩
  · intro h2 tk2 m2 c tc F2 N2 K2
    have F3 := Fr.knowns F2 _ K2
    dsimp only [kB] at F3
    clear F2 F1 N1
    dsimp only
    k_steps
    exact hret _ _ _ _ (by k_asm) (by k_asm) Sub.cons ⟨_, _, _, _, _, _, rfl, .head _, Int.mul_nonneg (mx_nonneg _) (bit_nonneg _), Int.fmod_nonneg_of_pos _ (by decide), Int.fmod_lt_of_pos _ (by decide), by assumption⟩
end

-- part T6
local macro_rules | `(tactic| walk_at "exec For Name Subscript cons nil") => `(tactic| (k_here; refine stop_of ?_))
local macro_rules | `(tactic| walk_at "pyIter ref") => `(tactic| (k_here; (with_reducible show wpAny _ _ (pyIter (Value.ref _)) (fun it s₂ => LoopAtV _ _ _ _ _ _ _ _ _ it s₂) _ _); refine stop_of ?_))
set_option maxRecDepth 100000 in
set_option maxHeartbeats 8000000 in
theorem place_type_spec {p : Program} {loose : List Str} {w : World} {mean : ExcName → Option Value} {mg mb : Str → Option Value} (bv wv v0 : Value) (pl tu ra : Addr) (i : Nat) (ti : Tok) (n1 n2 n3 : Nat) (hops : List Hop) (rv rest : List Value) (hi : i < 2 ^ 62) (hr : rv[i]? = some (.ref ra)) :
    Spec PySem.Challenge.rw_ot0009_01.row.prog w (hd.heap_39 w.params) p loose mean mg mb 164 6 150 [bv, .ref pl, wv]
      (fun news => BodyIn w news bv rv ∧ (pl, tupO [.int i ti, .ref tu] n1) ∈ news ∧ (tu, tupO (hops.map Hop.sv) n2) ∈ news ∧ (ra, tupO (v0 :: rest) n3) ∈ news ∧ Chain news v0 hops) (fun news news' r => Sub news news' ∧ r = endv v0 hops) := by
  k_fill
  unfold Spec
  intro dp un gd cn cs a ccd cl outer A₀ base h₀ L m news s Q E B F X N T hk hpre hd' hu hret
  obtain ⟨hb, hp1, hp2, hp3, hc⟩ := hpre
  cases hb with
  | mk b1 b2 b3 =>
    refine wpAny_call ?_
    k_dflt (walk_at "m_enter")
    k_steps
    rename Fr _ _ _ _ => F1
    rename News _ _ _ _ => N1
    refine For_invVF F1 rfl rfl ?_
    k_steps
    refine iter_tup_led (J := fun i m nx => nx = _ ∧ ∃ tv, m (Str.ofString "told") = some (endv v0 (hops.take i)) ∧ m (Str.ofString "variant") = some tv ∧ m (Str.ofString "world") = some wv) rfl (by (first | k_mem | fail "m_mem")) F1 N1 ⟨rfl, _, rfl, rfl, rfl⟩ ?_ ?_
    · rintro j v mm nx h1 tk1 own hj hv hadr hown ⟨rfl, tv, e1, e2, e3⟩ F2 N2
      dsimp only [envOf] at F2 N2
      rw [List.getElem?_map] at hv
      obtain ⟨hp, hhp, rfl⟩ := Option.map_eq_some_iff.mp hv
      obtain ⟨H, he⟩ := chain_at hc hhp
      have F3 := Fr.under F2 [(Str.ofString "told", _), (Str.ofString "variant", _), (Str.ofString "world", _)] ⟨e1, e2, e3, trivial⟩
      dsimp only [kB] at F3
      clear F2 F1 N1
      k_steps
      (refine' Spec.use (projected_spec _ hp _ _ news H) ?k1x15 ?k2x15 ?k3x15 ?k4x15 ?k5x15 ?kKx15 ?kpx15 ?kdx15 ?kux15 ?_; (case k1x15 => k_asm); (case k2x15 => k_asm); (case k3x15 => k_asm); (case k4x15 => k_asm); (case k5x15 => k_asm); (case kKx15 => first | exact rfl | assumption); (case kdx15 => first | ((try simp only [depth_under_make, depth_under_kw, depth_in1, depth_deeper, depth_caller]); (try dsimp only [ktrTop]); (simp only [recursionLimit] at *); omega)); (case kux15 => ((have hcL9 := cLine_is); (try simp only [units_in1, units_deeper, Around.mark_units, units_caller]); (try dsimp only [ktrTop]); omega)))
      case kpx15 => (walk_at "m_tups")
      rintro r4 n4 h4 tk4 F4 N4 ⟨U4, a4, t4, n5, rfl, m4⟩
      (try dsimp only); (try k_fold)
      k_steps
      exact InvEndN.intro (by k_asm) (by k_asm) ⟨rfl, _, by rw [he]; rfl, rfl, rfl⟩ rfl U4.right U4.left
    · rintro mm nx h1 tk1 ⟨rfl, tv, e1, e2, e3⟩ F2 N2
      dsimp only [envOf] at F2 N2
      have F3 := Fr.knowns F2 [(Str.ofString "told", _), (Str.ofString "variant", _), (Str.ofString "world", _)] ⟨e1, e2, e3, trivial⟩
      dsimp only [kB] at F3
      clear F2 F1 N1
      dsimp only
      k_steps
      refine hret _ _ _ _ (by k_asm) (by k_asm) ?_
      refine ⟨by (walk_at "m_sub"), ?_⟩
      rw [List.length_map, List.take_length]

-- part T7
local macro_rules | `(tactic| walk_at "call type:enumerate") => `(tactic| (k_here; refine stop_of ?_))
theorem setL_fst {d : Addr} {o : Obj} {nw : Led} : (setL d o nw).map (·.1) = nw.map (·.1) := by
  unfold setL
  rw [List.map_map]
  refine List.map_congr_left fun p _ => ?_
  show (if p.1 = d then (d, o) else p).1 = p.1
  by_cases h : p.1 = d
  · rw [if_pos h]; exact h.symm
  · rw [if_neg h]
theorem setL_mono {d : Addr} {o : Obj} {a b : Led} (h : Sub a b) : Sub (setL d o a) (setL d o b) := fun p hp => by
  obtain ⟨q, hq, e⟩ := List.mem_map.mp hp
  exact List.mem_map.mpr ⟨q, h q hq, e⟩
theorem chain_take {nw : Led} {v : Value} {hs : List Hop} (C : Chain nw v hs) (j : Nat) : Chain nw v (hs.take j) := by
  have h := C
  rw [← List.take_append_drop j hs] at h
  exact (chain_append.mp h).1
theorem kinds_next {hs : List Hop} {j : Nat} {h : Hop} (e : hs[j]? = some h) : kindsOf (hs.take (j + 1)) = kindsOf (hs.take j) ++ h.ks := by
  rw [List.take_add_one, e, kindsOf_append]; simp [kindsOf]
inductive KindsJ (news : Led) (fl : Addr) (bv wv : Value) (pl : Addr) (hops : List Hop) (i : Nat) (m : Str → Option Value) (nx : Led) : Prop where
  | mk (vs : List Value) (n : Nat) (S : Sub news nx) (hf : (fl, lstO vs n) ∈ nx) (hk : StrsAre vs (kindsOf (hops.take i))) (e1 : m (Str.ofString "found") = some (.ref fl)) (e2 : m (Str.ofString "body") = some bv) (e3 : m (Str.ofString "place") = some (.ref pl)) (e4 : m (Str.ofString "world") = some wv) : KindsJ news fl bv wv pl hops i m nx
set_option maxRecDepth 100000 in
set_option maxHeartbeats 8000000 in
theorem deref_kinds_spec {p : Program} {loose : List Str} {w : World} {mean : ExcName → Option Value} {mg mb : Str → Option Value} (bv wv v0 : Value) (pl tu ra : Addr) (i : Nat) (ti : Tok) (n1 n2 n3 : Nat) (hops : List Hop) (rv rest : List Value) (hi : i < 2 ^ 62) (hr : rv[i]? = some (.ref ra)) (hz : hops.length ≤ 100) :
    Spec PySem.Challenge.rw_ot0009_01.row.prog w (hd.heap_39 w.params) p loose mean mg mb 171 8 200 [bv, wv, .ref pl]
      (fun news => BodyIn w news bv rv ∧ (pl, tupO [.int i ti, .ref tu] n1) ∈ news ∧ (tu, tupO (hops.map Hop.sv) n2) ∈ news ∧ (ra, tupO (v0 :: rest) n3) ∈ news ∧ Chain news v0 hops) (fun news news' r => Sub news news' ∧ ∃ fl kv n, r = .ref fl ∧ (fl, lstO kv n) ∈ news' ∧ StrsAre kv (kindsOf hops)) := by
  k_fill
  unfold Spec
  intro dp un gd cn cs a ccd cl outer A₀ base h₀ L m news s Q E B F X N T hk hpre hd' hu hret
  obtain ⟨hb, hp1, hp2, hp3, hc⟩ := hpre
  refine wpAny_call ?_
  k_dflt (walk_at "m_enter")
  k_steps
  rename Fr _ _ _ _ => F1
  rename News _ _ _ _ => N1
  rename_i fl _ l1 _
  have hsz : fl < _ := Heap.lt_size (N1 _ (.head _)).1
  refine enum_tup_led (J := KindsJ news fl bv wv pl hops) rfl (by (first | k_mem | fail "m_mem")) F1 N1 (.mk [] 0 .cons (.head _) .nil rfl rfl rfl rfl) ?_ ?_
  · rintro j tj v mm nx h1 tk1 own hv hadr hown ⟨vs, n9, S9, hf, hkk, e1, e2, e3, e4⟩ F2 N2
    dsimp only [envOf] at F2 N2
    rw [List.getElem?_map] at hv
    obtain ⟨hp, hhp, rfl⟩ := Option.map_eq_some_iff.mp hv
    obtain ⟨H, he⟩ := chain_at hc hhp
    have F3 := Fr.under2 F2 [(Str.ofString "found", _), (Str.ofString "body", _), (Str.ofString "place", _), (Str.ofString "world", _)] ⟨e1, e2, e3, e4, trivial⟩
    dsimp only [kB] at F3
    clear F2 F1 N1
    have ho : ∀ p ∈ own, p.1 ≠ fl := by
      intro p hp e
      have h9 := hown p hp
      rw [e] at h9
      rcases List.mem_cons.mp h9 with q | q
      · exact Nat.not_succ_lt_self (q ▸ hsz)
      · rcases List.mem_cons.mp q with q | q
        · exact Nat.lt_irrefl _ (q ▸ hsz)
        · exact Nat.lt_irrefl _ ((List.mem_singleton.mp q) ▸ l1 _ hp2)
    have hzv : vs.length ≤ 100 := by
      have h8 := hkk.length
      have h9 := (chain_take hc j).kinds
      have h7 : (hops.take j).length ≤ hops.length := List.length_take_le' j hops
      omega
    have S10 : Sub news (own ++ nx) := S9.trans .appR
    have H10 := H.mono S10.tups
    have p1 := S10 _ hp1
    have p2 := S10 _ hp2
    have p3 := S10 _ hp3
    have hjl : j < (hops.map Hop.sv).length := by rw [List.length_map]; exact (List.getElem?_eq_some_iff.mp hhp).1
    have hzl : (hops.map Hop.sv).length ≤ 16384 := by rw [List.length_map]; omega
    have f1 : (fl, lstO vs n9) ∈ own ++ nx := Sub.appR _ hf
    generalize hgv : endv v0 (hops.take j) = gv at H10
    refine turn_op fun J1 hJ1 => ?_
    cases H10 with
    | f0 a1 a2 a3 =>
      k_steps
      exact InvEndN.intro (by k_asm) (by k_asm) (hJ1 _ _ (.mk vs n9 S9 hf (by rw [kinds_next hhp]; simpa using hkk) rfl rfl rfl rfl)) hadr (fun _ h => List.mem_append_right _ h) (fun _ h => List.mem_append_left _ h)
    | f1 a1 a2 a3 =>
      k_steps
      exact InvEndN.intro (by k_asm) (by k_asm) (hJ1 _ _ (.mk vs n9 S9 hf (by rw [kinds_next hhp]; simpa using hkk) rfl rfl rfl rfl)) hadr (fun _ h => List.mem_append_right _ h) (fun _ h => List.mem_append_left _ h)
    | idx a1 a2 =>
      k_steps
      exact InvEndN.intro (by k_asm) (by k_asm) (hJ1 _ _ (.mk vs n9 S9 hf (by rw [kinds_next hhp]; simpa using hkk) rfl rfl rfl rfl)) hadr (fun _ h => List.mem_append_right _ h) (fun _ h => List.mem_append_left _ h)
    | box a1 a2 =>
      k_steps
      rename_i D1 hA lA D2 hB FB NB lB
      (refine' Spec.use (place_type_spec bv wv v0 D2 D1 ra i ti 0 0 n3 (hops.take j) rv rest hi hr) ?k1x16 ?k2x16 ?k3x16 ?k4x16 ?k5x16 ?kKx16 ?kpx16 ?kdx16 ?kux16 ?_; (case k1x16 => k_asm); (case k2x16 => k_asm); (case k3x16 => k_asm); (case k4x16 => k_asm); (case k5x16 => k_asm); (case kKx16 => first | exact rfl | assumption); (case kdx16 => first | ((try simp only [depth_under_make, depth_under_kw, depth_in1, depth_deeper, depth_caller]); (try dsimp only [ktrTop]); (simp only [recursionLimit] at *); omega)); (case kux16 => ((have hcL9 := cLine_is); (try simp only [units_in1, units_deeper, Around.mark_units, units_caller]); (try dsimp only [ktrTop]); omega)))
      case kpx16 => exact ⟨hb.mono (by (walk_at "m_sub")), .head _, by rw [List.map_take]; exact .tail _ (.head _), .tail _ (.tail _ p3), (chain_take hc j).mono (by (walk_at "m_tups"))⟩
      rintro r4 n4 h4 tk4 F4 N4 ⟨U4, rfl⟩
      rw [hgv]
      (try dsimp only); (try k_fold)
      have a1' := U4 _ (.tail _ (.tail _ a1))
      have f1' := U4 _ (.tail _ (.tail _ f1))
      k_steps
      refine InvEndN.intro (nx := setL fl (lstO (vs ++ [_]) (n9 + 1)) nx) (by k_asm) (by k_asm) (hJ1 _ _ (.mk _ _ (fun p hp => setL_ne (S9 _ hp) (Nat.ne_of_lt (l1 _ hp))) (setL_self hf) (by rw [kinds_next hhp]; exact StrsAre.append' hkk (.cons _ _ .nil)) rfl rfl rfl rfl)) (setL_fst.trans hadr) (setL_mono ((Sub.cons.trans (Sub.cons.trans U4)).right)) (fun p hp => setL_ne (U4 _ (.tail _ (.tail _ (List.mem_append_left _ hp)))) (ho p hp))
    | rmut a1 a2 =>
      k_steps
      rename_i D1 hA lA D2 hB FB NB lB
      (refine' Spec.use (place_type_spec bv wv v0 D2 D1 ra i ti 0 0 n3 (hops.take j) rv rest hi hr) ?k1x17 ?k2x17 ?k3x17 ?k4x17 ?k5x17 ?kKx17 ?kpx17 ?kdx17 ?kux17 ?_; (case k1x17 => k_asm); (case k2x17 => k_asm); (case k3x17 => k_asm); (case k4x17 => k_asm); (case k5x17 => k_asm); (case kKx17 => first | exact rfl | assumption); (case kdx17 => first | ((try simp only [depth_under_make, depth_under_kw, depth_in1, depth_deeper, depth_caller]); (try dsimp only [ktrTop]); (simp only [recursionLimit] at *); omega)); (case kux17 => ((have hcL9 := cLine_is); (try simp only [units_in1, units_deeper, Around.mark_units, units_caller]); (try dsimp only [ktrTop]); omega)))
      case kpx17 => exact ⟨hb.mono (by (walk_at "m_sub")), .head _, by rw [List.map_take]; exact .tail _ (.head _), .tail _ (.tail _ p3), (chain_take hc j).mono (by (walk_at "m_tups"))⟩
      rintro r4 n4 h4 tk4 F4 N4 ⟨U4, rfl⟩
      rw [hgv]
      (try dsimp only); (try k_fold)
      have a1' := U4 _ (.tail _ (.tail _ a1))
      have f1' := U4 _ (.tail _ (.tail _ f1))
      k_steps
      refine InvEndN.intro (nx := setL fl (lstO (vs ++ [_]) (n9 + 1)) nx) (by k_asm) (by k_asm) (hJ1 _ _ (.mk _ _ (fun p hp => setL_ne (S9 _ hp) (Nat.ne_of_lt (l1 _ hp))) (setL_self hf) (by rw [kinds_next hhp]; exact StrsAre.append' hkk (.cons _ _ .nil)) rfl rfl rfl rfl)) (setL_fst.trans hadr) (setL_mono ((Sub.cons.trans (Sub.cons.trans U4)).right)) (fun p hp => setL_ne (U4 _ (.tail _ (.tail _ (List.mem_append_left _ hp)))) (ho p hp))
    | rsh a1 a2 =>
      k_steps
      rename_i D1 hA lA D2 hB FB NB lB
      (refine' Spec.use (place_type_spec bv wv v0 D2 D1 ra i ti 0 0 n3 (hops.take j) rv rest hi hr) ?k1x18 ?k2x18 ?k3x18 ?k4x18 ?k5x18 ?kKx18 ?kpx18 ?kdx18 ?kux18 ?_; (case k1x18 => k_asm); (case k2x18 => k_asm); (case k3x18 => k_asm); (case k4x18 => k_asm); (case k5x18 => k_asm); (case kKx18 => first | exact rfl | assumption); (case kdx18 => first | ((try simp only [depth_under_make, depth_under_kw, depth_in1, depth_deeper, depth_caller]); (try dsimp only [ktrTop]); (simp only [recursionLimit] at *); omega)); (case kux18 => ((have hcL9 := cLine_is); (try simp only [units_in1, units_deeper, Around.mark_units, units_caller]); (try dsimp only [ktrTop]); omega)))
      case kpx18 => exact ⟨hb.mono (by (walk_at "m_sub")), .head _, by rw [List.map_take]; exact .tail _ (.head _), .tail _ (.tail _ p3), (chain_take hc j).mono (by (walk_at "m_tups"))⟩
      rintro r4 n4 h4 tk4 F4 N4 ⟨U4, rfl⟩
      rw [hgv]
      (try dsimp only); (try k_fold)
      have a1' := U4 _ (.tail _ (.tail _ a1))
      have f1' := U4 _ (.tail _ (.tail _ f1))
      k_steps
      refine InvEndN.intro (nx := setL fl (lstO (vs ++ [_]) (n9 + 1)) nx) (by k_asm) (by k_asm) (hJ1 _ _ (.mk _ _ (fun p hp => setL_ne (S9 _ hp) (Nat.ne_of_lt (l1 _ hp))) (setL_self hf) (by rw [kinds_next hhp]; exact StrsAre.append' hkk (.cons _ _ .nil)) rfl rfl rfl rfl)) (setL_fst.trans hadr) (setL_mono ((Sub.cons.trans (Sub.cons.trans U4)).right)) (fun p hp => setL_ne (U4 _ (.tail _ (.tail _ (List.mem_append_left _ hp)))) (ho p hp))
  · rintro mm nx h1 tk1 ⟨vs, n9, S9, hf, hkk, e1, e2, e3, e4⟩ F2 N2
    dsimp only [envOf] at F2 N2
    have F3 := Fr.knowns F2 [(Str.ofString "found", _), (Str.ofString "body", _), (Str.ofString "place", _), (Str.ofString "world", _)] ⟨e1, e2, e3, e4, trivial⟩
    dsimp only [kB] at F3
    clear F2 F1 N1
    dsimp only
    k_steps
    refine hret _ _ _ _ (by k_asm) (by k_asm) ?_
    refine ⟨S9, _, _, _, rfl, hf, ?_⟩
    rw [List.length_map, List.take_length] at hkk
    exact hkk

-- part T8
section
set_option maxRecDepth 100000 in
set_option maxHeartbeats 8000000 in
theorem is_mutable_spec {p : Program} {loose : List Str} {w : World} {mean : ExcName → Option Value} {mg mb : Str → Option Value} (bv wv v0 nm : Value) (mb' : Bool) (hnm : nm = .none ∨ ∃ x t, nm = .str x t) (pl tu ra : Addr) (i : Nat) (ti : Tok) (n1 n2 n3 : Nat) (hops : List Hop) (rv : List Value) (hi : i < 2 ^ 62) (hr : rv[i]? = some (.ref ra)) (hz : hops.length ≤ 100) :
    Spec PySem.Challenge.rw_ot0009_01.row.prog w (hd.heap_39 w.params) p loose mean mg mb 176 10 300 [bv, wv, .ref pl]
      (fun news => BodyIn w news bv rv ∧ (pl, tupO [.int i ti, .ref tu] n1) ∈ news ∧ (tu, tupO (hops.map Hop.sv) n2) ∈ news ∧ (ra, tupO [v0, .bool mb', nm] n3) ∈ news ∧ Chain news v0 hops) (fun news news' r => Sub news news' ∧ r = .bool (mutR (kindsOf hops) mb' (nm == .none))) := by
  k_fill
  unfold Spec
  intro dp un gd cn cs a ccd cl outer A₀ base h₀ L m news s Q E B F X N T hk hpre hd' hu hret
  obtain ⟨hb, hp1, hp2, hp3, hc⟩ := hpre
  have hb0 := hb
  obtain ⟨b1, b2, b3⟩ := hb
  refine wpAny_call ?_
  k_dflt (walk_at "m_enter")
  k_steps
  (refine' Spec.use (deref_kinds_spec _ wv v0 pl tu ra i ti n1 n2 n3 hops rv [.bool mb', nm] hi hr hz) ?k1x19 ?k2x19 ?k3x19 ?k4x19 ?k5x19 ?kKx19 ?kpx19 ?kdx19 ?kux19 ?_; (case k1x19 => k_asm); (case k2x19 => k_asm); (case k3x19 => k_asm); (case k4x19 => k_asm); (case k5x19 => k_asm); (case kKx19 => first | exact rfl | assumption); (case kdx19 => first | ((try simp only [depth_under_make, depth_under_kw, depth_in1, depth_deeper, depth_caller]); (try dsimp only [ktrTop]); (simp only [recursionLimit] at *); omega)); (case kux19 => ((have hcL9 := cLine_is); (try simp only [units_in1, units_deeper, Around.mark_units, units_caller]); (try dsimp only [ktrTop]); omega)))
  case kpx19 => exact ⟨hb0, hp1, hp2, hp3, hc⟩
  rintro r4 n4 h4 tk4 F4 N4 ⟨U4, fl, kv, n5, rfl, m4, hk4⟩
  have hL4 := News.isList N4 m4
  have hz4 : (kindsOf hops).length ≤ sizeLine := by
    have h9 := hc.kinds
    rw [sizeLine_eq]
    omega
  have hz5 : kv.length ≤ 100 := by
    have h8 := hk4.length
    have h9 := hc.kinds
    omega
  refine srcA_listD (K := ItemKind.str) (pz := fun a => a != Str.ofString "box") (d := PyData.str) rfl hL4 hk4.areOf F4 N4 ?_ ?_ ?_ hz4
  · intro C a' v s2 m2 E' hk2 hn2 hm2 _
    obtain ⟨t2, rfl⟩ := ItemKind.str_is hk2
    k_steps
    exact ⟨_, _, rfl, fun _ _ e => e⟩
  · intro C a' v s2 m2 E' hk2 _ hn2 hm2 _
    obtain ⟨t2, rfl⟩ := ItemKind.str_is hk2
    k_steps
    · exact .str _ _
    · exact ⟨_, _, rfl, fun _ _ e => e⟩
  · intro D ys h5 tk5 F5 N5 hD hl5 hp5 hc5
    obtain ⟨⟨nD, hD2⟩, hDn⟩ := hp5
    have hDL : D ≠ _ := NewPlain.ne_locals ⟨⟨nD, hD2⟩, hDn⟩ F5
    have N6 : News _ _ h5 ((D, lstO ys nD) :: n4) := fun p hp => by
      rcases List.mem_cons.mp hp with rfl | hp
      · exact ⟨hD2, hDL, hD⟩
      · exact N5 p hp
    clear N5
    have hs5 := StrsAre.of_carried hc5
    have ok5 : KOk ((kindsOf hops).filter fun a => a != Str.ofString "box") := fun x hx => hc.ok x (List.mem_filter.mp hx).1
    dsimp only
    k_steps
    · rename (List.any _ _ = true) => hsh
      rw [shut_filter] at hsh
      refine hret _ _ _ _ (by k_asm) (by k_asm) ⟨by (walk_at "m_sub"), ?_⟩
      simp only [mutR, hsh, if_true]
    · rename (List.any _ _ = false) => hsh
      rw [shut_filter] at hsh
      have hsh' : shutOf (kindsOf hops) = false := hsh
      have b1' := U4 _ b1
      have b2' := U4 _ b2
      have b3' := U4 _ b3
      have p1' := U4 _ hp1
      have p3' := U4 _ hp3
      (k_dflt (refine' m_ne_strs ?N (.tail _ (.head _)) hs5 (.head _) .nil ok5 (fun _ h => nomatch h) ?u ?_)); (case N => k_asm); (case u => ke_room)
      rw [nb_filter]
      cases hnb : nbOf (kindsOf hops)
      · rcases hnm with rfl | ⟨x9, t9, rfl⟩
        · cases mb'
          · k_steps
            refine hret _ _ _ _ (by k_asm) (by k_asm) ⟨by (walk_at "m_sub"), ?_⟩
            simp only [mutR, hsh', hnb, Bool.false_eq_true, if_false]
            rfl
          · k_steps
            refine hret _ _ _ _ (by k_asm) (by k_asm) ⟨by (walk_at "m_sub"), ?_⟩
            simp only [mutR, hsh', hnb, Bool.false_eq_true, if_false]
            rfl
        · cases mb'
          · k_steps
            refine hret _ _ _ _ (by k_asm) (by k_asm) ⟨by (walk_at "m_sub"), ?_⟩
            simp only [mutR, hsh', hnb, Bool.false_eq_true, if_false]
            rfl
          · k_steps
            refine hret _ _ _ _ (by k_asm) (by k_asm) ⟨by (walk_at "m_sub"), ?_⟩
            simp only [mutR, hsh', hnb, Bool.false_eq_true, if_false]
            rfl
      · k_steps
        refine hret _ _ _ _ (by k_asm) (by k_asm) ⟨by (walk_at "m_sub"), ?_⟩
        simp only [mutR, hsh', hnb, if_true, Bool.false_eq_true, if_false]
end

-- part T11
local macro_rules | `(tactic| walk_at "call ref") => `(tactic| (k_here; (with_reducible show wpAny _ _ (call (Value.ref 139) _ _) _ _ _); refine stop_of ?_))
local macro_rules | `(tactic| walk_at "compareOp NotEq ref ref") => `(tactic| (k_here; (with_reducible show wpAny _ _ (compareOp CmpOp.NotEq (Value.ref _) (Value.ref _)) _ _ _); refine stop_of ?_))
local macro_rules | `(tactic| walk_at "compareOp NotEq") => `(tactic| (k_here; (with_reducible show wpAny _ _ (compareOp CmpOp.NotEq (endv _ _) (endv _ _)) _ _ _); refine stop_of ?_))
local macro_rules | `(tactic| walk_at "compareOp NotEq bool bool") => `(tactic| with_reducible refine m_ne_bool ?_)
local macro_rules | `(tactic| walk_at "eval IfExp") => `(tactic| (k_here; (with_reducible show wpAny _ _ (eval (Expr.IfExp _ (Expr.Constant _ _ _) _ _) _) _ _ _); refine stop_of ?_))
inductive IfOut (P : Value → Prop) (s : Shared) (v : Value) (s' : Shared) : Prop where
  | mk (tk : Nat) (h : P v) (e : s' = { s with toks := tk }) : IfOut P s v s'
theorem ifexp_stop {M : Model} {A : Around} {t : Sem Value} {Q E : Value → Shared → Prop} {s : Shared} (P : Value → Prop) (h : wpAny M A t (IfOut P s) E s) (k : ∀ v tk, P v → Q v { s with toks := tk }) : wpAny M A t Q E s :=
  wpAny_mono h (by rintro v s' ⟨tk, p, rfl⟩; exact k v tk p) (fun _ _ x => x)
theorem rs_lem (b : Int) (h : b = 1 ∨ b = 2) : Builtin.Range.small 0 b 1 = true ∧ Builtin.Range.rangeSize 0 b 1 = ((b.toNat : Nat) : Int) := by
  rcases h with rfl | rfl <;> exact ⟨by decide, by decide⟩
set_option maxRecDepth 100000 in
set_option maxHeartbeats 8000000 in
theorem law_holds : PySem.Challenge.rw_ot0009_01.Holds := hd (by
  k_go0
  (all_goals try k_fold)
  k_steps
  clear codeHd
  rename World => W0
  rename IsRange _ _ _ _ _ _ _ _ => hR
  rename Fr _ _ _ _ => F1
  rename News _ _ _ _ => N1
  generalize hb : (if (if _ < (2:Int) then _ else (2:Int)) > (1:Int) then (if _ < (2:Int) then _ else (2:Int)) else (1:Int)) = b at hR
  have hb' : b = 1 ∨ b = 2 := by rw [← hb]; split <;> (try split) <;> omega
  have hq := rs_lem b hb'
  refine iter_range_led (J := fun i m nx => nx = _ ∧ m (Str.ofString "script") = _) rfl hR hq.1 hq.2 F1 N1 ⟨rfl, rfl⟩ ?_ ?_
  · rintro i t mm nx h1 tk1 own hib hadr hown ⟨rfl, e1⟩ F2 N2
    have hi01 : (i : Int) = 0 ∨ (i : Int) = 1 := by rcases hb' with rfl | rfl <;> simp only [Int.toNat] at hib <;> omega
    dsimp only [envOf] at F2 N2
    have F3 := Fr.under F2 [(Str.ofString "script", _)] ⟨e1, trivial⟩
    dsimp only [kB] at F3
    clear F2 F1 N1
    dsimp only
    refine turn_op fun J1 hJ1 => ?_
    k_steps
    refine' pool_spec _ _ _ _ _ hi01 ?i1 ?i2 ?k1 ?k2 ?k3 ?k4 ?k5 ?kK lifted ?kd ?ku ?_
    case i1 => assumption
    case k1 => k_asm
    case k2 => k_asm
    case k3 => k_asm
    case k4 => k_asm
    case k5 => k_asm
    case kK => first | exact rfl | assumption
    case kd => first | ((try simp only [depth_under_make, depth_under_kw, depth_in1, depth_deeper, depth_caller]); (try dsimp only [ktrTop]); (simp only [recursionLimit] at *); omega)
    case ku => ((have hcL9 := cLine_is); (try simp only [units_in1, units_deeper, Around.mark_units, units_caller]); (try dsimp only [ktrTop]); omega)
    case i2 => omega
    rintro r n3 h3 tk3 F4 N4 U4 ⟨src, x, y, tx, ty, n9, rfl, m4, hx, hy, hy2, hfr⟩
    have S4 : Src n3 src := ⟨x, y, tx, ty, n9, m4, hx, hy, hy2⟩
    have n75 : (75, tabObj #[]) ∈ n3 := U4 _ (List.mem_append_right _ (.head _))
    (try dsimp only); (try k_fold)
    k_steps
    (refine' Spec.use (type_spec src 2 2 _ rfl (by decide)) ?k1x20 ?k2x20 ?k3x20 ?k4x20 ?k5x20 ?kKx20 ?kpx20 ?kdx20 ?kux20 ?_; (case k1x20 => k_asm); (case k2x20 => k_asm); (case k3x20 => k_asm); (case k4x20 => k_asm); (case k5x20 => k_asm); (case kKx20 => first | exact rfl | assumption); (case kdx20 => first | ((try simp only [depth_under_make, depth_under_kw, depth_in1, depth_deeper, depth_caller]); (try dsimp only [ktrTop]); (simp only [recursionLimit] at *); omega)); (case kux20 => ((have hcL9 := cLine_is); (try simp only [units_in1, units_deeper, Around.mark_units, units_caller]); (try dsimp only [ktrTop]); omega)))
    case kpx20 => exact S4
    rintro r5 n5 h5 tk5 F5 N5 ⟨U5, S5, t5, Y5, D5⟩
    (try dsimp only); (try k_fold)
    k_steps
    rename News _ _ _ _ => NB
    have Yr := ty_rb NB Y5
    (refine' Spec.use (type_spec src 3 3 _ rfl (by decide)) ?k1x21 ?k2x21 ?k3x21 ?k4x21 ?k5x21 ?kKx21 ?kpx21 ?kdx21 ?kux21 ?_; (case k1x21 => k_asm); (case k2x21 => k_asm); (case k3x21 => k_asm); (case k4x21 => k_asm); (case k5x21 => k_asm); (case kKx21 => first | exact rfl | assumption); (case kdx21 => first | ((try simp only [depth_under_make, depth_under_kw, depth_in1, depth_deeper, depth_caller]); (try dsimp only [ktrTop]); (simp only [recursionLimit] at *); omega)); (case kux21 => ((have hcL9 := cLine_is); (try simp only [units_in1, units_deeper, Around.mark_units, units_caller]); (try dsimp only [ktrTop]); omega)))
    case kpx21 => (walk_at "m_src")
    rintro r6 n6 h6 tk6 F6 N6 ⟨U6, S6, t6, Y6, D6⟩
    (try dsimp only); (try k_fold)
    have Yr' := Yr.mono U6.tups
    clear Yr
    k_steps
    rename_i Ds _ _ _ _ ND
    have Ys := ty_pair ND Yr' Y6
    (refine' Spec.use (take_spec src 2 _ (by decide) (by decide)) ?k1x22 ?k2x22 ?k3x22 ?k4x22 ?k5x22 ?kKx22 ?kpx22 ?kdx22 ?kux22 ?_; (case k1x22 => k_asm); (case k2x22 => k_asm); (case k3x22 => k_asm); (case k4x22 => k_asm); (case k5x22 => k_asm); (case kKx22 => first | exact rfl | assumption); (case kdx22 => first | ((try simp only [depth_under_make, depth_under_kw, depth_in1, depth_deeper, depth_caller]); (try dsimp only [ktrTop]); (simp only [recursionLimit] at *); omega)); (case kux22 => ((have hcL9 := cLine_is); (try simp only [units_in1, units_deeper, Around.mark_units, units_caller]); (try dsimp only [ktrTop]); omega)))
    case kpx22 => (walk_at "m_src")
    rintro r7 n7 h7 tk7 F7 N7 ⟨U7, S7, k7, t7, rfl, k70, k71⟩
    have Ys' := Ys.mono U7.tups
    clear Ys Yr'
    have E7 : Ext src n3 n7 := by (walk_at "m_ext")
    have hT7 : (Ty.tup (.ref true (.box t5)) t6).depth ≤ 30 := by simp only [Ty.depth]; omega
    generalize Ty.tup (.ref true (.box t5)) t6 = t9 at Ys' hT7
    have hks : ∀ p ∈ own ++ [(75, tabObj #[])], p.1 ≠ src := fun p hp => Nat.ne_of_lt (hfr p hp)
    have K7 : Sub (own ++ [(75, tabObj #[])]) n7 := fun p hp => E7.upto p (U4 p hp) (hks p hp)
    clear U5 U6 U7 S5 S6 E7 U4 hfr m4 hx hy hy2 S4 n75 Y5 Y6 D5 D6
    (try dsimp only); (try k_fold)
    k_steps
    refine ifexp_stop (fun nm => (nm = .none ∨ ∃ x t, nm = .str x t) ∧ (nm == Value.none) = !(k7 == 0)) ?_ ?_
    · with_reducible refine IfExp_ ?_
      k_steps
      all_goals first
      | (rename k7 = 0 => hk7; exact .mk _ ⟨.inr ⟨_, _, rfl⟩, by rw [hk7]; rfl⟩ rfl)
      | (rename k7 ≠ 0 => hk7; exact .mk _ ⟨.inl rfl, by rw [beq_eq_false_iff_ne.mpr hk7]; rfl⟩ rfl)
    rintro nm tkn ⟨hnm, hnb⟩
    (try dsimp only); (try k_fold)
    k_steps
    all_goals (
      rename_i q4 _ _ q3 _ _ q2 _ _ q1 _ _ ql _ _ _ _ _ _ _ _ _ _ _ _ _ _ _ _ _ _ FE NE z1 z2 z3 z4 z5 z6
      have m3 := inN NE (.tail _ (.tail _ (.tail _ (.tail _ (.tail _ (.head _))))))
      have m2 := inN NE (.tail _ (.tail _ (.tail _ (.tail _ (.tail _ (.tail _ (.head _)))))))
      have m1 := inN NE (.tail _ (.tail _ (.tail _ (.tail _ (.tail _ (.tail _ (.tail _ (.head _))))))))
      (refine' Spec.use (body_spec (Str.ofString "b") _ _ ql _ _ [.ref q3, .ref q2, .ref q1] 0 (Nat.le_of_ble_eq_true rfl)) ?k1x23 ?k2x23 ?k3x23 ?k4x23 ?k5x23 ?kKx23 ?kpx23 ?kdx23 ?kux23 ?_; (case k1x23 => k_asm); (case k2x23 => k_asm); (case k3x23 => k_asm); (case k4x23 => k_asm); (case k5x23 => k_asm); (case kKx23 => first | exact rfl | assumption); (case kdx23 => first | ((try simp only [depth_under_make, depth_under_kw, depth_in1, depth_deeper, depth_caller]); (try dsimp only [ktrTop]); (simp only [recursionLimit] at *); omega)); (case kux23 => ((have hcL9 := cLine_is); (try simp only [units_in1, units_deeper, Around.mark_units, units_caller]); (try dsimp only [ktrTop]); omega)))
      case kpx23 => exact m3
      rintro r8 n8 h8 tk8 F8 N8 ⟨U8, B8⟩
      have V8 : Sub n7 n8 := by (walk_at "m_sub")
      have H8 : TL W0 (own ++ [(75, tabObj #[])]) src r8 q3 [.ref q2, .ref q1] q2 q1 (.ref Ds) nm t9 n8 := ⟨V8.src S7, B8, ⟨_, U8 _ m1⟩, U8 _ m2, Ys'.mono V8.tups, K7.trans V8⟩
      clear m1 m2 m3 V8 B8 U8 NE FE z1 z2 z3 z4 z5 z6
      (try dsimp only); (try k_fold)
      k_steps
      rename IsRange _ _ _ _ _ _ _ _ => hR8
      rename Fr _ _ _ _ => F9
      rename News _ _ _ _ => N9
      have hsl := src_lt N9 H8.S
      generalize (k7 == (0:Int)) = nb at F9 hnb
      refine iter_range_led (n := 8) (J := fun _ mz nz => TL W0 (own ++ [(75, tabObj #[])]) src r8 q3 [.ref q2, .ref q1] q2 q1 (.ref Ds) nm t9 nz ∧ Knows mz [(Str.ofString "source", .ref src), (Str.ofString "sort", _), (Str.ofString "is_named", _), (Str.ofString "body", r8), (Str.ofString "script", _)]) rfl hR8 (by decide) (by decide) F9 N9 ⟨H8, rfl, rfl, rfl, rfl, rfl, trivial⟩ ?_ ?_
      · rintro j tj mm2 nx h10 tk10 own2 hj8 hadr2 hown2 ⟨HT, e1, e2, e3, e4, e5, _⟩ F10 N10
        dsimp only [envOf] at F10 N10
        have F11 := Fr.under F10 [(Str.ofString "source", _), (Str.ofString "sort", _), (Str.ofString "is_named", _), (Str.ofString "body", _), (Str.ofString "script", _)] ⟨e1, e2, e3, e4, e5, trivial⟩
        dsimp only [kB] at F11
        have ho2 : ∀ p ∈ own2, p.1 ≠ src := fun p hp => by rw [hown2 p hp]; exact Nat.ne_of_gt hsl
        have S10 : Src (own2 ++ nx) src := Sub.src Sub.appR HT.S
        have Y10 := HT.hT.mono (Sub.tups (Sub.appR (b := own2)))
        clear F10 F9 N9 H8 hR8 hsl
        dsimp only
        refine turn_op fun J2 hJ2 => ?_
        k_steps
        (refine' Spec.use (place_spec src _ t9 hT7) ?k1x24 ?k2x24 ?k3x24 ?k4x24 ?k5x24 ?kKx24 ?kpx24 ?kdx24 ?kux24 ?_; (case k1x24 => k_asm); (case k2x24 => k_asm); (case k3x24 => k_asm); (case k4x24 => k_asm); (case k5x24 => k_asm); (case kKx24 => first | exact rfl | assumption); (case kdx24 => first | ((try simp only [depth_under_make, depth_under_kw, depth_in1, depth_deeper, depth_caller]); (try dsimp only [ktrTop]); (simp only [recursionLimit] at *); omega)); (case kux24 => ((have hcL9 := cLine_is); (try simp only [units_in1, units_deeper, Around.mark_units, units_caller]); (try dsimp only [ktrTop]); omega)))
        case kpx24 => exact ⟨S10, Y10⟩
        rintro r12 n12 h12 tk12 F12 N12 ⟨U12, S12, P12⟩
        obtain @⟨l12, tu, ak, a3, c0, c1, c2, c3, hops, kv, g0, g1, g2, g3, hkk, hcc, hlen, t12, hy, hdt⟩ := P12
        obtain ⟨H12, O12, o12, H12', V12⟩ := HT.next hks N10 U12 S12 ho2
        (try dsimp only); (try k_fold)
        k_steps
        rename Fr _ _ _ _ => F13
        rename News _ _ _ _ => N13
        refine iter_list_led (J := fun _ mz nz => nz = _ ∧ Knows mz [(Str.ofString "source", .ref src), (Str.ofString "sort", _), (Str.ofString "is_named", _), (Str.ofString "body", r8), (Str.ofString "script", _), (Str.ofString "steps", _), (Str.ofString "kinds", _), (Str.ofString "lets", _), (Str.ofString "end", _)]) rfl (by (first | k_mem | fail "m_mem")) F13 N13 ⟨rfl, rfl, rfl, rfl, rfl, rfl, rfl, rfl, rfl, rfl, trivial⟩ ?_ ?_
        · rintro i3 v3 mz nz h13 tk13 own3 hi3 hv3 hadr3 hown3 ⟨rfl, e1, e2, e3, e4, e5, e6, e7, e8, e9, _⟩ F14 N14
          dsimp only [envOf] at F14 N14
          have F15 := Fr.under F14 [(Str.ofString "source", _), (Str.ofString "sort", _), (Str.ofString "is_named", _), (Str.ofString "body", _), (Str.ofString "script", _), (Str.ofString "steps", _), (Str.ofString "kinds", _), (Str.ofString "lets", _), (Str.ofString "end", _)] ⟨e1, e2, e3, e4, e5, e6, e7, e8, e9, trivial⟩
          dsimp only [kB] at F15
          have V : Sub n12 _ := fun q hq => inN N14 (List.mem_append_right own3 (List.mem_cons_of_mem _ hq))
          have f1 := H12.B.mono V
          obtain ⟨kx, hx12⟩ := H12.h1
          have f2 := V _ hx12
          have f3 := V _ H12.h2
          have f4 := V _ g1
          have f5 := V _ g2
          have f6 := V _ g3
          have f7 := hcc.mono V.tups
          have f8 := hy.mono V.tups
          clear F14 F13 N13 e1 e2 e3 e4 e5 e6 e7 e8 e9 V
          have hi2 : i3 = 0 ∨ i3 = 1 := by simp only [List.length_cons, List.length_nil] at hi3; omega
          dsimp only
          refine turn_op fun J3 hJ3 => ?_
          rcases hi2 with rfl | rfl
          · obtain ⟨tz, rfl⟩ : ∃ tz, v3 = .int 1 tz := ⟨_, (Option.some.inj hv3).symm⟩
            k_steps
            rename_i pl _ _ _ _ _ _
            (refine' Spec.use (deref_kinds_spec r8 .none (.ref Ds) pl tu q2 1 tz 0 c1 0 hops [.ref q3, .ref q2, .ref q1] [.bool true, .str (Str.ofString "x") kx] (by decide) rfl hlen) ?k1x25 ?k2x25 ?k3x25 ?k4x25 ?k5x25 ?kKx25 ?kpx25 ?kdx25 ?kux25 ?_; (case k1x25 => k_asm); (case k2x25 => k_asm); (case k3x25 => k_asm); (case k4x25 => k_asm); (case k5x25 => k_asm); (case kKx25 => first | exact rfl | assumption); (case kdx25 => first | ((try simp only [depth_under_make, depth_under_kw, depth_in1, depth_deeper, depth_caller]); (try dsimp only [ktrTop]); (simp only [recursionLimit] at *); omega)); (case kux25 => ((have hcL9 := cLine_is); (try simp only [units_in1, units_deeper, Around.mark_units, units_caller]); (try dsimp only [ktrTop]); omega)))
            case kpx25 => exact ⟨f1.mono (by (walk_at "m_sub")), .head _, .tail _ f4, .tail _ f2, f7.mono (by (walk_at "m_tups"))⟩
            rintro r15 n15 h15 tk15 F16 N16 ⟨U16, fl, kv2, nk, rfl, mk2, hk2⟩
            (try dsimp only); (try k_fold)
            k_steps
            (k_dflt (refine' m_ne_same ?neN mk2 hk2 (U16 _ (.tail _ f5)) hkk hcc.ok ?neu ?_)); (case neN => k_asm); (case neu => ((have hcL9 := cLine_is); (try simp only [units_in1, units_deeper, Around.mark_units, units_caller]); (try dsimp only [ktrTop]); omega))
            k_steps
            (refine' Spec.use (is_mutable_spec r8 .none (.ref Ds) (.str (Str.ofString "x") kx) true (.inr ⟨_, _, rfl⟩) pl tu q2 1 tz 0 c1 0 hops [.ref q3, .ref q2, .ref q1] (by decide) rfl hlen) ?k1x26 ?k2x26 ?k3x26 ?k4x26 ?k5x26 ?kKx26 ?kpx26 ?kdx26 ?kux26 ?_; (case k1x26 => k_asm); (case k2x26 => k_asm); (case k3x26 => k_asm); (case k4x26 => k_asm); (case k5x26 => k_asm); (case kKx26 => first | exact rfl | assumption); (case kdx26 => first | ((try simp only [depth_under_make, depth_under_kw, depth_in1, depth_deeper, depth_caller]); (try dsimp only [ktrTop]); (simp only [recursionLimit] at *); omega)); (case kux26 => ((have hcL9 := cLine_is); (try simp only [units_in1, units_deeper, Around.mark_units, units_caller]); (try dsimp only [ktrTop]); omega)))
            case kpx26 => exact ⟨f1.mono (by (walk_at "m_sub")), U16 _ (.head _), U16 _ (.tail _ f4), U16 _ (.tail _ f2), f7.mono (by (walk_at "m_tups"))⟩
            rintro r17 n17 h17 tk17 F18 N18 ⟨U17, rfl⟩
            rw [mutR_true]
            (try dsimp only); (try k_fold)
            k_steps
            (refine' Spec.use (place_type_spec r8 .none (.ref Ds) pl tu q2 1 tz 0 c1 0 hops [.ref q3, .ref q2, .ref q1] [.bool true, .str (Str.ofString "x") kx] (by decide) rfl) ?k1x27 ?k2x27 ?k3x27 ?k4x27 ?k5x27 ?kKx27 ?kpx27 ?kdx27 ?kux27 ?_; (case k1x27 => k_asm); (case k2x27 => k_asm); (case k3x27 => k_asm); (case k4x27 => k_asm); (case k5x27 => k_asm); (case kKx27 => first | exact rfl | assumption); (case kdx27 => first | ((try simp only [depth_under_make, depth_under_kw, depth_in1, depth_deeper, depth_caller]); (try dsimp only [ktrTop]); (simp only [recursionLimit] at *); omega)); (case kux27 => ((have hcL9 := cLine_is); (try simp only [units_in1, units_deeper, Around.mark_units, units_caller]); (try dsimp only [ktrTop]); omega)))
            case kpx27 => exact ⟨f1.mono (by (walk_at "m_sub")), U17 _ (U16 _ (.head _)), U17 _ (U16 _ (.tail _ f4)), U17 _ (U16 _ (.tail _ f2)), f7.mono (by (walk_at "m_tups"))⟩
            rintro r19 n19 h19 tk19 F20 N20 ⟨U19, rfl⟩
            (try dsimp only); (try k_fold)
            k_steps
            have W := Sub.cons.trans (U16.trans (U17.trans U19))
            (k_dflt (refine' m_ne_ty ?neN (f8.mono W.tups) hdt ?neu ?_)); (case neN => k_asm); (case neu => ((have hcL9 := cLine_is); (try simp only [units_in1, units_deeper, Around.mark_units, units_caller]); (try dsimp only [ktrTop]); omega))
            k_steps
            exact InvEndN.intro (by k_asm) (by k_asm) (hJ3 _ _ ⟨rfl, rfl, rfl, rfl, rfl, rfl, rfl, rfl, rfl, rfl, trivial⟩) hadr3 W.right W.left
          · obtain ⟨tz, rfl⟩ : ∃ tz, v3 = .int 2 tz := ⟨_, (Option.some.inj hv3).symm⟩
            cases nb
            · k_steps
              rename_i pl _ _ _ _ _ _
              (refine' Spec.use (deref_kinds_spec r8 .none (.ref Ds) pl tu q1 2 tz 0 c1 0 hops [.ref q3, .ref q2, .ref q1] [.bool false, nm] (by decide) rfl hlen) ?k1x28 ?k2x28 ?k3x28 ?k4x28 ?k5x28 ?kKx28 ?kpx28 ?kdx28 ?kux28 ?_; (case k1x28 => k_asm); (case k2x28 => k_asm); (case k3x28 => k_asm); (case k4x28 => k_asm); (case k5x28 => k_asm); (case kKx28 => first | exact rfl | assumption); (case kdx28 => first | ((try simp only [depth_under_make, depth_under_kw, depth_in1, depth_deeper, depth_caller]); (try dsimp only [ktrTop]); (simp only [recursionLimit] at *); omega)); (case kux28 => ((have hcL9 := cLine_is); (try simp only [units_in1, units_deeper, Around.mark_units, units_caller]); (try dsimp only [ktrTop]); omega)))
              case kpx28 => exact ⟨f1.mono (by (walk_at "m_sub")), .head _, .tail _ f4, .tail _ f3, f7.mono (by (walk_at "m_tups"))⟩
              rintro r15 n15 h15 tk15 F16 N16 ⟨U16, fl, kv2, nk, rfl, mk2, hk2⟩
              (try dsimp only); (try k_fold)
              k_steps
              (k_dflt (refine' m_ne_same ?neN mk2 hk2 (U16 _ (.tail _ f5)) hkk hcc.ok ?neu ?_)); (case neN => k_asm); (case neu => ((have hcL9 := cLine_is); (try simp only [units_in1, units_deeper, Around.mark_units, units_caller]); (try dsimp only [ktrTop]); omega))
              k_steps
              (refine' Spec.use (is_mutable_spec r8 .none (.ref Ds) nm false hnm pl tu q1 2 tz 0 c1 0 hops [.ref q3, .ref q2, .ref q1] (by decide) rfl hlen) ?k1x29 ?k2x29 ?k3x29 ?k4x29 ?k5x29 ?kKx29 ?kpx29 ?kdx29 ?kux29 ?_; (case k1x29 => k_asm); (case k2x29 => k_asm); (case k3x29 => k_asm); (case k4x29 => k_asm); (case k5x29 => k_asm); (case kKx29 => first | exact rfl | assumption); (case kdx29 => first | ((try simp only [depth_under_make, depth_under_kw, depth_in1, depth_deeper, depth_caller]); (try dsimp only [ktrTop]); (simp only [recursionLimit] at *); omega)); (case kux29 => ((have hcL9 := cLine_is); (try simp only [units_in1, units_deeper, Around.mark_units, units_caller]); (try dsimp only [ktrTop]); omega)))
              case kpx29 => exact ⟨f1.mono (by (walk_at "m_sub")), U16 _ (.head _), U16 _ (.tail _ f4), U16 _ (.tail _ f3), f7.mono (by (walk_at "m_tups"))⟩
              rintro r17 n17 h17 tk17 F18 N18 ⟨U17, rfl⟩
              rw [hnb]; first | rw [Bool.not_false, mutR_none] | rw [Bool.not_true, mutR_named]
              (try dsimp only); (try k_fold)
              k_steps
              (refine' Spec.use (place_type_spec r8 .none (.ref Ds) pl tu q1 2 tz 0 c1 0 hops [.ref q3, .ref q2, .ref q1] [.bool false, nm] (by decide) rfl) ?k1x30 ?k2x30 ?k3x30 ?k4x30 ?k5x30 ?kKx30 ?kpx30 ?kdx30 ?kux30 ?_; (case k1x30 => k_asm); (case k2x30 => k_asm); (case k3x30 => k_asm); (case k4x30 => k_asm); (case k5x30 => k_asm); (case kKx30 => first | exact rfl | assumption); (case kdx30 => first | ((try simp only [depth_under_make, depth_under_kw, depth_in1, depth_deeper, depth_caller]); (try dsimp only [ktrTop]); (simp only [recursionLimit] at *); omega)); (case kux30 => ((have hcL9 := cLine_is); (try simp only [units_in1, units_deeper, Around.mark_units, units_caller]); (try dsimp only [ktrTop]); omega)))
              case kpx30 => exact ⟨f1.mono (by (walk_at "m_sub")), U17 _ (U16 _ (.head _)), U17 _ (U16 _ (.tail _ f4)), U17 _ (U16 _ (.tail _ f3)), f7.mono (by (walk_at "m_tups"))⟩
              rintro r19 n19 h19 tk19 F20 N20 ⟨U19, rfl⟩
              (try dsimp only); (try k_fold)
              k_steps
              have W := Sub.cons.trans (U16.trans (U17.trans U19))
              (k_dflt (refine' m_ne_ty ?neN (f8.mono W.tups) hdt ?neu ?_)); (case neN => k_asm); (case neu => ((have hcL9 := cLine_is); (try simp only [units_in1, units_deeper, Around.mark_units, units_caller]); (try dsimp only [ktrTop]); omega))
              k_steps
              exact InvEndN.intro (by k_asm) (by k_asm) (hJ3 _ _ ⟨rfl, rfl, rfl, rfl, rfl, rfl, rfl, rfl, rfl, rfl, trivial⟩) hadr3 W.right W.left
            · k_steps
              rename_i pl _ _ _ _ _ _
              (refine' Spec.use (deref_kinds_spec r8 .none (.ref Ds) pl tu q1 2 tz 0 c1 0 hops [.ref q3, .ref q2, .ref q1] [.bool false, nm] (by decide) rfl hlen) ?k1x31 ?k2x31 ?k3x31 ?k4x31 ?k5x31 ?kKx31 ?kpx31 ?kdx31 ?kux31 ?_; (case k1x31 => k_asm); (case k2x31 => k_asm); (case k3x31 => k_asm); (case k4x31 => k_asm); (case k5x31 => k_asm); (case kKx31 => first | exact rfl | assumption); (case kdx31 => first | ((try simp only [depth_under_make, depth_under_kw, depth_in1, depth_deeper, depth_caller]); (try dsimp only [ktrTop]); (simp only [recursionLimit] at *); omega)); (case kux31 => ((have hcL9 := cLine_is); (try simp only [units_in1, units_deeper, Around.mark_units, units_caller]); (try dsimp only [ktrTop]); omega)))
              case kpx31 => exact ⟨f1.mono (by (walk_at "m_sub")), .head _, .tail _ f4, .tail _ f3, f7.mono (by (walk_at "m_tups"))⟩
              rintro r15 n15 h15 tk15 F16 N16 ⟨U16, fl, kv2, nk, rfl, mk2, hk2⟩
              (try dsimp only); (try k_fold)
              k_steps
              (k_dflt (refine' m_ne_same ?neN mk2 hk2 (U16 _ (.tail _ f5)) hkk hcc.ok ?neu ?_)); (case neN => k_asm); (case neu => ((have hcL9 := cLine_is); (try simp only [units_in1, units_deeper, Around.mark_units, units_caller]); (try dsimp only [ktrTop]); omega))
              k_steps
              (refine' Spec.use (is_mutable_spec r8 .none (.ref Ds) nm false hnm pl tu q1 2 tz 0 c1 0 hops [.ref q3, .ref q2, .ref q1] (by decide) rfl hlen) ?k1x32 ?k2x32 ?k3x32 ?k4x32 ?k5x32 ?kKx32 ?kpx32 ?kdx32 ?kux32 ?_; (case k1x32 => k_asm); (case k2x32 => k_asm); (case k3x32 => k_asm); (case k4x32 => k_asm); (case k5x32 => k_asm); (case kKx32 => first | exact rfl | assumption); (case kdx32 => first | ((try simp only [depth_under_make, depth_under_kw, depth_in1, depth_deeper, depth_caller]); (try dsimp only [ktrTop]); (simp only [recursionLimit] at *); omega)); (case kux32 => ((have hcL9 := cLine_is); (try simp only [units_in1, units_deeper, Around.mark_units, units_caller]); (try dsimp only [ktrTop]); omega)))
              case kpx32 => exact ⟨f1.mono (by (walk_at "m_sub")), U16 _ (.head _), U16 _ (.tail _ f4), U16 _ (.tail _ f3), f7.mono (by (walk_at "m_tups"))⟩
              rintro r17 n17 h17 tk17 F18 N18 ⟨U17, rfl⟩
              rw [hnb]; first | rw [Bool.not_false, mutR_none] | rw [Bool.not_true, mutR_named]
              (try dsimp only); (try k_fold)
              k_steps
              (refine' Spec.use (place_type_spec r8 .none (.ref Ds) pl tu q1 2 tz 0 c1 0 hops [.ref q3, .ref q2, .ref q1] [.bool false, nm] (by decide) rfl) ?k1x33 ?k2x33 ?k3x33 ?k4x33 ?k5x33 ?kKx33 ?kpx33 ?kdx33 ?kux33 ?_; (case k1x33 => k_asm); (case k2x33 => k_asm); (case k3x33 => k_asm); (case k4x33 => k_asm); (case k5x33 => k_asm); (case kKx33 => first | exact rfl | assumption); (case kdx33 => first | ((try simp only [depth_under_make, depth_under_kw, depth_in1, depth_deeper, depth_caller]); (try dsimp only [ktrTop]); (simp only [recursionLimit] at *); omega)); (case kux33 => ((have hcL9 := cLine_is); (try simp only [units_in1, units_deeper, Around.mark_units, units_caller]); (try dsimp only [ktrTop]); omega)))
              case kpx33 => exact ⟨f1.mono (by (walk_at "m_sub")), U17 _ (U16 _ (.head _)), U17 _ (U16 _ (.tail _ f4)), U17 _ (U16 _ (.tail _ f3)), f7.mono (by (walk_at "m_tups"))⟩
              rintro r19 n19 h19 tk19 F20 N20 ⟨U19, rfl⟩
              (try dsimp only); (try k_fold)
              k_steps
              have W := Sub.cons.trans (U16.trans (U17.trans U19))
              (k_dflt (refine' m_ne_ty ?neN (f8.mono W.tups) hdt ?neu ?_)); (case neN => k_asm); (case neu => ((have hcL9 := cLine_is); (try simp only [units_in1, units_deeper, Around.mark_units, units_caller]); (try dsimp only [ktrTop]); omega))
              k_steps
              exact InvEndN.intro (by k_asm) (by k_asm) (hJ3 _ _ ⟨rfl, rfl, rfl, rfl, rfl, rfl, rfl, rfl, rfl, rfl, trivial⟩) hadr3 W.right W.left
        · rintro mz9 nz9 h29 tk29 ⟨rfl, e1, e2, e3, e4, e5, e6, e7, e8, e9, _⟩ F28 N28
          dsimp only [envOf] at F28 N28
          have F29 := Fr.knowns F28 [(Str.ofString "source", _), (Str.ofString "sort", _), (Str.ofString "is_named", _), (Str.ofString "body", _), (Str.ofString "script", _)] ⟨e1, e2, e3, e4, e5, trivial⟩
          dsimp only [kB] at F29
          clear F28
          dsimp only
          k_steps
          exact InvEndN.intro (nx := setL src o12 nx) (by k_asm) (by k_asm) (hJ2 _ _ ⟨H12', rfl, rfl, rfl, rfl, rfl, trivial⟩) (setL_fst.trans hadr2) (fun p hp => .tail _ (V12 p hp)) (fun p hp => .tail _ (O12 p hp))
      · rintro mm3 nx3 h30 tk30 ⟨HT, e1, e2, e3, e4, e5, _⟩ F30 N30
        dsimp only [envOf] at F30 N30
        have F31 := Fr.knowns F30 [(Str.ofString "script", _)] ⟨e5, trivial⟩
        dsimp only [kB] at F31
        have K30 := HT.hK
        clear F30 F9 N9 H8 hR8 hsl HT
        dsimp only
        k_steps
        rename_i _ _ _ r0 _ _ _ _ _ r1 _ _ rl _ _ _ _ _ _ _ _ _ _ _ _ _ _ _ _ _ FE NE z1 z2 z3 z4 z5 z6
        have m3 := inN NE (.tail _ (.tail _ (.tail _ (.tail _ (.tail _ (.head _))))))
        have m2 := inN NE (.tail _ (.tail _ (.tail _ (.tail _ (.tail _ (.tail _ (.head _)))))))
        have m1 := inN NE (.tail _ (.tail _ (.tail _ (.tail _ (.tail _ (.tail _ (.tail _ (.tail _ (.head _)))))))))
        (refine' Spec.use (body_spec (Str.ofString "n") _ _ rl _ _ [.ref r0, .ref r1] 0 (Nat.le_of_ble_eq_true rfl)) ?k1x34 ?k2x34 ?k3x34 ?k4x34 ?k5x34 ?kKx34 ?kpx34 ?kdx34 ?kux34 ?_; (case k1x34 => k_asm); (case k2x34 => k_asm); (case k3x34 => k_asm); (case k4x34 => k_asm); (case k5x34 => k_asm); (case kKx34 => first | exact rfl | assumption); (case kdx34 => first | ((try simp only [depth_under_make, depth_under_kw, depth_in1, depth_deeper, depth_caller]); (try dsimp only [ktrTop]); (simp only [recursionLimit] at *); omega)); (case kux34 => ((have hcL9 := cLine_is); (try simp only [units_in1, units_deeper, Around.mark_units, units_caller]); (try dsimp only [ktrTop]); omega)))
        case kpx34 => exact m3
        rintro r31 n31 h31 tk31 F31 N31 ⟨U31, B31⟩
        have K31 : Sub (own ++ [(75, tabObj #[])]) n31 := by (walk_at "m_sub")
        obtain ⟨ty0, hr0⟩ : ∃ v, (r0, tupO [v, .bool false, .none] 0) ∈ n31 := ⟨_, U31 _ m1⟩
        obtain ⟨ty1, kz, hr1⟩ : ∃ v k, (r1, tupO [v, .bool false, .str (Str.ofString "z") k] 0) ∈ n31 := ⟨_, _, U31 _ m2⟩
        clear m1 m2 m3 U31 NE FE z1 z2 z3 z4 z5 z6 K30
        (try dsimp only); (try k_fold)
        k_steps
        rename_i em0 _ _ pl0 _ FQ0 NQ0 _
        obtain ⟨tq0, hpl0⟩ := plIn NQ0
        have hem0 := inN NQ0 (.tail _ (.head _))
        (refine' Spec.use (is_mutable_spec r31 .none ty0 .none false (.inl rfl) pl0 em0 r0 0 tq0 0 0 0 [] [.ref r0, .ref r1] (by decide) rfl (by decide)) ?k1x35 ?k2x35 ?k3x35 ?k4x35 ?k5x35 ?kKx35 ?kpx35 ?kdx35 ?kux35 ?_; (case k1x35 => k_asm); (case k2x35 => k_asm); (case k3x35 => k_asm); (case k4x35 => k_asm); (case k5x35 => k_asm); (case kKx35 => first | exact rfl | assumption); (case kdx35 => first | ((try simp only [depth_under_make, depth_under_kw, depth_in1, depth_deeper, depth_caller]); (try dsimp only [ktrTop]); (simp only [recursionLimit] at *); omega)); (case kux35 => ((have hcL9 := cLine_is); (try simp only [units_in1, units_deeper, Around.mark_units, units_caller]); (try dsimp only [ktrTop]); omega)))
        case kpx35 => exact ⟨B31.mono (Sub.cons.trans Sub.cons), hpl0, hem0, .tail _ (.tail _ hr0), trivial⟩
        rintro r40 n40 h40 tk40 F40 N40 ⟨V40, rfl⟩
        rw [show mutR (kindsOf []) false (.none == Value.none) = true from rfl]
        (try dsimp only); (try k_fold)
        k_steps
        rename_i em1 _ _ pl1 _ FQ1 NQ1 _
        obtain ⟨tq1, hpl1⟩ := plIn NQ1
        have hem1 := inN NQ1 (.tail _ (.head _))
        (refine' Spec.use (is_mutable_spec r31 .none ty1 (.str (Str.ofString "z") kz) false (.inr ⟨_, _, rfl⟩) pl1 em1 r1 1 tq1 0 0 0 [] [.ref r0, .ref r1] (by decide) rfl (by decide)) ?k1x36 ?k2x36 ?k3x36 ?k4x36 ?k5x36 ?kKx36 ?kpx36 ?kdx36 ?kux36 ?_; (case k1x36 => k_asm); (case k2x36 => k_asm); (case k3x36 => k_asm); (case k4x36 => k_asm); (case k5x36 => k_asm); (case kKx36 => first | exact rfl | assumption); (case kdx36 => first | ((try simp only [depth_under_make, depth_under_kw, depth_in1, depth_deeper, depth_caller]); (try dsimp only [ktrTop]); (simp only [recursionLimit] at *); omega)); (case kux36 => ((have hcL9 := cLine_is); (try simp only [units_in1, units_deeper, Around.mark_units, units_caller]); (try dsimp only [ktrTop]); omega)))
        case kpx36 => exact ⟨B31.mono ((Sub.cons.trans Sub.cons).trans (V40.trans (Sub.cons.trans Sub.cons))), hpl1, hem1, .tail _ (.tail _ (V40 _ (.tail _ (.tail _ hr1)))), trivial⟩
        rintro r41 n41 h41 tk41 F41 N41 ⟨V41, rfl⟩
        rw [show mutR (kindsOf []) false ((.str (Str.ofString "z") kz) == Value.none) = false from rfl]
        (try dsimp only); (try k_fold)
        k_steps
        rename_i la _ _ lb _ FZ NZ _
        (k_dflt (refine' m_ne_two ?neN (.tail _ (.head _)) (.head _) ?neu ?_)); (case neN => k_asm); (case neu => ((have hcL9 := cLine_is); (try simp only [units_in1, units_deeper, Around.mark_units, units_caller]); (try dsimp only [ktrTop]); omega))
        k_steps
        refine InvEndN.intro (nx := [(75, tabObj #[])]) (by k_asm) (by k_asm) (hJ1 _ _ ⟨rfl, rfl⟩) hadr (Sub.right (a := own) ?_) (Sub.left (b := [(75, tabObj #[])]) ?_) <;> (walk_at "m_sub"))
  · rintro m9 nx9 h9 tk9 ⟨rfl, e1⟩ F2 N2
    dsimp only [envOf] at F2 N2
    have F3 := Fr.knowns F2 [(Str.ofString "script", _)] ⟨e1, trivial⟩
    dsimp only [kB] at F3
    clear F2 F1
    dsimp only
    k_steps)
end Mine
theorem PySem.Challenge.cw_ot0009_01_holds : PySem.Challenge.rw_ot0009_01.Holds :=
  Mine.law_holds
