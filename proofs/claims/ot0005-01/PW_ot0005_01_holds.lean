import PyProof.Rows.All
import Wide.All
import OpenK.AllK
import Wide.FinOn
import Lean
import PySem.Challenge.RW_ot0005_01
open PySem PySem.W PyProof.Rows PyProof.V PySem.Spec PySem.Calls
set_option Elab.async false
namespace Mine
section
/-- the law's program without the three statements that the view drops -/
def hd.view_39 : Program := { PySem.Challenge.rw_ot0005_01.row.toRowW.prog with main := { PySem.Challenge.rw_ot0005_01.row.toRowW.prog.main with body := [0, 1, 2, 3, 5, 6, 7, 8, 9, 10, 11, 12, 13, 14, 16, 18, 19, 20, 21, 22, 23, 24, 25, 26, 27].filterMap fun i => PySem.Challenge.rw_ot0005_01.row.toRowW.prog.main.body[i]? } }
set_option maxRecDepth 100000 in
set_option maxHeartbeats 8000000 in
/-- the law is well said: look by look, each a small kernel run -/
theorem hd.said : PySem.Challenge.rw_ot0005_01.wellSaid = true := by
  unfold OpenLaw.wellSaid OpenRow.wellSaid OpenRow.partSaid looksOpen
  repeat' (with_reducible refine look_both ?_ ?_)
  all_goals (
    (try rw [PySem.W.Fast.te17119622794617984870])
    (try rw [PySem.W.Fast.te11788848310118352699])
    (try rw [PySem.W.Fast.te14412699480532031325])
    (try rw [PySem.W.Fast.te18344453789297297638])
    (try rw [PySem.W.Fast.te5923862056798008813])
    (try rw [PySem.W.Fast.te13343964577679436407])
    (try rw [PySem.W.Fast.te8179353310426384613])
    (try rw [PySem.W.Fast.te9558739934217749035])
    (try rw [PySem.W.Fast.te8377067652309620493])
    (try rw [PySem.W.Fast.te9807087744658564304])
    (try rw [PySem.W.Fast.te8326940854005059898])
    (try rw [PySem.W.Fast.te12879404354523853263])
    (try rw [PySem.W.Fast.te16286561074155671207])
    decide +kernel)
local macro_rules | `(tactic| o_law) => `(tactic| refine holds_law hd.said fun said => ?_)
/-- names two goals -/
theorem hd.two {P : Prop} (hw : P) (_z : True) : P := hw
local macro_rules | `(tactic| o_head $H) => `(tactic| (
  refine holds_open (q := hd.view_39) (loose := []) (Xt := fun s => xlAt hd.view_39 [] s && recOk (RowW.records (OpenRow.toRowW PySem.Challenge.rw_ot0005_01.row)) s) (XP := XL hd.view_39 []) (Yf := Hook.obs $H) (Ya := Hook.val $H) (YP := Hook.says $H) (N := 2248) (fun w => by unfold openEnds topFrom; rw [PySem.W.Fast.te14082659384304107361, PySem.W.Fast.te14364793385576792824, PySem.W.Fast.te4187177175401517315]; kernel_rfl) (Hook.of $H) (Hook.keeps $H) (fun s e => xl_of s (Bool.and_eq_true_iff.mp e).1) XL.keeps (by rfl) (by rfl) (by rfl) (fun s e => recFacts_of (Bool.and_eq_true_iff.mp e).2) (by rfl) (by first | assumption | decide +kernel) (by decide +kernel) ⟨rfl, rfl, rfl, rfl, rfl, by decide +kernel⟩ ?_ ?_;
  focus (apply hd.two <;> try exact True.intro)))
set_option maxRecDepth 100000 in
set_option maxHeartbeats 8000000 in
open_top hd for PySem.Challenge.rw_ot0005_01
end
section
/-- the contract of a def of the text: from any frame over any ledger that holds `news`, it gives back a value and a ledger of which `post` holds -/
def Ctr (prog : Program) (w : World) (f : Addr) (nd nu : Nat) (vs : List Value) (news : List (Addr × Obj)) (post : Value → List (Addr × Obj) → Prop) : Prop :=
  ∀ (mean : ExcName → Option Value) (mg mb : Str → Option Value) (dp un : Nat) (gd : Option (List Code)) (cn : Str) (cs : Scope) (a : Addr) (ccd : Value) (cl : List (Str × Addr)) (outer : List Env) (A₀ : Around) (base h₀ : Heap) (L : Addr) (m : Str → Option Value) (s : Shared) (Q E : Value → Shared → Prop),
    Below A₀ base outer h₀ → Fr h₀ L s.heap m → (hd.heap_1 w.params).In h₀ → News h₀ L s.heap news → Top hd.view_39 (looseW hd.view_39 []) mean mg mb h₀ → cs.kind = .function → dp + nd < recursionLimit → un + nu < cLine →
    (∀ r news' h' tk', Fr h₀ L h' m → News h₀ L h' news' → post r news' → Q r { s with heap := h', toks := tk' }) →
    wpAny (model prog w) (ktrTop dp un gd cn cs L a ccd cl outer) (call (.ref f) vs) Q E s
/-- a contract is shown from a state told part by part -/
theorem ctr_intro {prog : Program} {w : World} {f : Addr} {nd nu : Nat} {vs : List Value} {news : List (Addr × Obj)} {post : Value → List (Addr × Obj) → Prop}
  (H : ∀ (mean : ExcName → Option Value) (mg mb : Str → Option Value) (dp un : Nat) (gd : Option (List Code)) (cn : Str) (cs : Scope) (a : Addr) (ccd : Value) (cl : List (Str × Addr)) (outer : List Env) (A₀ : Around) (base h₀ : Heap) (L : Addr) (m : Str → Option Value) (hp : Heap) (sg : Array GenState) (sd : PySem.Drawn) (st : Nat) (so : OsState) (Q E : Value → Shared → Prop),
    Below A₀ base outer h₀ → Fr h₀ L hp m → (hd.heap_1 w.params).In h₀ → News h₀ L hp news → Top hd.view_39 (looseW hd.view_39 []) mean mg mb h₀ → cs.kind = .function → dp + nd < recursionLimit → un + nu < cLine →
    (∀ r news' h' tk', Fr h₀ L h' m → News h₀ L h' news' → post r news' → Q r { heap := h', gens := sg, drawn := sd, toks := tk', os := so }) →
    wpAny (model prog w) (ktrTop dp un gd cn cs L a ccd cl outer) (call (.ref f) vs) Q E { heap := hp, gens := sg, drawn := sd, toks := st, os := so }) : Ctr prog w f nd nu vs news post :=
  fun mean mg mb dp un gd cn cs a ccd cl outer A₀ base h₀ L m s Q E => H mean mg mb dp un gd cn cs a ccd cl outer A₀ base h₀ L m s.heap s.gens s.drawn s.toks s.os Q E
section
variable {M : Model} {prog : Program} {w : World} {A : Around} {E : Value → Shared → Prop} {hp : Heap} {sg : Array GenState} {sd : PySem.Drawn} {st : Nat} {so : OsState} {env : Env}
theorem gen_toks {α : Type} {t : Sem α} {Q : α → Shared → Prop} (h : ∀ k, wpAny M A t Q E { heap := hp, gens := sg, drawn := sd, toks := k, os := so }) : wpAny M A t Q E { heap := hp, gens := sg, drawn := sd, toks := st, os := so } := h st
theorem ev_str {x : Str} {kk : Nat} {pp : Pos} {Q : Value → Shared → Prop} (h : ∀ t k, Q (.str x t) { heap := hp, gens := sg, drawn := sd, toks := k, os := so }) : wpAny M A (eval (.Constant (.str x) kk pp) env) Q E { heap := hp, gens := sg, drawn := sd, toks := st, os := so } :=
  Calls.Constant_str (h _ _)
theorem ev_int {x : Int} {kk : Nat} {pp : Pos} {Q : Value → Shared → Prop} (h : ∀ t k, Q (.int x t) { heap := hp, gens := sg, drawn := sd, toks := k, os := so }) : wpAny M A (eval (.Constant (.int x) kk pp) env) Q E { heap := hp, gens := sg, drawn := sd, toks := st, os := so } :=
  wpAny_Constant_int (h _ _)
end
/-- the object that the draws turn -/
abbrev srcObj (a b : Int) (t u : Tok) (n : Nat) : Obj := listOf #[.int a t, .int b u] n
structure Off (src : Addr) (news : List (Addr × Obj)) : Prop where
  ne : ∀ p ∈ news, p.1 ≠ src
/-- the second int of the draws' object -/
structure Bnd (b : Int) : Prop where
  lo : 0 ≤ b
  hi : b < 2147483647
section
variable {prog : Program} {w : World} {A : Around} {E : Value → Shared → Prop} {s : Shared} {h₀ : Heap} {L src : Addr} {m : Str → Option Value} {news : List (Addr × Obj)} {n : Nat} {a b x : Int} {t u tx tk : Tok}
theorem src_set0 {Q : Unit → Shared → Prop} (F : Fr h₀ L s.heap m) (N : News h₀ L s.heap ((src, srcObj a b t u n) :: news)) (off : Off src news)
    (h : ∀ h', Fr h₀ L h' m → News h₀ L h' ((src, srcObj x b tx u n) :: news) → Q () { s with heap := h' }) : wpAny (model prog w) A (setItem (.ref src) (.int 0 tk) (.int x tx)) Q E s :=
  ksa_set (vs := [.int a t, .int b u]) (ns := [a, b]) F N (Upd.head off.ne) (.cons _ _ (.cons _ _ .nil)) (by decide) (by show (0 : Int) < ((2 : Nat) : Int); decide) (by decide) fun h' F' N' _ _ _ => h h' F' N'
theorem src_set1 {Q : Unit → Shared → Prop} (F : Fr h₀ L s.heap m) (N : News h₀ L s.heap ((src, srcObj a b t u n) :: news)) (off : Off src news)
    (h : ∀ h', Fr h₀ L h' m → News h₀ L h' ((src, srcObj a x t tx n) :: news) → Q () { s with heap := h' }) : wpAny (model prog w) A (setItem (.ref src) (.int 1 tk) (.int x tx)) Q E s :=
  ksa_set (vs := [.int a t, .int b u]) (ns := [a, b]) F N (Upd.head off.ne) (.cons _ _ (.cons _ _ .nil)) (by decide) (by show (1 : Int) < ((2 : Nat) : Int); decide) (by decide) fun h' F' N' _ _ _ => h h' F' N'
theorem drop_at {α : Type} : ∀ {l : List α} {j : Nat} {v : α} {r : List α}, l.drop j = v :: r → l[j]? = some v
  | [], j, v, r, h => by simp at h
  | a :: l, 0, v, r, h => by simp at h; simp [h.1]
  | a :: l, j + 1, v, r, h => by simpa using drop_at (l := l) (by simpa using h)
theorem led_item {value slice : PySem.Expr} {l : Addr} {vs r : List Value} {k : Int} {u : Tok} {v : Value} {Q : Value → Shared → Prop} (N : News h₀ L s.heap news) (hm : (l, listOf vs.toArray n) ∈ news) (h0 : 0 ≤ k) (hhi : k < 2 ^ 63) (hx : vs.drop k.toNat = v :: r) (h : Q v s)
    (hs : subscripted slice false (.ref l) (.int k u) = operate [.ref l, .int k u] (getItem (.ref l) (.int k u)) := by with_unfolding_all rfl) :
    wpAny (model prog w) A (subscriptTail value slice (.ref l) (.int k u)) Q E s :=
  have hL : s.heap.IsList l vs.toArray := ⟨_, (N _ hm).1, rfl, n, rfl⟩
  tail_any hL.typeIs slot_list_getitem.lookup (wpAny_getItem_list hL h0 hhi (by simpa using drop_at hx) h) hs
theorem led_len {l : Addr} {vs : List Value} {Q : Value → Shared → Prop} (N : News h₀ L s.heap news) (hm : (l, listOf vs.toArray n) ∈ news) (hz : vs.length ≤ 1000)
    (h : ∀ t k, Q (.int (vs.length : Int) t) { s with toks := k }) : wpAny (model prog w) A (call (.builtin "len") [.ref l]) Q E s := by
  have hL : s.heap.IsList l vs.toArray := ⟨_, (N _ hm).1, rfl, n, rfl⟩
  refine len_list hL (by rw [List.size_toArray]; omega) ?_
  rw [List.size_toArray]
  exact h _ _
theorem led_itemAny {value slice : PySem.Expr} {l : Addr} {vs : List Value} {k : Int} {u : Tok} {Q : Value → Shared → Prop} (N : News h₀ L s.heap news) (hm : (l, listOf vs.toArray n) ∈ news) (h0 : 0 ≤ k) (hk : k < (vs.length : Int)) (hz : vs.length ≤ 1000) (h : ∀ v ∈ vs, Q v s)
    (hs : subscripted slice false (.ref l) (.int k u) = operate [.ref l, .int k u] (getItem (.ref l) (.int k u)) := by with_unfolding_all rfl) :
    wpAny (model prog w) A (subscriptTail value slice (.ref l) (.int k u)) Q E s :=
  have hL : s.heap.IsList l vs.toArray := ⟨_, (N _ hm).1, rfl, n, rfl⟩
  have hj : k.toNat < vs.length := by omega
  tail_any hL.typeIs slot_list_getitem.lookup (wpAny_getItem_list (x := vs[k.toNat]'hj) hL h0 (by omega) (by simp [hj]) (h _ (List.getElem_mem hj))) hs
end
theorem Ctr.use {prog : Program} {w : World} {f : Addr} {nd nu : Nat} {vs : List Value} {news led : List (Addr × Obj)} {post : Value → List (Addr × Obj) → Prop} {mean : ExcName → Option Value} {mg mb : Str → Option Value} {dp un : Nat} {gd : Option (List Code)} {cn : Str} {cs : Scope} {a : Addr} {ccd : Value} {cl : List (Str × Addr)} {outer : List Env} {A₀ : Around} {base h₀ : Heap} {L : Addr} {m : Str → Option Value} {s : Shared} {Q E : Value → Shared → Prop}
    (C : Ctr prog w f nd nu vs news post) (B : Below A₀ base outer h₀) (F : Fr h₀ L s.heap m) (X : (hd.heap_1 w.params).In h₀) (N : News h₀ L s.heap led) (hs : ∀ p ∈ news, p ∈ led) (T : Top hd.view_39 (looseW hd.view_39 []) mean mg mb h₀) (hck : cs.kind = .function)
    (hd : dp + nd < recursionLimit) (hu : un + nu < cLine)
    (ret : ∀ r news' h' tk', Fr h₀ L h' m → News h₀ L h' news' → post r news' → Q r { s with heap := h', toks := tk' }) :
    wpAny (model prog w) (ktrTop dp un gd cn cs L a ccd cl outer) (call (.ref f) vs) Q E s :=
  C _ _ _ _ _ _ _ _ _ _ _ _ _ _ _ _ _ _ _ _ B F X (fun p hp => N p (hs p hp)) T hck hd hu ret
/-- `rest` is `led` without its first p -/
inductive Pick (p : Addr × Obj) : List (Addr × Obj) → List (Addr × Obj) → Prop
  | head {r} : Pick p (p :: r) r
  | tail {q l r} : Pick p l r → Pick p (q :: l) (q :: r)
  | app {l r r'} : Pick p r r' → Pick p (l ++ r) (l ++ r')
theorem Pick.sub {p : Addr × Obj} {l r : List (Addr × Obj)} (h : Pick p l r) : ∀ q ∈ p :: r, q ∈ l := by
  induction h with
  | head => exact fun _ h => h
  | tail _ ih =>
    intro q hq
    rcases List.mem_cons.mp hq with rfl | hq
    · exact List.mem_cons_of_mem _ (ih _ List.mem_cons_self)
    · rcases List.mem_cons.mp hq with rfl | hq
      · exact List.mem_cons_self
      · exact List.mem_cons_of_mem _ (ih _ (List.mem_cons_of_mem _ hq))
  | app _ ih =>
    intro q hq
    rcases List.mem_cons.mp hq with rfl | hq
    · exact List.mem_append.mpr (.inr (ih _ List.mem_cons_self))
    · rcases List.mem_append.mp hq with hq | hq
      · exact List.mem_append.mpr (.inl hq)
      · exact List.mem_append.mpr (.inr (ih _ (List.mem_cons_of_mem _ hq)))
theorem Off.nil {src : Addr} : Off src [] := ⟨fun _ h => nomatch h⟩
theorem Off.cons {src : Addr} {p : Addr × Obj} {r : List (Addr × Obj)} (h : p.1 ≠ src) (k : Off src r) : Off src (p :: r) := ⟨List.forall_mem_cons.mpr ⟨h, k.ne⟩⟩
theorem Off.app {src : Addr} {l r : List (Addr × Obj)} (h : Off src l) (k : Off src r) : Off src (l ++ r) := ⟨List.forall_mem_append.mpr ⟨h.ne, k.ne⟩⟩
theorem Ctr.useP {prog : Program} {w : World} {f : Addr} {nd nu : Nat} {vs : List Value} {q : Addr × Obj} {rest led : List (Addr × Obj)} {post : Value → List (Addr × Obj) → Prop} {mean : ExcName → Option Value} {mg mb : Str → Option Value} {dp un : Nat} {gd : Option (List Code)} {cn : Str} {cs : Scope} {a : Addr} {ccd : Value} {cl : List (Str × Addr)} {outer : List Env} {A₀ : Around} {base h₀ : Heap} {L : Addr} {m : Str → Option Value} {s : Shared} {Q E : Value → Shared → Prop}
    (B : Below A₀ base outer h₀) (F : Fr h₀ L s.heap m) (X : (hd.heap_1 w.params).In h₀) (N : News h₀ L s.heap led) (hp : Pick q led rest) (T : Top hd.view_39 (looseW hd.view_39 []) mean mg mb h₀) (hck : cs.kind = .function)
    (hd : dp + nd < recursionLimit) (hu : un + nu < cLine)
    (C : Ctr prog w f nd nu vs (q :: rest) post)
    (ret : ∀ r news' h' tk', Fr h₀ L h' m → News h₀ L h' news' → post r news' → Q r { s with heap := h', toks := tk' }) :
    wpAny (model prog w) (ktrTop dp un gd cn cs L a ccd cl outer) (call (.ref f) vs) Q E s := Ctr.use C B F X N hp.sub T hck hd hu ret
/-- what lies in tl is none of l -/
def Abv (l tl : List (Addr × Obj)) : Prop := ∀ p ∈ tl, Off p.1 l
theorem Abv.nil {l : List (Addr × Obj)} : Abv l [] := fun _ h => nomatch h
theorem Abv.cons {l tl : List (Addr × Obj)} {x : Addr} {o : Obj} (h : Off x l) (k : Abv l tl) : Abv l ((x, o) :: tl) := List.forall_mem_cons.mpr ⟨h, k⟩
theorem AllLt.cons {x : Addr} {q : Addr × Obj} {l : List (Addr × Obj)} (h : q.1 < x) (k : AllLt x l) : AllLt x (q :: l) := ⟨h, k⟩
theorem allLt_app {x : Addr} : ∀ {l r : List (Addr × Obj)}, AllLt x l → AllLt x r → AllLt x (l ++ r)
  | [], _, _, k => k
  | _ :: _, _, h, k => ⟨h.1, allLt_app h.2 k⟩
theorem allLt_mem {x : Addr} {l : List (Addr × Obj)} (h : AllLt x l) : ∀ q ∈ l, q.1 < x := by
  induction l with
  | nil => intro q hq; cases hq
  | cons p r ih =>
    intro q hq
    rcases List.mem_cons.mp hq with rfl | hq
    · exact h.1
    · exact ih h.2 q hq
theorem Abv.app {l tl tl' : List (Addr × Obj)} (h : Abv l tl) (k : Abv l tl') : Abv l (tl ++ tl') := List.forall_mem_append.mpr ⟨h, k⟩
theorem dati_int {l : List (Addr × Obj)} {i : Int} {t : Tok} : DatIn l (.int i t) (.int i) := .int i t
/-- a step of a place -/
inductive StepD : Dat → Prop
  | idx (i : Int) : StepD (.tuple [.str (Str.ofString "index"), .int i])
  | oth (x : Str) (r : List Dat) (h : (x == Str.ofString "index") = false) (k : PyData.strOk x = true) (q : r.all (kqdOk 1) = true) : StepD (.tuple (.str x :: r))
/-- a place -/
inductive PlaceD : Dat → Prop
  | mk (i : Int) (ds : List Dat) (h : ∀ e ∈ ds, StepD e) (z : ds.length ≤ 2) : PlaceD (.tuple [.int i, .tuple ds])
theorem Off.of_lt {x : Addr} {l : List (Addr × Obj)} (h : AllLt x l) : Off x l := ⟨fun p hp => Nat.ne_of_lt (allLt_mem h p hp)⟩
theorem unr_end {h₀ : Heap} {L I : Addr} {it : Obj} {rest : (Str → Option Value) → List (Addr × Obj) → Prop} {s₁ : Shared} {h' : Heap} {tk : Nat} {m' : Str → Option Value} {all r : List (Addr × Obj)} (F : Fr h₀ L h' m') (N : News h₀ L h' all)
    (hp : Pick (I, it) all r) (off : Off I r) (k : rest m' r) : UnrEnd h₀ L s₁ I it rest { s₁ with heap := h', toks := tk } := UnrEnd.intro F N r hp.sub off.ne k
/-- what stands ahead of `news` in a ledger -/
inductive Cut (news : List (Addr × Obj)) : List (Addr × Obj) → List (Addr × Obj) → Prop
  | nil : Cut news news []
  | cons {x r tl} : Cut news r tl → Cut news (x :: r) (x :: tl)
  | app {l r tl} : Cut news r tl → Cut news (l ++ r) (l ++ tl)
theorem Cut.eq {news r tl : List (Addr × Obj)} (h : Cut news r tl) : r = tl ++ news := by
  induction h with
  | nil => rfl
  | cons _ ih => rw [ih]; rfl
  | app _ ih => rw [ih, List.append_assoc]
/-- what a drawing def leaves: the draws' object turned, new objects tl, and P of the value over tl -/
inductive Drawn (src : Addr) (n : Nat) (news : List (Addr × Obj)) (P : List (Addr × Obj) → Value → Prop) : Value → List (Addr × Obj) → Prop
  | mk (a b : Int) (t u : Tok) (tl : List (Addr × Obj)) (r : Value) (hb : Bnd b) (ha : Abv ((src, srcObj a b t u n) :: news) tl) (hP : P tl r) : Drawn src n news P r ((src, srcObj a b t u n) :: (tl ++ news))
theorem drawn_fin {src : Addr} {n : Nat} {news all rest tl : List (Addr × Obj)} {P : List (Addr × Obj) → Value → Prop} {h₀ : Heap} {L : Addr} {m : Str → Option Value} {sg : Array GenState} {sd : PySem.Drawn} {so : OsState} {Q : Value → Shared → Prop} {r : Value} {h' : Heap} {tk' : Nat} {a b : Int} {t u : Tok}
    (hret : ∀ r news' h' tk', Fr h₀ L h' m → News h₀ L h' news' → Drawn src n news P r news' → Q r { heap := h', gens := sg, drawn := sd, toks := tk', os := so })
    (kF : Fr h₀ L h' m) (kN : News h₀ L h' all) (hp : Pick (src, srcObj a b t u n) all rest) (hc : Cut news rest tl) (hb : Bnd b) (ha : Abv ((src, srcObj a b t u n) :: news) tl) (hP : P tl r) : Q r { heap := h', gens := sg, drawn := sd, toks := tk', os := so } := by
  have e := hc.eq
  subst e
  exact hret r _ h' tk' kF (fun p hq => kN p (hp.sub p hq)) (.mk a b t u tl r hb ha hP)
/-- what a def that draws nothing leaves -/
inductive Gave (news : List (Addr × Obj)) (P : List (Addr × Obj) → Value → Prop) : Value → List (Addr × Obj) → Prop
  | mk (tl : List (Addr × Obj)) (r : Value) (ha : Abv news tl) (hP : P tl r) : Gave news P r (tl ++ news)
theorem gave_fin {news all tl : List (Addr × Obj)} {P : List (Addr × Obj) → Value → Prop} {h₀ : Heap} {L : Addr} {m : Str → Option Value} {sg : Array GenState} {sd : PySem.Drawn} {so : OsState} {Q : Value → Shared → Prop} {r : Value} {h' : Heap} {tk' : Nat}
    (hret : ∀ r news' h' tk', Fr h₀ L h' m → News h₀ L h' news' → Gave news P r news' → Q r { heap := h', gens := sg, drawn := sd, toks := tk', os := so })
    (kF : Fr h₀ L h' m) (kN : News h₀ L h' all) (hc : Cut news all tl) (ha : Abv news tl) (hP : P tl r) : Q r { heap := h', gens := sg, drawn := sd, toks := tk', os := so } := by
  have e := hc.eq
  subst e
  exact hret r _ h' tk' kF kN (.mk tl r ha hP)
/-- a new list of what l tells, of z items at most -/
def ListIn (z : Nat) (sub tl : List (Addr × Obj)) (r : Value) (l : List Dat) : Prop := ∃ a vs n, r = .ref a ∧ (a, listOf vs.toArray n) ∈ tl ∧ DatAll (tl ++ sub) vs l ∧ vs.length ≤ z
theorem listIn_mk {z : Nat} {sub tl : List (Addr × Obj)} {l : List Dat} {a : Addr} {vs : List Value} {n : Nat} (h : (a, listOf vs.toArray n) ∈ tl) (k : DatAll (tl ++ sub) vs l) (hz : vs.length ≤ z) : ListIn z sub tl (.ref a) l := ⟨a, vs, n, rfl, h, k, hz⟩
abbrev tupOf (vs : List Value) (n : Nat) : Obj := { cls := .type "tuple", data := .seq vs.toArray n }
theorem step_then {l : List (Addr × Obj)} {v r : Value} {r1 r2 r3 r4 r5 : Addr} {s1 s2 s3 s4 s5 t1 t2 t4 t5 : Tok} {n1 n2 n3 n4 n5 : Nat} (hv : v ∈ [Value.ref r1, .ref r2, .ref r3, .ref r4, .ref r5])
    (m1 : (r1, tupOf [.str (Str.ofString "field") s1, .int 0 t1] n1) ∈ l) (m2 : (r2, tupOf [.str (Str.ofString "field") s2, .int 1 t2] n2) ∈ l) (m3 : (r3, tupOf [.str (Str.ofString "deref") s3] n3) ∈ l)
    (m4 : (r4, tupOf [.str (Str.ofString "index") s4, .int 4 t4] n4) ∈ l) (m5 : (r5, tupOf [.str (Str.ofString "downcast") s5, .int 1 t5] n5) ∈ l)
    (k : ∀ d, DatIn l v d → StepD d → ∃ d', DatIn l r d' ∧ PlaceD d') : ∃ d', DatIn l r d' ∧ PlaceD d' := by
  simp only [List.mem_cons, List.not_mem_nil, or_false] at hv
  rcases hv with rfl | rfl | rfl | rfl | rfl
  · exact k _ (.tuple m1 (.cons (.str _ _) (.cons (.int _ _) .nil))) (.oth _ _ (by decide +kernel) (by decide +kernel) (by decide +kernel))
  · exact k _ (.tuple m2 (.cons (.str _ _) (.cons (.int _ _) .nil))) (.oth _ _ (by decide +kernel) (by decide +kernel) (by decide +kernel))
  · exact k _ (.tuple m3 (.cons (.str _ _) .nil)) (.oth _ _ (by decide +kernel) (by decide +kernel) (by decide +kernel))
  · exact k _ (.tuple m4 (.cons (.str _ _) (.cons (.int _ _) .nil))) (.idx _)
  · exact k _ (.tuple m5 (.cons (.str _ _) (.cons (.int _ _) .nil))) (.oth _ _ (by decide +kernel) (by decide +kernel) (by decide +kernel))
theorem allLt_appI {x : Addr} {l r : List (Addr × Obj)} : AllLt x (l ++ r) ↔ (AllLt x l ∧ AllLt x r) := by
  induction l with
  | nil => exact ⟨fun h => ⟨trivial, h⟩, fun h => h.2⟩
  | cons p l ih => exact ⟨fun h => ⟨⟨h.1, (ih.mp h.2).1⟩, (ih.mp h.2).2⟩, fun h => ⟨h.1.1, ih.mpr ⟨h.1.2, h.2⟩⟩⟩
theorem offNil {x : Addr} : Off x [] ↔ True := ⟨fun _ => trivial, fun _ => Off.nil⟩
theorem offCons {x : Addr} {q : Addr × Obj} {l : List (Addr × Obj)} : Off x (q :: l) ↔ (q.1 ≠ x ∧ Off x l) := ⟨fun h => ⟨h.ne q List.mem_cons_self, ⟨fun p hp => h.ne p (List.mem_cons_of_mem _ hp)⟩⟩, fun h => Off.cons h.1 h.2⟩
theorem offApp {x : Addr} {l r : List (Addr × Obj)} : Off x (l ++ r) ↔ (Off x l ∧ Off x r) := ⟨fun h => ⟨⟨fun p hp => h.ne p (List.mem_append.mpr (.inl hp))⟩, ⟨fun p hp => h.ne p (List.mem_append.mpr (.inr hp))⟩⟩, fun h => Off.app h.1 h.2⟩
theorem Abv.imp {l l' tl : List (Addr × Obj)} (h : Abv l tl) (k : ∀ x : Addr, Off x l → Off x l') : Abv l' tl := fun p hp => k _ (h p hp)
theorem Abv.offM {l tl : List (Addr × Obj)} {a : Addr} {o : Obj} (h : Abv l tl) (k : (a, o) ∈ l) : Off a tl := ⟨fun p hp e => (h p hp).ne (a, o) k e.symm⟩
theorem Ctr.useA {prog : Program} {w : World} {f : Addr} {nd nu : Nat} {vs : List Value} {led : List (Addr × Obj)} {post : Value → List (Addr × Obj) → Prop} {mean : ExcName → Option Value} {mg mb : Str → Option Value} {dp un : Nat} {gd : Option (List Code)} {cn : Str} {cs : Scope} {a : Addr} {ccd : Value} {cl : List (Str × Addr)} {outer : List Env} {A₀ : Around} {base h₀ : Heap} {L : Addr} {m : Str → Option Value} {s : Shared} {Q E : Value → Shared → Prop}
    (B : Below A₀ base outer h₀) (F : Fr h₀ L s.heap m) (X : (hd.heap_1 w.params).In h₀) (N : News h₀ L s.heap led) (T : Top hd.view_39 (looseW hd.view_39 []) mean mg mb h₀) (hck : cs.kind = .function)
    (hd : dp + nd < recursionLimit) (hu : un + nu < cLine)
    (C : Ctr prog w f nd nu vs led post)
    (ret : ∀ r news' h' tk', Fr h₀ L h' m → News h₀ L h' news' → post r news' → Q r { s with heap := h', toks := tk' }) :
    wpAny (model prog w) (ktrTop dp un gd cn cs L a ccd cl outer) (call (.ref f) vs) Q E s := Ctr.use C B F X N (fun _ h => h) T hck hd hu ret
section
variable {prog : Program} {w : World} {A : Around} {E : Value → Shared → Prop} {s : Shared} {h₀ : Heap} {L src : Addr} {m : Str → Option Value} {news : List (Addr × Obj)} {n : Nat}
theorem led_itemT {value slice : PySem.Expr} {l : Addr} {vs r : List Value} {k : Int} {u : Tok} {v : Value} {Q : Value → Shared → Prop} (N : News h₀ L s.heap news) (hm : (l, tupOf vs n) ∈ news) (h0 : 0 ≤ k) (hhi : k < 2 ^ 63) (hx : vs.drop k.toNat = v :: r) (h : Q v s)
    (hs : subscripted slice false (.ref l) (.int k u) = operate [.ref l, .int k u] (getItem (.ref l) (.int k u)) := by with_unfolding_all rfl) :
    wpAny (model prog w) A (subscriptTail value slice (.ref l) (.int k u)) Q E s := by
  have hL : IsTup s.heap l vs.toArray := ⟨_, (N _ hm).1, rfl, n, rfl⟩
  have hx' := drop_at hx
  have hlt : k.toNat < vs.length := by
    rcases Nat.lt_or_ge k.toNat vs.length with q | q
    · exact q
    · rw [List.getElem?_eq_none q] at hx'; cases hx'
  refine item_tupleT (j := k.toNat) hL (by omega) hhi ?_ (by simpa using hx') h hs
  unfold seqIndex?
  simp only [List.size_toArray]
  have : ¬ k < 0 := by omega
  simp [this]
  omega
end
section
variable {news : List (Addr × Obj)} {v : Value} {d : Dat} {vs : List Value} {ds : List Dat} {x : Str} {i : Int}
theorem inv0 (h : DatAll news vs []) : vs = [] := by cases h; rfl
theorem inv1 (h : DatAll news vs (d :: ds)) : ∃ v vs', vs = v :: vs' ∧ DatIn news v d ∧ DatAll news vs' ds := by
  cases h with
  | cons h k => exact ⟨_, _, rfl, h, k⟩
theorem invS (h : DatIn news v (.str x)) : ∃ t, v = .str x t := by cases h; exact ⟨_, rfl⟩
theorem invI (h : DatIn news v (.int i)) : ∃ t, v = .int i t := by cases h; exact ⟨_, rfl⟩
theorem invT (h : DatIn news v (.tuple ds)) : ∃ a vs n, v = .ref a ∧ (a, tupOf vs n) ∈ news ∧ DatAll news vs ds := by
  cases h with
  | tuple h k => exact ⟨_, _, _, rfl, h, k⟩
theorem invL (h : DatIn news v (.list ds)) : ∃ a vs n, v = .ref a ∧ (a, listOf vs.toArray n) ∈ news ∧ DatAll news vs ds := by
  cases h with
  | list h k => exact ⟨_, _, _, rfl, h, k⟩
/-- a tuple that opens with a text -/
theorem invT1 (h : DatIn news v (.tuple [.str x])) : ∃ a t n, v = .ref a ∧ (a, tupOf [.str x t] n) ∈ news := by
  obtain ⟨a, vs, n, rfl, hm, h⟩ := invT h
  obtain ⟨_, _, rfl, h1, h⟩ := inv1 h
  obtain rfl := inv0 h
  obtain ⟨t, rfl⟩ := invS h1
  exact ⟨a, t, n, rfl, hm⟩
theorem invT2 {d2 : Dat} (h : DatIn news v (.tuple [.str x, d2])) : ∃ a t v2 n, v = .ref a ∧ (a, tupOf [.str x t, v2] n) ∈ news ∧ DatIn news v2 d2 := by
  obtain ⟨a, vs, n, rfl, hm, h⟩ := invT h
  obtain ⟨_, _, rfl, h1, h⟩ := inv1 h
  obtain ⟨_, _, rfl, h2, h⟩ := inv1 h
  obtain rfl := inv0 h
  obtain ⟨t, rfl⟩ := invS h1
  exact ⟨a, t, _, n, rfl, hm, h2⟩
theorem invT3 {d2 d3 : Dat} (h : DatIn news v (.tuple [.str x, d2, d3])) : ∃ a t v2 v3 n, v = .ref a ∧ (a, tupOf [.str x t, v2, v3] n) ∈ news ∧ DatIn news v2 d2 ∧ DatIn news v3 d3 := by
  obtain ⟨a, vs, n, rfl, hm, h⟩ := invT h
  obtain ⟨_, _, rfl, h1, h⟩ := inv1 h
  obtain ⟨_, _, rfl, h2, h⟩ := inv1 h
  obtain ⟨_, _, rfl, h3, h⟩ := inv1 h
  obtain rfl := inv0 h
  obtain ⟨t, rfl⟩ := invS h1
  exact ⟨a, t, _, _, n, rfl, hm, h2, h3⟩
theorem invT4 {d2 d3 d4 : Dat} (h : DatIn news v (.tuple [.str x, d2, d3, d4])) : ∃ a t v2 v3 v4 n, v = .ref a ∧ (a, tupOf [.str x t, v2, v3, v4] n) ∈ news ∧ DatIn news v2 d2 ∧ DatIn news v3 d3 ∧ DatIn news v4 d4 := by
  obtain ⟨a, vs, n, rfl, hm, h⟩ := invT h
  obtain ⟨_, _, rfl, h1, h⟩ := inv1 h
  obtain ⟨_, _, rfl, h2, h⟩ := inv1 h
  obtain ⟨_, _, rfl, h3, h⟩ := inv1 h
  obtain ⟨_, _, rfl, h4, h⟩ := inv1 h
  obtain rfl := inv0 h
  obtain ⟨t, rfl⟩ := invS h1
  exact ⟨a, t, _, _, _, n, rfl, hm, h2, h3, h4⟩
theorem invT5 {d2 d3 d4 d5 : Dat} (h : DatIn news v (.tuple [.str x, d2, d3, d4, d5])) : ∃ a t v2 v3 v4 v5 n, v = .ref a ∧ (a, tupOf [.str x t, v2, v3, v4, v5] n) ∈ news ∧ DatIn news v2 d2 ∧ DatIn news v3 d3 ∧ DatIn news v4 d4 ∧ DatIn news v5 d5 := by
  obtain ⟨a, vs, n, rfl, hm, h⟩ := invT h
  obtain ⟨_, _, rfl, h1, h⟩ := inv1 h
  obtain ⟨_, _, rfl, h2, h⟩ := inv1 h
  obtain ⟨_, _, rfl, h3, h⟩ := inv1 h
  obtain ⟨_, _, rfl, h4, h⟩ := inv1 h
  obtain ⟨_, _, rfl, h5, h⟩ := inv1 h
  obtain rfl := inv0 h
  obtain ⟨t, rfl⟩ := invS h1
  exact ⟨a, t, _, _, _, _, n, rfl, hm, h2, h3, h4, h5⟩
end
theorem Pick.sup {p : Addr × Obj} {l r : List (Addr × Obj)} (h : Pick p l r) : ∀ q ∈ l, q ∈ p :: r := by
  induction h with
  | head => exact fun _ h => h
  | tail _ ih =>
    intro q hq
    rcases List.mem_cons.mp hq with rfl | hq
    · exact List.mem_cons_of_mem _ List.mem_cons_self
    · rcases List.mem_cons.mp (ih q hq) with rfl | hq
      · exact List.mem_cons_self
      · exact List.mem_cons_of_mem _ (List.mem_cons_of_mem _ hq)
  | app _ ih =>
    intro q hq
    rcases List.mem_append.mp hq with hq | hq
    · exact List.mem_cons_of_mem _ (List.mem_append.mpr (.inl hq))
    · rcases List.mem_cons.mp (ih q hq) with rfl | hq
      · exact List.mem_cons_self
      · exact List.mem_cons_of_mem _ (List.mem_append.mpr (.inr hq))
theorem not_long {its its2 : Array Value} (h : its.size + its2.size ≤ 1000) : ¬ (!its.isEmpty && Builtin.List.listTooLong (its.size + its2.size)) = true := by
  intro q
  rw [Bool.and_eq_true] at q
  have q2 := q.2
  unfold Builtin.List.listTooLong at q2
  have line : (1000 : Nat) ≤ sizeLine := by decide +kernel
  simp at q2
  omega
section
variable {prog : Program} {w : World} {A : Around} {E : Value → Shared → Prop} {s : Shared} {h₀ : Heap} {L : Addr} {m : Str → Option Value} {news : List (Addr × Obj)} {n n2 : Nat}
theorem led_extend {D b : Addr} {vs vs2 : List Value} {rest : List (Addr × Obj)} {Q : Value → Shared → Prop} (F : Fr h₀ L s.heap m) (N : News h₀ L s.heap news) (hb : (b, listOf vs2.toArray n2) ∈ news)
    (hp : Pick (D, listOf vs.toArray n) news rest) (off : Off D rest) (hz : vs.length + vs2.length ≤ 1000)
    (h : ∀ h' n', Fr h₀ L h' m → News h₀ L h' ((D, listOf (vs ++ vs2).toArray n') :: rest) → Q .none { s with heap := h' }) : wpAny (model prog w) A (call (.builtin "list.extend") [.ref D, .ref b]) Q E s := by
  have N' : News h₀ L s.heap ((D, listOf vs.toArray n) :: rest) := fun p hq => N p (hp.sub p hq)
  have hb' := hp.sup _ hb
  have line : (1000 : Nat) ≤ sizeLine := by decide +kernel
  have hl : ¬(!vs.toArray.isEmpty && Builtin.List.listTooLong (vs.toArray.size + vs2.toArray.size)) = true := not_long (by simpa using hz)
  have h1 : vs.toArray.toList.length ≤ sizeLine := by
    have : vs.toArray.toList.length = vs.length := by simp
    omega
  have h2 : vs.toArray.size + vs2.toArray.size ≤ sizeLine + 1 := by
    simp only [List.size_toArray]
    omega
  by_cases e : vs2 = []
  · subst e
    exact kxn_extend F N' hb' rfl (Upd.head off.ne) hl h1 h2 fun h' F' N'' => h h' n F' (by rw [List.append_nil]; exact N'')
  · refine kl_extend (l := vs ++ vs2) F N' hb' (by simp) (by simpa using e) (Upd.head off.ne) hl h1 h2 fun h' F' N'' => h h' _ F' N''
theorem led_add {a b : Addr} {vs vs2 : List Value} {Q : Value → Shared → Prop} (F : Fr h₀ L s.heap m) (N : News h₀ L s.heap news) (ha : (a, listOf vs.toArray n) ∈ news) (hb : (b, listOf vs2.toArray n2) ∈ news) (hz : vs.length + vs2.length ≤ 1000)
    (h : ∀ D h', Fr h₀ L h' m → News h₀ L h' ((D, listOf (vs ++ vs2).toArray 0) :: news) → (∀ p ∈ news, p.1 < D) → Q (.ref D) { s with heap := h' }) : wpAny (model prog w) A (binaryOp .Add (.ref a) (.ref b)) Q E s := by
  have line : (1000 : Nat) ≤ sizeLine := by decide +kernel
  exact add_arrays F N ⟨_, (N _ ha).1, rfl, n, rfl⟩ ⟨_, (N _ hb).1, rfl, n2, rfl⟩ (fun h' F' N' => h _ h' F' N' fun p hp => Heap.lt_size (N p hp).1) (by simp only [List.size_toArray]; omega)
end
theorem unrw_end {h₀ : Heap} {L I : Addr} {it : Obj} {keep : List (Addr × Obj)} {rest : (Str → Option Value) → List (Addr × Obj) → Prop} {s₁ : Shared} {h' : Heap} {tk : Nat} {m' : Str → Option Value} {all r : List (Addr × Obj)} (F : Fr h₀ L h' m') (N : News h₀ L h' all)
    (hp : Pick (I, it) all r) (off : Off I r) (hk : SubL keep r) (k : rest m' r) : UnrEndW h₀ L s₁ [(I, it)] (fun m' n' => SubL keep n' ∧ rest m' n') { s₁ with heap := h', toks := tk } :=
  ⟨h', tk, m', r, rfl, F, fun p hq => N p (hp.sub p hq), fun p hp q hq => by rw [List.mem_singleton.mp hq]; exact off.ne p hp, hk, k⟩
section
variable {prog : Program} {w : World} {A : Around} {E : Value → Shared → Prop} {s : Shared} {env : Env} {h₀ : Heap} {target : PySem.Expr} {body : List Stmt} {Q : Flow → Shared → Prop}
theorem turns_tup {ax : Addr} {vs : List Value} {n : Nat} {m₀ : Str → Option Value} {news : List (Addr × Obj)}
    (hh : A.handled = none) (F : Fr h₀ env.locals s.heap m₀) (N : News h₀ env.locals s.heap news) (hm : (ax, tupOf vs n) ∈ news)
    (rest₀ : ∀ I : Addr, (∀ p ∈ news, p.1 < I) → ItemsRest prog w A E h₀ env target body Q s [(I, "tuple_iterator")] [(ax, tupOf vs n)] (vs.map .val) m₀ news) :
    wpAny (model prog w) A (pyIter (.ref ax)) (fun it s₂ => TurnsAt prog w A h₀ env target body Q E it s₂) E s := iter_tupTurns hh F N hm rfl rfl rest₀
theorem turns_list {ax : Addr} {vs : List Value} {n : Nat} {m₀ : Str → Option Value} {news : List (Addr × Obj)}
    (hh : A.handled = none) (F : Fr h₀ env.locals s.heap m₀) (N : News h₀ env.locals s.heap news) (hm : (ax, listOf vs.toArray n) ∈ news)
    (rest₀ : ∀ I : Addr, (∀ p ∈ news, p.1 < I) → ItemsRest prog w A E h₀ env target body Q s [(I, "list_iterator")] [(ax, listOf vs.toArray n)] (vs.map .val) m₀ news) :
    wpAny (model prog w) A (pyIter (.ref ax)) (fun it s₂ => TurnsAt prog w A h₀ env target body Q E it s₂) E s := iter_listTurns hh F N hm rfl rfl rest₀
end
/-- an operand, and what it is to access -/
inductive OpA : Dat → List Dat → Prop
  | const : OpA (.tuple [.str (Str.ofString "const"), .tuple [.str (Str.ofString "int"), .str (Str.ofString "i32")], .int 7]) []
  | copy (p : Dat) (h : PlaceD p) : OpA (.tuple [.str (Str.ofString "copy"), p]) [.tuple [p, .str (Str.ofString "deep"), .str (Str.ofString "read"), .str (Str.ofString "copy")]]
  | move (p : Dat) (h : PlaceD p) : OpA (.tuple [.str (Str.ofString "move"), p]) [.tuple [p, .str (Str.ofString "deep"), .str (Str.ofString "write"), .str (Str.ofString "move")]]
theorem line1000 : (1000 : Nat) ≤ sizeLine := by decide +kernel
section
variable {M : Model} {A : Around} {E : Value → Shared → Prop} {s : Shared} {h₀ : Heap} {L : Addr} {m : Str → Option Value} {news : List (Addr × Obj)}
theorem led_newList {vs : List Value} {Q : Value → Shared → Prop} (F : Fr h₀ L s.heap m) (N : News h₀ L s.heap news) (hz : vs.length ≤ 1000)
    (h : ∀ l h', Fr h₀ L h' m → News h₀ L h' ((l, listOf vs.toArray 0) :: news) → (∀ p ∈ news, p.1 < l) → Q (.ref l) { s with heap := h' }) : wpAny M A (newList vs) Q E s :=
  newList_K F N h (Nat.le_trans hz line1000)
theorem led_newTuple {vs : List Value} {Q : Value → Shared → Prop} (F : Fr h₀ L s.heap m) (N : News h₀ L s.heap news) (hz : vs.length ≤ 1000)
    (h : ∀ l h', Fr h₀ L h' m → News h₀ L h' ((l, tupOf vs 0) :: news) → (∀ p ∈ news, p.1 < l) → Q (.ref l) { s with heap := h' }) : wpAny M A (newTuple vs) Q E s :=
  newTuple_N F N (fun h' F' N' => h _ h' F' N' fun p hp => Heap.lt_size (N p hp).1) (Nat.le_trans hz line1000)
end
theorem ite_yes {c : Prop} [Decidable c] {a b : Prop} (hc : decide c = true) (h : a) : if c then a else b := by rw [if_pos (of_decide_eq_true hc)]; exact h
theorem ite_no {c : Prop} [Decidable c] {a b : Prop} (hc : decide c = false) (h : b) : if c then a else b := by rw [if_neg (of_decide_eq_false hc)]; exact h
/-- a borrow by its kind -/
inductive BorA : Str → Dat → List Dat → Prop
  | shared (p : Dat) (h : PlaceD p) : BorA (Str.ofString "shared") p [.tuple [p, .str (Str.ofString "deep"), .str (Str.ofString "read"), .str (Str.ofString "shared")]]
  | bmut (p : Dat) (h : PlaceD p) : BorA (Str.ofString "mut") p [.tuple [p, .str (Str.ofString "deep"), .str (Str.ofString "write"), .str (Str.ofString "mut")]]
  | two (p : Dat) (h : PlaceD p) : BorA (Str.ofString "two-phase") p [.tuple [p, .str (Str.ofString "deep"), .str (Str.ofString "read"), .str (Str.ofString "two-phase")]]
abbrev ds (x : String) : Dat := .str (Str.ofString x)
/-- an rvalue, and what it is to access -/
inductive RvA : Dat → List Dat → Prop
  | shared (p : Dat) (h : PlaceD p) : RvA (.tuple [.str (Str.ofString "ref"), .none, .str (Str.ofString "shared"), p]) [.tuple [p, .str (Str.ofString "deep"), .str (Str.ofString "read"), .str (Str.ofString "shared")]]
  | bmut (p : Dat) (h : PlaceD p) : RvA (.tuple [.str (Str.ofString "ref"), .none, .str (Str.ofString "mut"), p]) [.tuple [p, .str (Str.ofString "deep"), .str (Str.ofString "write"), .str (Str.ofString "mut")]]
  | two (p : Dat) (h : PlaceD p) : RvA (.tuple [.str (Str.ofString "ref"), .none, .str (Str.ofString "two-phase"), p]) [.tuple [p, .str (Str.ofString "deep"), .str (Str.ofString "read"), .str (Str.ofString "two-phase")]]
  | disc (p : Dat) (h : PlaceD p) : RvA (.tuple [.str (Str.ofString "discriminant"), p]) [.tuple [p, .str (Str.ofString "shallow"), .str (Str.ofString "read"), .str (Str.ofString "copy")]]
  | binary (d1 d2 : Dat) (l1 l2 : List Dat) (o1 : OpA d1 l1) (o2 : OpA d2 l2) : RvA (.tuple [.str (Str.ofString "binary"), .str (Str.ofString "+"), d1, d2]) (l1 ++ l2)
  | checked (d1 d2 : Dat) (l1 l2 : List Dat) (o1 : OpA d1 l1) (o2 : OpA d2 l2) : RvA (.tuple [.str (Str.ofString "checked"), .str (Str.ofString "+"), d1, d2]) (l1 ++ l2)
  | tuple (d1 d2 : Dat) (l1 l2 : List Dat) (o1 : OpA d1 l1) (o2 : OpA d2 l2) : RvA (.tuple [.str (Str.ofString "tuple"), .tuple [d1, d2]]) (l1 ++ l2)
  | array (d1 d2 : Dat) (l1 l2 : List Dat) (o1 : OpA d1 l1) (o2 : OpA d2 l2) : RvA (.tuple [.str (Str.ofString "array"), .tuple [d1, d2]]) (l1 ++ l2)
  | adt (d1 d2 : Dat) (l1 l2 : List Dat) (o1 : OpA d1 l1) (o2 : OpA d2 l2) : RvA (.tuple [.str (Str.ofString "adt"), .tuple [.str (Str.ofString "adt"), .str (Str.ofString "S"), .tuple [], .tuple []], .int 0, .tuple [d2, d1]]) (l2 ++ l1)
  | unary (d1 : Dat) (l1 : List Dat) (o1 : OpA d1 l1) : RvA (.tuple [.str (Str.ofString "unary"), .str (Str.ofString "!"), d1]) l1
  | cast (d1 : Dat) (l1 : List Dat) (o1 : OpA d1 l1) : RvA (.tuple [.str (Str.ofString "cast"), d1, .tuple [.str (Str.ofString "int"), .str (Str.ofString "i32")]]) l1
  | use (d1 : Dat) (l1 : List Dat) (o1 : OpA d1 l1) : RvA (.tuple [.str (Str.ofString "use"), d1]) l1
  | box (d1 : Dat) (l1 : List Dat) (o1 : OpA d1 l1) : RvA (.tuple [.str (Str.ofString "box"), d1]) l1
theorem split10 {i : Int} (h : 0 ≤ i) (k : i < 10) : i = 0 ∨ i = 1 ∨ i = 2 ∨ i = 3 ∨ i = 4 ∨ i = 5 ∨ i = 6 ∨ i = 7 ∨ i = 8 ∨ i = 9 := by omega
theorem split8 {i : Int} (h : 0 ≤ i) (k : i < 8) : i = 0 ∨ i = 1 ∨ i = 2 ∨ (i ≠ 0 ∧ i ≠ 1 ∧ i ≠ 2) := by omega
theorem split7 {i : Int} (h : 0 ≤ i) (k : i < 7) : i = 0 ∨ i = 1 ∨ i = 2 ∨ i = 3 ∨ i = 4 ∨ i = 5 ∨ i = 6 := by omega
end
section
open PyProof.Rows.LCg PyProof.Rows.LCt
/-- the source of a comprehension is a tuple of the ledger -/
def SrcTup (prog : Program) (w : World) (A : Around) (h₀ : Heap) (L : Addr) (m : Str → Option Value) (env : Env) (ct elt : PySem.Expr) (x : Str) (scope : Scope) (cl : List (Str × Addr)) (Fin : Shared → List Value → List (Addr × Obj) → Prop) (xv : Value) (s₁ : Shared) : Prop :=
  ∃ ax vs n news, xv = .ref ax ∧ A.handled = none ∧ Fr h₀ L s₁.heap m ∧ News h₀ L s₁.heap news ∧ (ax, tupOf vs n) ∈ news ∧ vs.length ≤ 1000 ∧
    ∀ s₂ : Shared, (∃ h, s₂ = { s₁ with heap := h }) → CompRestT prog w A h₀ L m env ct elt x scope cl s₂ (fun nw => (ax, tupOf vs n) ∈ nw) (fun i v => vs.toArray[i]? = some v) (Fin s₂) vs.length 0 [] news
section
variable {prog : Program} {w : World} {A : Around} {E : Value → Shared → Prop} {s : Shared} {h₀ : Heap} {L : Addr} {m : Str → Option Value} {env : Env}
theorem SrcTup.intro {ct elt : PySem.Expr} {x : Str} {scope : Scope} {cl : List (Str × Addr)} {Fin : Shared → List Value → List (Addr × Obj) → Prop} {ax : Addr} {vs : List Value} {n : Nat} {news : List (Addr × Obj)} {s₁ : Shared}
    (hh : A.handled = none) (F : Fr h₀ L s₁.heap m) (N : News h₀ L s₁.heap news) (hm : (ax, tupOf vs n) ∈ news) (hz : vs.length ≤ 1000)
    (h : ∀ g, CompRestT prog w A h₀ L m env ct elt x scope cl { s₁ with heap := g } (fun nw => (ax, tupOf vs n) ∈ nw) (fun i v => vs.toArray[i]? = some v) (Fin { s₁ with heap := g }) vs.length 0 [] news) :
    SrcTup prog w A h₀ L m env ct elt x scope cl Fin (.ref ax) s₁ := ⟨ax, vs, n, news, rfl, hh, F, N, hm, hz, fun _ ⟨g, e⟩ => e ▸ h g⟩
theorem tup_st {ax I : Addr} {vs : List Value} {n : Nat} : ∀ i (h h' : Heap) (o : Obj) (nw : List (Addr × Obj)), (h.IsTupleIter I ax i ∧ h.IsTuple ax vs.toArray) → h.get? I = some o → h'.get? I = some o → (∀ b o, h₀.get? b = some o → h'.get? b = some o) → News h₀ L h' nw → (ax, tupOf vs n) ∈ nw → (h'.IsTupleIter I ax i ∧ h'.IsTuple ax vs.toArray) :=
  fun i h h' o nw st e e' k N S => ⟨by obtain ⟨o', q, r⟩ := st.1; rw [e] at q; cases q; exact ⟨o, e', r⟩, ⟨_, (N _ S).1, rfl, n, rfl⟩⟩
theorem listComp_tup {ct elt iter : PySem.Expr} {x : Str} {px : Pos} {scope : Scope} {cl : List (Str × Addr)} {pos : Pos} {Q : Value → Shared → Prop} (F₀ : Fr h₀ L s.heap m)
    (hclos : closureFor scope env = pure cl) (hcell : ∀ y ∈ scope.names, y.2 ≠ .cell) (hkind : scope.kind = .function)
    (hnames : ∀ y ∈ scope.names, y.2 = .local → scope.names.lookup y.1 = some .local) (hx : scope.names.lookup x = some .local)
    (h : wpAny (model prog w) A (eval iter env) (SrcTup prog w A h₀ L m env ct elt x scope cl (fun s₂ => FinE h₀ L m s₂ Q)) E s)
    (hs : ∀ x, foldedSetIterable iter env x = pure x := by intro _; rfl) :
    wpAny (model prog w) A (eval (.ListComp elt [⟨.Name x px, iter, [ct], 0⟩] scope pos) env) Q E s := by
  rw [eval_ListComp]
  refine wpAny_comprehension_free (use := none) rfl hs hclos hkind hnames (wpAny_mono h (fun xv s₁ h₁ => ?_) fun _ _ e => e)
  obtain ⟨ax, vs, n, news, rfl, hh, F, N, hm, hz, R⟩ := h₁
  have hl : s₁.heap.IsTuple ax vs.toArray := ⟨_, (N _ hm).1, rfl, n, rfl⟩
  have hlt : ax < s₁.heap.objs.size := Heap.lt_size (N _ hm).1
  refine wpAny_pyIter_tuple hl ?_
  have up : ∀ b o, s₁.heap.get? b = some o → (s₁.heap.push { cls := .type "tuple_iterator", data := .fields #[.ref ax, .int 0 0] }).get? b = some o := fun b o e => Heap.get?_push_of_some _ e
  have hsz : vs.toArray.size = vs.length := by simp
  have W := Walks.tuple (prog := prog) (w := w) hh s₁.heap.objs.size ax (Nat.ne_of_lt hlt) vs.toArray
  rw [hsz] at W
  refine block_T W (Nat.le_trans hz line1000) (fun i h st => by obtain ⟨o, e, _⟩ := st.1; exact ⟨o, e⟩) tup_st hcell hkind hx ⟨⟨_, Heap.get?_push_size _ rfl, rfl, rfl⟩, hl.at fun o e => up _ _ e⟩ (fun b hb => ?_)
    (F.keeps up) (N.grown up) (Nat.ne_of_lt F.ns.lt) (next_is_new F) (fun p hp => Nat.ne_of_lt (Heap.lt_size (N p hp).1)) hm (R _ ⟨_, rfl⟩) ?_
  · show b < (s₁.heap.push _).objs.size
    rw [Heap.size_push]
    rcases List.mem_cons.mp hb with rfl | hb
    · exact Nat.lt_succ_self _
    · rw [List.mem_singleton.mp hb]; exact Nat.lt_succ_of_lt hlt
  · intro D C h tk m' ys news' F' N' o1 hn hC₀ hD₀ hCL hDL hCD offC fin
    refine ⟨m', hn, fun h'' hs'' => fin D h'' tk (F'.change hs'' hCL hC₀) (fun p hp => ?_) o1⟩
    refine ⟨hs''.extBut _ _ ?_ (N' p hp).1, (N' p hp).2⟩
    rcases List.mem_cons.mp hp with rfl | hp
    · exact Ne.symm hCD
    · exact offC p hp
end
theorem off3_of {I C D : Addr} {l : List (Addr × Obj)} (h1 : Off I l) (h2 : Off C l) (h3 : Off D l) : Off3 I C D l := Off3.of fun p hp => ⟨h1.ne p hp, h2.ne p hp, h3.ne p hp⟩
theorem off3_I {I C D : Addr} {l : List (Addr × Obj)} (h : Off3 I C D l) : Off I l := ⟨fun p hp => (h.mem p hp).1⟩
theorem off3_C {I C D : Addr} {l : List (Addr × Obj)} (h : Off3 I C D l) : Off C l := ⟨fun p hp => (h.mem p hp).2.1⟩
theorem off3_D {I C D : Addr} {l : List (Addr × Obj)} (h : Off3 I C D l) : Off D l := ⟨fun p hp => (h.mem p hp).2.2⟩
theorem off3_app {I C D : Addr} : ∀ {l r : List (Addr × Obj)}, Off3 I C D (l ++ r) ↔ (Off3 I C D l ∧ Off3 I C D r)
  | [], _ => ⟨fun h => ⟨trivial, h⟩, fun h => h.2⟩
  | _ :: _, _ => ⟨fun h => ⟨⟨h.1, (off3_app.mp h.2).1⟩, (off3_app.mp h.2).2⟩, fun h => ⟨h.1.1, off3_app.mpr ⟨h.1.2, h.2⟩⟩⟩
theorem off1_off {D : Addr} : ∀ {l : List (Addr × Obj)}, Off1 D l → Off D l
  | [], _ => Off.nil
  | _ :: _, h => Off.cons h.1 (off1_off h.2)
theorem comp_end {h₀ : Heap} {L I C D : Addr} {m : Str → Option Value} {s₁ : Shared} {oI oC oD : Obj} {S : List (Addr × Obj) → Prop} {rest : Value → List (Addr × Obj) → Prop} {y : Value} {h' : Heap} {tk : Nat} {all r1 r2 r3 : List (Addr × Obj)}
    (F : Fr h₀ L h' m) (N : News h₀ L h' all) (p1 : Pick (I, oI) all r1) (p2 : Pick (C, oC) r1 r2) (p3 : Pick (D, oD) r2 r3) (h1 : Off I r3) (h2 : Off C r3) (h3 : Off D r3) (hS : S r3) (r : rest y r3) :
    CompEnd h₀ L m s₁ I oI C oC D oD S rest y { s₁ with heap := h', toks := tk } := by
  refine CompEnd.intro F N r3 (fun p hp => ?_) (off3_of h1 h2 h3) hS r
  rcases List.mem_cons.mp hp with rfl | hp
  · exact p1.sub _ List.mem_cons_self
  · rcases List.mem_cons.mp hp with rfl | hp
    · exact p1.sub _ (List.mem_cons_of_mem _ (p2.sub _ List.mem_cons_self))
    · exact p1.sub _ (List.mem_cons_of_mem _ (p2.sub _ (List.mem_cons_of_mem _ (p3.sub _ hp))))
/-- what the indexes of a place are to access -/
inductive IdxA : List Dat → List Dat → Prop
  | nil : IdxA [] []
  | idx (i : Int) (r l : List Dat) (h : IdxA r l) : IdxA (.tuple [.str (Str.ofString "index"), .int i] :: r) (.tuple [.tuple [.int i, .tuple []], .str (Str.ofString "shallow"), .str (Str.ofString "read"), .str (Str.ofString "copy")] :: l)
  | oth (x : Str) (q r l : List Dat) (hx : (x == Str.ofString "index") = false) (h : IdxA r l) : IdxA (.tuple (.str x :: q) :: r) l
theorem idxA_of : ∀ {ds : List Dat}, (∀ e ∈ ds, StepD e) → ∃ l, IdxA ds l
  | [], _ => ⟨[], .nil⟩
  | d :: ds, h => by
    obtain ⟨l, k⟩ := idxA_of fun e he => h e (List.mem_cons_of_mem _ he)
    have q := h d List.mem_cons_self
    cases q with
    | idx i => exact ⟨_, .idx i ds l k⟩
    | oth x r hx _ _ => exact ⟨_, .oth x r ds l hx k⟩
/-- a place with what its indexes are to access -/
inductive PlaceI : Dat → List Dat → Prop
  | mk (i : Int) (ds l : List Dat) (h : IdxA ds l) (z : ds.length ≤ 2) : PlaceI (.tuple [.int i, .tuple ds]) l
theorem placeI_of {d : Dat} (h : PlaceD d) : ∃ l, PlaceI d l := by
  cases h with
  | mk i ds h z =>
    obtain ⟨l, k⟩ := idxA_of h
    exact ⟨l, .mk i ds l k z⟩
/-- a statement, and what it is to access -/
inductive StA : Dat → List Dat → Prop
  | dead (i : Int) : StA (.tuple [.str (Str.ofString "dead"), .int i]) [.tuple [.tuple [.int i, .tuple []], .str (Str.ofString "drop"), .str (Str.ofString "write"), .str (Str.ofString "dead")]]
  | print (d : Dat) (l : List Dat) (o : OpA d l) : StA (.tuple [.str (Str.ofString "print"), d]) l
  | live : StA (.tuple [.str (Str.ofString "live"), .int 1]) []
  | nop : StA (.tuple [.str (Str.ofString "nop")]) []
  | assign (p rv : Dat) (l li : List Dat) (hp : PlaceI p li) (hr : RvA rv l) (hpd : PlaceD p) : StA (.tuple [.str (Str.ofString "assign"), p, rv]) (l ++ li ++ [.tuple [p, .str (Str.ofString "shallow"), .str (Str.ofString "write"), .str (Str.ofString "assign")]])
/-- a terminator, and what it is to access -/
inductive TermA : Dat → List Dat → Prop
  | ret : TermA (.tuple [.str (Str.ofString "return")]) [.tuple [.tuple [.int 1, .tuple []], .str (Str.ofString "drop"), .str (Str.ofString "write"), .str (Str.ofString "return")], .tuple [.tuple [.int 2, .tuple []], .str (Str.ofString "drop"), .str (Str.ofString "write"), .str (Str.ofString "return")], .tuple [.tuple [.int 3, .tuple []], .str (Str.ofString "drop"), .str (Str.ofString "write"), .str (Str.ofString "return")], .tuple [.tuple [.int 4, .tuple []], .str (Str.ofString "drop"), .str (Str.ofString "write"), .str (Str.ofString "return")]]
  | drop (p : Dat) (h : PlaceD p) : TermA (.tuple [.str (Str.ofString "drop"), p, .int 0]) [.tuple [p, .str (Str.ofString "drop"), .str (Str.ofString "write"), .str (Str.ofString "drop")]]
  | call (d1 d2 p : Dat) (l1 l2 : List Dat) (o1 : OpA d1 l1) (o2 : OpA d2 l2) (h : PlaceD p) : TermA (.tuple [.str (Str.ofString "call"), .tuple [.str (Str.ofString "fn"), .str (Str.ofString "f"), .tuple []], .tuple [d1, d2], p, .int 0]) (l1 ++ l2 ++ [.tuple [p, .str (Str.ofString "shallow"), .str (Str.ofString "write"), .str (Str.ofString "assign")]])
  | switch (d : Dat) (l : List Dat) (o : OpA d l) : TermA (.tuple [.str (Str.ofString "switch"), d, .tuple [.tuple [.int 0, .int 0]], .int 0]) l
  | assert (d : Dat) (l : List Dat) (o : OpA d l) : TermA (.tuple [.str (Str.ofString "assert"), d, .bool true, .str (Str.ofString "no"), .int 0]) l
  | goto : TermA (.tuple [.str (Str.ofString "goto"), .int 0]) []
  | panic : TermA (.tuple [.str (Str.ofString "panic"), .str (Str.ofString "p")]) []
  | unreachable : TermA (.tuple [.str (Str.ofString "unreachable")]) []
/-- a place laid open -/
inductive PlaceC (tl : List (Addr × Obj)) : Value → Dat → List Dat → Prop
  | p (a b : Addr) (n nb : Nat) (i : Int) (ti : Tok)  (hm : (a, tupOf [.int i ti, .ref b] n) ∈ tl) (hb : (b, tupOf [] nb) ∈ tl)  : PlaceC tl (.ref a) (.tuple [.int i, .tuple []]) []
  | pi (a b : Addr) (n nb : Nat) (i : Int) (ti : Tok) (s0 : Addr) (ts0 tw0 : Tok) (i0 : Int) (ns0 : Nat) (hm : (a, tupOf [.int i ti, .ref b] n) ∈ tl) (hb : (b, tupOf [.ref s0] nb) ∈ tl) (hs0 : (s0, tupOf [.str (Str.ofString "index") ts0, .int i0 tw0] ns0) ∈ tl) : PlaceC tl (.ref a) (.tuple [.int i, .tuple [.tuple [.str (Str.ofString "index"), .int i0]]]) [.tuple [.tuple [.int i0, .tuple []], .str (Str.ofString "shallow"), .str (Str.ofString "read"), .str (Str.ofString "copy")]]
  | po (a b : Addr) (n nb : Nat) (i : Int) (ti : Tok) (s0 : Addr) (ts0 : Tok) (x0 : Str) (vs0 : List Value) (q0 : List Dat) (ns0 : Nat) (hx0 : (x0 == Str.ofString "index") = false) (hm : (a, tupOf [.int i ti, .ref b] n) ∈ tl) (hb : (b, tupOf [.ref s0] nb) ∈ tl) (hs0 : (s0, tupOf (.str x0 ts0 :: vs0) ns0) ∈ tl) : PlaceC tl (.ref a) (.tuple [.int i, .tuple [.tuple (.str x0 :: q0)]]) []
  | pii (a b : Addr) (n nb : Nat) (i : Int) (ti : Tok) (s0 : Addr) (ts0 tw0 : Tok) (i0 : Int) (ns0 : Nat) (s1 : Addr) (ts1 tw1 : Tok) (i1 : Int) (ns1 : Nat) (hm : (a, tupOf [.int i ti, .ref b] n) ∈ tl) (hb : (b, tupOf [.ref s0, .ref s1] nb) ∈ tl) (hs0 : (s0, tupOf [.str (Str.ofString "index") ts0, .int i0 tw0] ns0) ∈ tl) (hs1 : (s1, tupOf [.str (Str.ofString "index") ts1, .int i1 tw1] ns1) ∈ tl) : PlaceC tl (.ref a) (.tuple [.int i, .tuple [.tuple [.str (Str.ofString "index"), .int i0], .tuple [.str (Str.ofString "index"), .int i1]]]) [.tuple [.tuple [.int i0, .tuple []], .str (Str.ofString "shallow"), .str (Str.ofString "read"), .str (Str.ofString "copy")], .tuple [.tuple [.int i1, .tuple []], .str (Str.ofString "shallow"), .str (Str.ofString "read"), .str (Str.ofString "copy")]]
  | pio (a b : Addr) (n nb : Nat) (i : Int) (ti : Tok) (s0 : Addr) (ts0 tw0 : Tok) (i0 : Int) (ns0 : Nat) (s1 : Addr) (ts1 : Tok) (x1 : Str) (vs1 : List Value) (q1 : List Dat) (ns1 : Nat) (hx1 : (x1 == Str.ofString "index") = false) (hm : (a, tupOf [.int i ti, .ref b] n) ∈ tl) (hb : (b, tupOf [.ref s0, .ref s1] nb) ∈ tl) (hs0 : (s0, tupOf [.str (Str.ofString "index") ts0, .int i0 tw0] ns0) ∈ tl) (hs1 : (s1, tupOf (.str x1 ts1 :: vs1) ns1) ∈ tl) : PlaceC tl (.ref a) (.tuple [.int i, .tuple [.tuple [.str (Str.ofString "index"), .int i0], .tuple (.str x1 :: q1)]]) [.tuple [.tuple [.int i0, .tuple []], .str (Str.ofString "shallow"), .str (Str.ofString "read"), .str (Str.ofString "copy")]]
  | poi (a b : Addr) (n nb : Nat) (i : Int) (ti : Tok) (s0 : Addr) (ts0 : Tok) (x0 : Str) (vs0 : List Value) (q0 : List Dat) (ns0 : Nat) (hx0 : (x0 == Str.ofString "index") = false) (s1 : Addr) (ts1 tw1 : Tok) (i1 : Int) (ns1 : Nat) (hm : (a, tupOf [.int i ti, .ref b] n) ∈ tl) (hb : (b, tupOf [.ref s0, .ref s1] nb) ∈ tl) (hs0 : (s0, tupOf (.str x0 ts0 :: vs0) ns0) ∈ tl) (hs1 : (s1, tupOf [.str (Str.ofString "index") ts1, .int i1 tw1] ns1) ∈ tl) : PlaceC tl (.ref a) (.tuple [.int i, .tuple [.tuple (.str x0 :: q0), .tuple [.str (Str.ofString "index"), .int i1]]]) [.tuple [.tuple [.int i1, .tuple []], .str (Str.ofString "shallow"), .str (Str.ofString "read"), .str (Str.ofString "copy")]]
  | poo (a b : Addr) (n nb : Nat) (i : Int) (ti : Tok) (s0 : Addr) (ts0 : Tok) (x0 : Str) (vs0 : List Value) (q0 : List Dat) (ns0 : Nat) (hx0 : (x0 == Str.ofString "index") = false) (s1 : Addr) (ts1 : Tok) (x1 : Str) (vs1 : List Value) (q1 : List Dat) (ns1 : Nat) (hx1 : (x1 == Str.ofString "index") = false) (hm : (a, tupOf [.int i ti, .ref b] n) ∈ tl) (hb : (b, tupOf [.ref s0, .ref s1] nb) ∈ tl) (hs0 : (s0, tupOf (.str x0 ts0 :: vs0) ns0) ∈ tl) (hs1 : (s1, tupOf (.str x1 ts1 :: vs1) ns1) ∈ tl) : PlaceC tl (.ref a) (.tuple [.int i, .tuple [.tuple (.str x0 :: q0), .tuple (.str x1 :: q1)]]) []
theorem placeC_of {tl : List (Addr × Obj)} {v : Value} {p : Dat} {l : List Dat} (hd : DatIn tl v p) (o : PlaceI p l) : PlaceC tl v p l := by
  cases o with
  | mk i ds l hi z =>
    obtain ⟨a, vs, n, e, hm, hd⟩ := invT hd
    obtain ⟨v1, _, e1, h1, hd⟩ := inv1 hd
    obtain ⟨v2, _, e2, h2, hd⟩ := inv1 hd
    have e3 := inv0 hd
    subst e e1 e2 e3
    obtain ⟨ti, ei⟩ := invI h1
    obtain ⟨b, vs, nb, eb, hb, hds⟩ := invT h2
    subst ei eb
    cases hi with
    | nil =>
      have e0 := inv0 hds
      subst e0
      exact .p _ _ _ _ _ _  hm hb 
    | idx i0 _ _ hh0 =>
      cases hh0 with
      | nil =>
        obtain ⟨v0, r0, ev0, h0, hds0⟩ := inv1 hds
        subst ev0
        have e0 := inv0 hds0
        subst e0
        obtain ⟨s0, ts0, w0, ns0, es0, hs0, hw0⟩ := invT2 h0
        obtain ⟨tw0, ew0⟩ := invI hw0
        subst es0 ew0
        exact .pi _ _ _ _ _ _ _ _ _ _ _ hm hb hs0
      | idx i1 _ _ hh1 =>
        cases hh1 with
        | nil =>
          obtain ⟨v0, r0, ev0, h0, hds0⟩ := inv1 hds
          subst ev0
          obtain ⟨v1, r1, ev1, h1, hds1⟩ := inv1 hds0
          subst ev1
          have e0 := inv0 hds1
          subst e0
          obtain ⟨s0, ts0, w0, ns0, es0, hs0, hw0⟩ := invT2 h0
          obtain ⟨tw0, ew0⟩ := invI hw0
          subst es0 ew0
          obtain ⟨s1, ts1, w1, ns1, es1, hs1, hw1⟩ := invT2 h1
          obtain ⟨tw1, ew1⟩ := invI hw1
          subst es1 ew1
          exact .pii _ _ _ _ _ _ _ _ _ _ _ _ _ _ _ _ hm hb hs0 hs1
        | idx i9 _ _ _ => simp at z
        | oth x9 _ _ _ _ _ => simp at z
      | oth x1 _ _ _ hx1 hh1 =>
        cases hh1 with
        | nil =>
          obtain ⟨v0, r0, ev0, h0, hds0⟩ := inv1 hds
          subst ev0
          obtain ⟨v1, r1, ev1, h1, hds1⟩ := inv1 hds0
          subst ev1
          have e0 := inv0 hds1
          subst e0
          obtain ⟨s0, ts0, w0, ns0, es0, hs0, hw0⟩ := invT2 h0
          obtain ⟨tw0, ew0⟩ := invI hw0
          subst es0 ew0
          obtain ⟨s1, vs1, ns1, es1, hs1, hw1⟩ := invT h1
          obtain ⟨w1, _, ew1, hw1, _⟩ := inv1 hw1
          obtain ⟨tw1, ef1⟩ := invS hw1
          subst es1 ew1 ef1
          exact .pio _ _ _ _ _ _ _ _ _ _ _ _ _ _ _ _ _ hx1 hm hb hs0 hs1
        | idx i9 _ _ _ => simp at z
        | oth x9 _ _ _ _ _ => simp at z
    | oth x0 _ _ _ hx0 hh0 =>
      cases hh0 with
      | nil =>
        obtain ⟨v0, r0, ev0, h0, hds0⟩ := inv1 hds
        subst ev0
        have e0 := inv0 hds0
        subst e0
        obtain ⟨s0, vs0, ns0, es0, hs0, hw0⟩ := invT h0
        obtain ⟨w0, _, ew0, hw0, _⟩ := inv1 hw0
        obtain ⟨tw0, ef0⟩ := invS hw0
        subst es0 ew0 ef0
        exact .po _ _ _ _ _ _ _ _ _ _ _ _ hx0 hm hb hs0
      | idx i1 _ _ hh1 =>
        cases hh1 with
        | nil =>
          obtain ⟨v0, r0, ev0, h0, hds0⟩ := inv1 hds
          subst ev0
          obtain ⟨v1, r1, ev1, h1, hds1⟩ := inv1 hds0
          subst ev1
          have e0 := inv0 hds1
          subst e0
          obtain ⟨s0, vs0, ns0, es0, hs0, hw0⟩ := invT h0
          obtain ⟨w0, _, ew0, hw0, _⟩ := inv1 hw0
          obtain ⟨tw0, ef0⟩ := invS hw0
          subst es0 ew0 ef0
          obtain ⟨s1, ts1, w1, ns1, es1, hs1, hw1⟩ := invT2 h1
          obtain ⟨tw1, ew1⟩ := invI hw1
          subst es1 ew1
          exact .poi _ _ _ _ _ _ _ _ _ _ _ _ hx0 _ _ _ _ _ hm hb hs0 hs1
        | idx i9 _ _ _ => simp at z
        | oth x9 _ _ _ _ _ => simp at z
      | oth x1 _ _ _ hx1 hh1 =>
        cases hh1 with
        | nil =>
          obtain ⟨v0, r0, ev0, h0, hds0⟩ := inv1 hds
          subst ev0
          obtain ⟨v1, r1, ev1, h1, hds1⟩ := inv1 hds0
          subst ev1
          have e0 := inv0 hds1
          subst e0
          obtain ⟨s0, vs0, ns0, es0, hs0, hw0⟩ := invT h0
          obtain ⟨w0, _, ew0, hw0, _⟩ := inv1 hw0
          obtain ⟨tw0, ef0⟩ := invS hw0
          subst es0 ew0 ef0
          obtain ⟨s1, vs1, ns1, es1, hs1, hw1⟩ := invT h1
          obtain ⟨w1, _, ew1, hw1, _⟩ := inv1 hw1
          obtain ⟨tw1, ef1⟩ := invS hw1
          subst es1 ew1 ef1
          exact .poo _ _ _ _ _ _ _ _ _ _ _ _ hx0 _ _ _ _ _ _ hx1 hm hb hs0 hs1
        | idx i9 _ _ _ => simp at z
        | oth x9 _ _ _ _ _ => simp at z
theorem opA_len {d : Dat} {l : List Dat} (h : OpA d l) : l.length ≤ 1 := by cases h <;> exact Nat.le_of_ble_eq_true rfl
theorem rvA_len {d : Dat} {l : List Dat} (h : RvA d l) : l.length ≤ 2 := by
  cases h with
  | binary d1 d2 l1 l2 o1 o2 | checked d1 d2 l1 l2 o1 o2 | tuple d1 d2 l1 l2 o1 o2 | array d1 d2 l1 l2 o1 o2 | adt d1 d2 l1 l2 o1 o2 => have h1 := opA_len o1; have h2 := opA_len o2; rw [List.length_append]; omega
  | unary d1 l1 o1 | cast d1 l1 o1 | use d1 l1 o1 | box d1 l1 o1 => have h1 := opA_len o1; omega
  | _ => exact Nat.le_of_ble_eq_true rfl
theorem rv_open {tl : List (Addr × Obj)} {r : Value} {d : Dat} {l : List Dat} (h : DatIn tl r (.list [d, .list l])) : ∃ q n v1 q2 vs n2, r = .ref q ∧ (q, listOf [v1, .ref q2].toArray n) ∈ tl ∧ DatIn tl v1 d ∧ (q2, listOf vs.toArray n2) ∈ tl ∧ DatAll tl vs l ∧ vs.length = l.length := by
  obtain ⟨q, vs, n, rfl, hm, h⟩ := invL h
  obtain ⟨v1, _, rfl, h1, h⟩ := inv1 h
  obtain ⟨v2, _, rfl, h2, h⟩ := inv1 h
  obtain rfl := inv0 h
  obtain ⟨q2, vs, n2, rfl, hm2, h2⟩ := invL h2
  exact ⟨q, n, v1, q2, vs, n2, rfl, hm, h1, hm2, h2, h2.length⟩
end
section
theorem mem2 {α : Type} {r a b : α} (h : r ∈ [a, b]) : r = a ∨ r = b := by simpa using h
theorem mem3 {α : Type} {r a b c : α} (h : r ∈ [a, b, c]) : r = a ∨ r = b ∨ r = c := by simpa using h
theorem mem5 {α : Type} {r a b c d e : α} (h : r ∈ [a, b, c, d, e]) : r = a ∨ r = b ∨ r = c ∨ r = d ∨ r = e := by simpa using h
section
variable {prog : Program} {w : World} {f : Addr} {nd nu : Nat} {vs : List Value} {rest led : List (Addr × Obj)} {mean : ExcName → Option Value} {mg mb : Str → Option Value} {dp un : Nat} {gd : Option (List Code)} {cn : Str} {cs : Scope} {a : Addr} {ccd : Value} {cl : List (Str × Addr)} {outer : List Env} {A₀ : Around} {base h₀ : Heap} {L : Addr} {m : Str → Option Value} {hp : Heap} {sg : Array GenState} {sd : PySem.Drawn} {st : Nat} {so : OsState} {Q E : Value → Shared → Prop} {src : Addr} {n0 : Nat} {a0 b0 : Int} {t0 u0 : Tok}
/-- a draw -/
theorem Ctr.useT {k : Int} (B : Below A₀ base outer h₀) (F : Fr h₀ L hp m) (X : (hd.heap_1 w.params).In h₀) (N : News h₀ L hp led) (T : Top hd.view_39 (looseW hd.view_39 []) mean mg mb h₀) (hpk : Pick (src, srcObj a0 b0 t0 u0 n0) led rest) (hck : cs.kind = .function)
    (hd : dp + nd < recursionLimit) (hu : un + nu < cLine)
    (C : Ctr prog w f nd nu vs ((src, srcObj a0 b0 t0 u0 n0) :: rest) (fun r news' => ∃ i a' b' t' u' tk', 0 ≤ i ∧ i < k ∧ Bnd b' ∧ r = .int i tk' ∧ news' = (src, srcObj a' b' t' u' n0) :: rest))
    (ret : ∀ i a' b' t' u' tk h' tk', 0 ≤ i → i < k → Bnd b' → Fr h₀ L h' m → News h₀ L h' ((src, srcObj a' b' t' u' n0) :: rest) → Q (.int i tk) { heap := h', gens := sg, drawn := sd, toks := tk', os := so }) :
    wpAny (model prog w) (ktrTop dp un gd cn cs L a ccd cl outer) (call (.ref f) vs) Q E { heap := hp, gens := sg, drawn := sd, toks := st, os := so } :=
  Ctr.useP B F X N hpk T hck hd hu C fun r n h' tk' F' N' ⟨i, a', b', t', u', tk, h1, h2, h3, h4, h5⟩ => by
    subst h4 h5; exact ret i a' b' t' u' tk h' tk' h1 h2 h3 F' N'
/-- one of things -/
theorem Ctr.useO {ws : List Value} (B : Below A₀ base outer h₀) (F : Fr h₀ L hp m) (X : (hd.heap_1 w.params).In h₀) (N : News h₀ L hp led) (T : Top hd.view_39 (looseW hd.view_39 []) mean mg mb h₀) (hpk : Pick (src, srcObj a0 b0 t0 u0 n0) led rest) (hck : cs.kind = .function)
    (hd : dp + nd < recursionLimit) (hu : un + nu < cLine)
    (C : Ctr prog w f nd nu vs ((src, srcObj a0 b0 t0 u0 n0) :: rest) (fun r news' => ∃ a' b' t' u', Bnd b' ∧ r ∈ ws ∧ news' = (src, srcObj a' b' t' u' n0) :: rest))
    (ret : ∀ r a' b' t' u' h' tk', Bnd b' → r ∈ ws → Fr h₀ L h' m → News h₀ L h' ((src, srcObj a' b' t' u' n0) :: rest) → Q r { heap := h', gens := sg, drawn := sd, toks := tk', os := so }) :
    wpAny (model prog w) (ktrTop dp un gd cn cs L a ccd cl outer) (call (.ref f) vs) Q E { heap := hp, gens := sg, drawn := sd, toks := st, os := so } :=
  Ctr.useP B F X N hpk T hck hd hu C fun r n h' tk' F' N' ⟨a', b', t', u', h3, h4, h5⟩ => by
    subst h5; exact ret r a' b' t' u' h' tk' h3 h4 F' N'
theorem Ctr.useO2 {v1 v2 : Value} (B : Below A₀ base outer h₀) (F : Fr h₀ L hp m) (X : (hd.heap_1 w.params).In h₀) (N : News h₀ L hp led) (T : Top hd.view_39 (looseW hd.view_39 []) mean mg mb h₀) (hpk : Pick (src, srcObj a0 b0 t0 u0 n0) led rest) (hck : cs.kind = .function)
    (hd : dp + nd < recursionLimit) (hu : un + nu < cLine)
    (C : Ctr prog w f nd nu vs ((src, srcObj a0 b0 t0 u0 n0) :: rest) (fun r news' => ∃ a' b' t' u', Bnd b' ∧ r ∈ [v1, v2] ∧ news' = (src, srcObj a' b' t' u' n0) :: rest))
    (ret1 : ∀ a' b' t' u' h' tk', Bnd b' → Fr h₀ L h' m → News h₀ L h' ((src, srcObj a' b' t' u' n0) :: rest) → Q v1 { heap := h', gens := sg, drawn := sd, toks := tk', os := so })
    (ret2 : ∀ a' b' t' u' h' tk', Bnd b' → Fr h₀ L h' m → News h₀ L h' ((src, srcObj a' b' t' u' n0) :: rest) → Q v2 { heap := h', gens := sg, drawn := sd, toks := tk', os := so }) :
    wpAny (model prog w) (ktrTop dp un gd cn cs L a ccd cl outer) (call (.ref f) vs) Q E { heap := hp, gens := sg, drawn := sd, toks := st, os := so } :=
  Ctr.useO B F X N T hpk hck hd hu C fun r a' b' t' u' h' tk' h3 h4 F' N' => by
    rcases mem2 h4 with h | h <;> subst h
    · exact ret1 a' b' t' u' h' tk' h3 F' N'
    · exact ret2 a' b' t' u' h' tk' h3 F' N'
theorem Ctr.useO3 {v1 v2 v3 : Value} (B : Below A₀ base outer h₀) (F : Fr h₀ L hp m) (X : (hd.heap_1 w.params).In h₀) (N : News h₀ L hp led) (T : Top hd.view_39 (looseW hd.view_39 []) mean mg mb h₀) (hpk : Pick (src, srcObj a0 b0 t0 u0 n0) led rest) (hck : cs.kind = .function)
    (hd : dp + nd < recursionLimit) (hu : un + nu < cLine)
    (C : Ctr prog w f nd nu vs ((src, srcObj a0 b0 t0 u0 n0) :: rest) (fun r news' => ∃ a' b' t' u', Bnd b' ∧ r ∈ [v1, v2, v3] ∧ news' = (src, srcObj a' b' t' u' n0) :: rest))
    (ret1 : ∀ a' b' t' u' h' tk', Bnd b' → Fr h₀ L h' m → News h₀ L h' ((src, srcObj a' b' t' u' n0) :: rest) → Q v1 { heap := h', gens := sg, drawn := sd, toks := tk', os := so })
    (ret2 : ∀ a' b' t' u' h' tk', Bnd b' → Fr h₀ L h' m → News h₀ L h' ((src, srcObj a' b' t' u' n0) :: rest) → Q v2 { heap := h', gens := sg, drawn := sd, toks := tk', os := so })
    (ret3 : ∀ a' b' t' u' h' tk', Bnd b' → Fr h₀ L h' m → News h₀ L h' ((src, srcObj a' b' t' u' n0) :: rest) → Q v3 { heap := h', gens := sg, drawn := sd, toks := tk', os := so }) :
    wpAny (model prog w) (ktrTop dp un gd cn cs L a ccd cl outer) (call (.ref f) vs) Q E { heap := hp, gens := sg, drawn := sd, toks := st, os := so } :=
  Ctr.useO B F X N T hpk hck hd hu C fun r a' b' t' u' h' tk' h3 h4 F' N' => by
    rcases mem3 h4 with h | h | h <;> subst h
    · exact ret1 a' b' t' u' h' tk' h3 F' N'
    · exact ret2 a' b' t' u' h' tk' h3 F' N'
    · exact ret3 a' b' t' u' h' tk' h3 F' N'
/-- a drawn datum -/
theorem Ctr.useD1 {R : Dat → Prop} (B : Below A₀ base outer h₀) (F : Fr h₀ L hp m) (X : (hd.heap_1 w.params).In h₀) (N : News h₀ L hp led) (T : Top hd.view_39 (looseW hd.view_39 []) mean mg mb h₀) (hpk : Pick (src, srcObj a0 b0 t0 u0 n0) led rest) (hck : cs.kind = .function)
    (hd : dp + nd < recursionLimit) (hu : un + nu < cLine)
    (C : Ctr prog w f nd nu vs ((src, srcObj a0 b0 t0 u0 n0) :: rest) (Drawn src n0 rest fun tl r => ∃ d, DatIn tl r d ∧ R d))
    (ret : ∀ r a' b' t' u' tl d h' tk', Bnd b' → Abv ((src, srcObj a' b' t' u' n0) :: rest) tl → DatIn tl r d → R d → Fr h₀ L h' m → News h₀ L h' ((src, srcObj a' b' t' u' n0) :: (tl ++ rest)) → Q r { heap := h', gens := sg, drawn := sd, toks := tk', os := so }) :
    wpAny (model prog w) (ktrTop dp un gd cn cs L a ccd cl outer) (call (.ref f) vs) Q E { heap := hp, gens := sg, drawn := sd, toks := st, os := so } :=
  Ctr.useP B F X N hpk T hck hd hu C fun r n h' tk' F' N' D => by
    obtain ⟨a', b', t', u', tl, _, hb, ha, d, hd, sd⟩ := D
    exact ret r a' b' t' u' tl d h' tk' hb ha hd sd F' N'
/-- a drawn datum with its accesses -/
theorem Ctr.useD2 {R : Dat → List Dat → Prop} (B : Below A₀ base outer h₀) (F : Fr h₀ L hp m) (X : (hd.heap_1 w.params).In h₀) (N : News h₀ L hp led) (T : Top hd.view_39 (looseW hd.view_39 []) mean mg mb h₀) (hpk : Pick (src, srcObj a0 b0 t0 u0 n0) led rest) (hck : cs.kind = .function)
    (hd : dp + nd < recursionLimit) (hu : un + nu < cLine)
    (C : Ctr prog w f nd nu vs ((src, srcObj a0 b0 t0 u0 n0) :: rest) (Drawn src n0 rest fun tl r => ∃ d l, DatIn tl r d ∧ R d l))
    (ret : ∀ r a' b' t' u' tl d l h' tk', Bnd b' → Abv ((src, srcObj a' b' t' u' n0) :: rest) tl → DatIn tl r d → R d l → Fr h₀ L h' m → News h₀ L h' ((src, srcObj a' b' t' u' n0) :: (tl ++ rest)) → Q r { heap := h', gens := sg, drawn := sd, toks := tk', os := so }) :
    wpAny (model prog w) (ktrTop dp un gd cn cs L a ccd cl outer) (call (.ref f) vs) Q E { heap := hp, gens := sg, drawn := sd, toks := st, os := so } :=
  Ctr.useP B F X N hpk T hck hd hu C fun r n h' tk' F' N' D => by
    obtain ⟨a', b', t', u', tl, _, hb, ha, d, l, hd, sd⟩ := D
    exact ret r a' b' t' u' tl d l h' tk' hb ha hd sd F' N'
/-- a list that was given back -/
theorem Ctr.useG {z : Nat} {sub : List (Addr × Obj)} {l : List Dat} (B : Below A₀ base outer h₀) (F : Fr h₀ L hp m) (X : (hd.heap_1 w.params).In h₀) (N : News h₀ L hp led) (T : Top hd.view_39 (looseW hd.view_39 []) mean mg mb h₀) (hck : cs.kind = .function)
    (hd : dp + nd < recursionLimit) (hu : un + nu < cLine)
    (C : Ctr prog w f nd nu vs led (Gave led fun tl r => ListIn z sub tl r l))
    (ret : ∀ tl q ws n h' tk', Abv led tl → (q, listOf ws.toArray n) ∈ tl → DatAll (tl ++ sub) ws l → ws.length ≤ z → Fr h₀ L h' m → News h₀ L h' (tl ++ led) → Q (.ref q) { heap := h', gens := sg, drawn := sd, toks := tk', os := so }) :
    wpAny (model prog w) (ktrTop dp un gd cn cs L a ccd cl outer) (call (.ref f) vs) Q E { heap := hp, gens := sg, drawn := sd, toks := st, os := so } :=
  Ctr.useA B F X N T hck hd hu C fun r n h' tk' F' N' D => by
    obtain ⟨tl, _, ha, q, ws, n, e, hm, hv, hz⟩ := D
    subst e
    exact ret tl q ws n h' tk' ha hm hv hz F' N'
end
section
variable {M : Model} {A : Around} {E : Value → Shared → Prop} {h₀ : Heap} {L : Addr} {m : Str → Option Value} {news : List (Addr × Obj)} {hp : Heap} {sg : Array GenState} {sd : PySem.Drawn} {st : Nat} {so : OsState}
theorem led_newListX {vs : List Value} {Q : Value → Shared → Prop} (F : Fr h₀ L hp m) (N : News h₀ L hp news) (hz : vs.length ≤ 1000)
    (h : ∀ l h', Fr h₀ L h' m → News h₀ L h' ((l, listOf vs.toArray 0) :: news) → AllLt l news → Q (.ref l) { heap := h', gens := sg, drawn := sd, toks := st, os := so }) : wpAny M A (newList vs) Q E { heap := hp, gens := sg, drawn := sd, toks := st, os := so } :=
  led_newList F N hz fun l h' F' N' k => h l h' F' N' (allLt_of k)
theorem led_newTupleX {vs : List Value} {Q : Value → Shared → Prop} (F : Fr h₀ L hp m) (N : News h₀ L hp news) (hz : vs.length ≤ 1000)
    (h : ∀ l h', Fr h₀ L h' m → News h₀ L h' ((l, tupOf vs 0) :: news) → AllLt l news → Q (.ref l) { heap := h', gens := sg, drawn := sd, toks := st, os := so }) : wpAny M A (newTuple vs) Q E { heap := hp, gens := sg, drawn := sd, toks := st, os := so } :=
  led_newTuple F N hz fun l h' F' N' k => h l h' F' N' (allLt_of k)
end
section
variable {prog : Program} {w : World} {A : Around} {E : Value → Shared → Prop} {h₀ : Heap} {L : Addr} {m : Str → Option Value} {news : List (Addr × Obj)} {n n2 : Nat} {hp : Heap} {sg : Array GenState} {sd : PySem.Drawn} {st : Nat} {so : OsState}
theorem led_extendX {D b : Addr} {vs vs2 : List Value} {rest : List (Addr × Obj)} {Q : Value → Shared → Prop} (F : Fr h₀ L hp m) (N : News h₀ L hp news) (hb : (b, listOf vs2.toArray n2) ∈ news)
    (hpk : Pick (D, listOf vs.toArray n) news rest) (off : Off D rest) (hz : vs.length + vs2.length ≤ 1000)
    (h : ∀ h' n', Fr h₀ L h' m → News h₀ L h' ((D, listOf (vs ++ vs2).toArray n') :: rest) → Q .none { heap := h', gens := sg, drawn := sd, toks := st, os := so }) : wpAny (model prog w) A (call (.builtin "list.extend") [.ref D, .ref b]) Q E { heap := hp, gens := sg, drawn := sd, toks := st, os := so } :=
  led_extend F N hb hpk off hz h
theorem led_addX {a b : Addr} {vs vs2 : List Value} {Q : Value → Shared → Prop} (F : Fr h₀ L hp m) (N : News h₀ L hp news) (ha : (a, listOf vs.toArray n) ∈ news) (hb : (b, listOf vs2.toArray n2) ∈ news) (hz : vs.length + vs2.length ≤ 1000)
    (h : ∀ D h', Fr h₀ L h' m → News h₀ L h' ((D, listOf (vs ++ vs2).toArray 0) :: news) → AllLt D news → Q (.ref D) { heap := h', gens := sg, drawn := sd, toks := st, os := so }) : wpAny (model prog w) A (binaryOp .Add (.ref a) (.ref b)) Q E { heap := hp, gens := sg, drawn := sd, toks := st, os := so } :=
  led_add F N ha hb hz fun l h' F' N' k => h l h' F' N' (allLt_of k)
end
/-- r stands in l as a part -/
inductive Has (r : List (Addr × Obj)) : List (Addr × Obj) → Prop
  | self : Has r r
  | here {q} : Has r (r ++ q)
  | cons {x l} : Has r l → Has r (x :: l)
  | app {q l} : Has r l → Has r (q ++ l)
theorem Has.sub {r l : List (Addr × Obj)} (h : Has r l) : ∀ p ∈ r, p ∈ l := by
  induction h with
  | self => exact fun _ h => h
  | here => exact fun _ h => List.mem_append_left _ h
  | cons _ ih => exact fun p hp => List.mem_cons_of_mem _ (ih p hp)
  | app _ ih => exact fun p hp => List.mem_append_right _ (ih p hp)
theorem Off.has {x : Addr} {l r : List (Addr × Obj)} (h : Off x l) (k : Has r l) : Off x r := ⟨fun p hp => h.ne p (k.sub p hp)⟩
theorem Off.hasLt {x : Addr} {l r : List (Addr × Obj)} (h : AllLt x l) (k : Has r l) : Off x r := (Off.of_lt h).has k
theorem ne_lt1 {x y : Addr} {o : Obj} {l : List (Addr × Obj)} (h : AllLt y l) (m : (x, o) ∈ l) : x ≠ y := Nat.ne_of_lt (allLt_mem h _ m)
theorem ne_lt2 {x y : Addr} {o : Obj} {l : List (Addr × Obj)} (h : AllLt y l) (m : (x, o) ∈ l) : y ≠ x := Ne.symm (ne_lt1 h m)
theorem ne_off1 {x y : Addr} {o : Obj} {l : List (Addr × Obj)} (h : Off y l) (m : (x, o) ∈ l) : x ≠ y := h.ne _ m
theorem ne_off2 {x y : Addr} {o : Obj} {l : List (Addr × Obj)} (h : Off y l) (m : (x, o) ∈ l) : y ≠ x := Ne.symm (h.ne _ m)
theorem Abv.has {l r tl : List (Addr × Obj)} (h : Abv l tl) (k : Has r l) : Abv r tl := fun p hp => (h p hp).has k
theorem Abv.via {src : Addr} {o o' : Obj} {l r tl : List (Addr × Obj)} (h : Abv l tl) (m : (src, o') ∈ l) (k : Has r l) : Abv ((src, o) :: r) tl :=
  fun p hp => Off.cons ((h p hp).ne (src, o') m) ((h p hp).has k)
theorem sub_app2 {x y l : List (Addr × Obj)} (h : ∀ p ∈ x, p ∈ l) (k : ∀ p ∈ y, p ∈ l) : ∀ p ∈ x ++ y, p ∈ l := fun _ hp => (List.mem_append.mp hp).elim (h _) (k _)
theorem sub_cons2 {q : Addr × Obj} {y l : List (Addr × Obj)} (h : q ∈ l) (k : ∀ p ∈ y, p ∈ l) : ∀ p ∈ q :: y, p ∈ l := List.forall_mem_cons.mpr ⟨h, k⟩
theorem sub_nil2 {l : List (Addr × Obj)} : ∀ p ∈ ([] : List (Addr × Obj)), p ∈ l := fun _ h => nomatch h
theorem sub_up {x y l : List (Addr × Obj)} (h : ∀ p ∈ x, p ∈ y) (k : Has y l) : ∀ p ∈ x, p ∈ l := fun p hp => k.sub p (h p hp)
theorem sub_right2 {x l : List (Addr × Obj)} : ∀ p ∈ x, p ∈ l ++ x := fun _ hp => List.mem_append_right _ hp
theorem sub_left2 {x l r : List (Addr × Obj)} (h : ∀ p ∈ x, p ∈ l) : ∀ p ∈ x, p ∈ l ++ r := fun p hp => List.mem_append_left _ (h p hp)
end
section
section
variable {prog : Program} {w : World} {f : Addr} {nd nu : Nat} {vs : List Value} {rest led : List (Addr × Obj)} {mean : ExcName → Option Value} {mg mb : Str → Option Value} {dp un : Nat} {gd : Option (List Code)} {cn : Str} {cs : Scope} {a : Addr} {ccd : Value} {cl : List (Str × Addr)} {outer : List Env} {A₀ : Around} {base h₀ : Heap} {L : Addr} {m : Str → Option Value} {hp : Heap} {sg : Array GenState} {sd : PySem.Drawn} {st : Nat} {so : OsState} {Q E : Value → Shared → Prop} {src : Addr} {n0 : Nat} {a0 b0 : Int} {t0 u0 : Tok}
/-- a list of a datum and its accesses -/
theorem Ctr.useR {R : Dat → List Dat → Prop} (B : Below A₀ base outer h₀) (F : Fr h₀ L hp m) (X : (hd.heap_1 w.params).In h₀) (N : News h₀ L hp led) (T : Top hd.view_39 (looseW hd.view_39 []) mean mg mb h₀) (hpk : Pick (src, srcObj a0 b0 t0 u0 n0) led rest) (hck : cs.kind = .function)
    (hd : dp + nd < recursionLimit) (hu : un + nu < cLine)
    (C : Ctr prog w f nd nu vs ((src, srcObj a0 b0 t0 u0 n0) :: rest) (Drawn src n0 rest fun tl r => ∃ d l, DatIn tl r (.list [d, .list l]) ∧ R d l))
    (ret : ∀ a' b' t' u' tl d l q n v1 q2 ws n2 h' tk', Bnd b' → Abv ((src, srcObj a' b' t' u' n0) :: rest) tl → R d l → (q, listOf [v1, .ref q2].toArray n) ∈ tl → DatIn tl v1 d → (q2, listOf ws.toArray n2) ∈ tl → DatAll tl ws l → ws.length = l.length → Fr h₀ L h' m → News h₀ L h' ((src, srcObj a' b' t' u' n0) :: (tl ++ rest)) → Q (.ref q) { heap := h', gens := sg, drawn := sd, toks := tk', os := so }) :
    wpAny (model prog w) (ktrTop dp un gd cn cs L a ccd cl outer) (call (.ref f) vs) Q E { heap := hp, gens := sg, drawn := sd, toks := st, os := so } :=
  Ctr.useP B F X N hpk T hck hd hu C fun r n h' tk' F' N' D => by
    obtain ⟨a', b', t', u', tl, _, hb, ha, d, l, hd, sd⟩ := D
    obtain ⟨q, n, v1, q2, ws, n2, e, h1, h2, h3, h4, h5⟩ := rv_open hd
    subst e
    exact ret a' b' t' u' tl d l q n v1 q2 ws n2 h' tk' hb ha sd h1 h2 h3 h4 h5 F' N'
end
section
variable {prog : Program} {w : World} {A : Around} {E : Value → Shared → Prop} {s : Shared} {h₀ : Heap} {L : Addr} {m : Str → Option Value} {env : Env}
theorem comp_int {elt : PySem.Expr} {x : Str} {scope : Scope} {cl : List (Str × Addr)} {S : List (Addr × Obj) → Prop} {Fin : List Value → List (Addr × Obj) → Prop} {k i : Nat} {ys : List Value} {news : List (Addr × Obj)} {a₀ : Int}
    (h : ∀ t I oI C oC D m₂ h tk (E' : Value → Shared → Prop), LCg.NsObj oC m₂ → m₂ x = some (.int (a₀ + (i : Int)) t) → Fr h₀ L h m → News h₀ L h ((I, oI) :: (C, oC) :: (D, LCg.lst ys) :: news) → LCg.Off3 I C D news → @Ne Nat I C → @Ne Nat I D → @Ne Nat C D →
      wpAny (model prog w) A (eval elt (compEnvC scope cl C env)) (LCg.CompEnd h₀ L m { s with heap := h, toks := tk } I oI C oC D (LCg.lst ys) S (fun y news' => LCg.CompRest prog w A h₀ L m env elt x scope cl s S (fun i v => ∃ t, v = .int (a₀ + (i : Int)) t) Fin k (i + 1) (ys ++ [y]) news')) E' { s with heap := h, toks := tk }) :
    LCg.CompRest prog w A h₀ L m env elt x scope cl s S (fun i v => ∃ t, v = .int (a₀ + (i : Int)) t) Fin (k + 1) i ys news :=
  LCg.CompRest.succ fun v I oI C oC D m₂ hh tk E' hv hC hx F N off ne => by
    obtain ⟨t, e⟩ := hv
    subst e
    exact h t I oI C oC D m₂ hh tk E' hC hx F N off ne.1 ne.2.1 ne.2.2
theorem comp_at {elt : PySem.Expr} {x : Str} {scope : Scope} {cl : List (Str × Addr)} {S : List (Addr × Obj) → Prop} {Fin : List Value → List (Addr × Obj) → Prop} {k i : Nat} {ys : List Value} {news : List (Addr × Obj)} {its : Array Value} {v₀ : Value} (e : its[i]? = some v₀)
    (h : ∀ I oI C oC D m₂ h tk (E' : Value → Shared → Prop), LCg.NsObj oC m₂ → m₂ x = some v₀ → Fr h₀ L h m → News h₀ L h ((I, oI) :: (C, oC) :: (D, LCg.lst ys) :: news) → LCg.Off3 I C D news → @Ne Nat I C → @Ne Nat I D → @Ne Nat C D →
      wpAny (model prog w) A (eval elt (compEnvC scope cl C env)) (LCg.CompEnd h₀ L m { s with heap := h, toks := tk } I oI C oC D (LCg.lst ys) S (fun y news' => LCg.CompRest prog w A h₀ L m env elt x scope cl s S (fun i v => its[i]? = some v) Fin k (i + 1) (ys ++ [y]) news')) E' { s with heap := h, toks := tk }) :
    LCg.CompRest prog w A h₀ L m env elt x scope cl s S (fun i v => its[i]? = some v) Fin (k + 1) i ys news :=
  LCg.CompRest.succ fun v I oI C oC D m₂ hh tk E' hv hC hx F N off ne => by
    rw [e] at hv
    cases hv
    exact h I oI C oC D m₂ hh tk E' hC hx F N off ne.1 ne.2.1 ne.2.2
theorem compT_int {ct : PySem.Expr} {elt : PySem.Expr} {x : Str} {scope : Scope} {cl : List (Str × Addr)} {S : List (Addr × Obj) → Prop} {Fin : List Value → List (Addr × Obj) → Prop} {k i : Nat} {ys : List Value} {news : List (Addr × Obj)} {a₀ : Int}
    (h : ∀ t I oI C oC D m₂ h tk (E' : Value → Shared → Prop), LCg.NsObj oC m₂ → m₂ x = some (.int (a₀ + (i : Int)) t) → Fr h₀ L h m → News h₀ L h ((I, oI) :: (C, oC) :: (D, LCg.lst ys) :: news) → LCg.Off3 I C D news → @Ne Nat I C → @Ne Nat I D → @Ne Nat C D →
      wpAny (model prog w) A (isTrue ct (compEnvC scope cl C env) (eval ct (compEnvC scope cl C env))) (fun ok s' => if ok = true then
        wpAny (model prog w) A (eval elt (compEnvC scope cl C env)) (LCg.CompEnd h₀ L m { s with heap := h, toks := tk } I oI C oC D (LCg.lst ys) S (fun y news' => LCt.CompRestT prog w A h₀ L m env ct elt x scope cl s S (fun i v => ∃ t, v = .int (a₀ + (i : Int)) t) Fin k (i + 1) (ys ++ [y]) news')) E' s'
        else LCg.CompEnd h₀ L m { s with heap := h, toks := tk } I oI C oC D (LCg.lst ys) S (fun _ news' => LCt.CompRestT prog w A h₀ L m env ct elt x scope cl s S (fun i v => ∃ t, v = .int (a₀ + (i : Int)) t) Fin k (i + 1) ys news') Value.none s') E' { s with heap := h, toks := tk }) :
    LCt.CompRestT prog w A h₀ L m env ct elt x scope cl s S (fun i v => ∃ t, v = .int (a₀ + (i : Int)) t) Fin (k + 1) i ys news :=
  LCt.CompRestT.succ fun v I oI C oC D m₂ hh tk E' hv hC hx F N off ne => by
    obtain ⟨t, e⟩ := hv
    subst e
    exact h t I oI C oC D m₂ hh tk E' hC hx F N off ne.1 ne.2.1 ne.2.2
theorem compT_at {ct : PySem.Expr} {elt : PySem.Expr} {x : Str} {scope : Scope} {cl : List (Str × Addr)} {S : List (Addr × Obj) → Prop} {Fin : List Value → List (Addr × Obj) → Prop} {k i : Nat} {ys : List Value} {news : List (Addr × Obj)} {its : Array Value} {v₀ : Value} (e : its[i]? = some v₀)
    (h : ∀ I oI C oC D m₂ h tk (E' : Value → Shared → Prop), LCg.NsObj oC m₂ → m₂ x = some v₀ → Fr h₀ L h m → News h₀ L h ((I, oI) :: (C, oC) :: (D, LCg.lst ys) :: news) → LCg.Off3 I C D news → @Ne Nat I C → @Ne Nat I D → @Ne Nat C D →
      wpAny (model prog w) A (isTrue ct (compEnvC scope cl C env) (eval ct (compEnvC scope cl C env))) (fun ok s' => if ok = true then
        wpAny (model prog w) A (eval elt (compEnvC scope cl C env)) (LCg.CompEnd h₀ L m { s with heap := h, toks := tk } I oI C oC D (LCg.lst ys) S (fun y news' => LCt.CompRestT prog w A h₀ L m env ct elt x scope cl s S (fun i v => its[i]? = some v) Fin k (i + 1) (ys ++ [y]) news')) E' s'
        else LCg.CompEnd h₀ L m { s with heap := h, toks := tk } I oI C oC D (LCg.lst ys) S (fun _ news' => LCt.CompRestT prog w A h₀ L m env ct elt x scope cl s S (fun i v => its[i]? = some v) Fin k (i + 1) ys news') Value.none s') E' { s with heap := h, toks := tk }) :
    LCt.CompRestT prog w A h₀ L m env ct elt x scope cl s S (fun i v => its[i]? = some v) Fin (k + 1) i ys news :=
  LCt.CompRestT.succ fun v I oI C oC D m₂ hh tk E' hv hC hx F N off ne => by
    rw [e] at hv
    cases hv
    exact h I oI C oC D m₂ hh tk E' hC hx F N off ne.1 ne.2.1 ne.2.2
end
end
section
def bodyOf : Stmt → List Stmt
  | .FunctionDef _ _ b _ _ _ _ _ _ _ => b
  | .For _ _ b _ _ => b
  | _ => []
def scopeOf : Stmt → Option Scope
  | .FunctionDef _ _ _ _ _ _ sc _ _ _ => some sc
  | _ => none
/-- the text's last def: the law -/
def lawDef : List Stmt := PySem.Challenge.pw_ot0005_01.main.body.drop 27
/-- the body of the law's loop over the script -/
def lawTurn : List Stmt := match lawDef with
  | s :: _ => match bodyOf s with
    | _ :: _ :: _ :: _ :: f :: _ => bodyOf f
    | _ => []
  | _ => []
def lawScope : Scope := match lawDef with
  | s :: _ => match scopeOf s with
    | some sc => sc
    | none => { kind := .function, names := [], isGenerator := false, isCoroutine := false }
  | _ => { kind := .function, names := [], isGenerator := false, isCoroutine := false }
/-- what the loop's turns need of the law's names -/
structure LawM (m : Str → Option Value) (sc rowsA : Addr) (tm : Tok) : Prop where
  script : m (Str.ofString "script") = some (.ref sc)
  many : m (Str.ofString "many") = some (.int 5 tm)
  rows : m (Str.ofString "rows") = some (.ref rowsA)
theorem unrw_end2 {h₀ : Heap} {L I1 I2 : Addr} {it1 it2 : Obj} {keep : List (Addr × Obj)} {rest : (Str → Option Value) → List (Addr × Obj) → Prop} {s₁ : Shared} {h' : Heap} {tk : Nat} {m' : Str → Option Value} {all r1 r : List (Addr × Obj)} (F : Fr h₀ L h' m') (N : News h₀ L h' all)
    (hp1 : Pick (I1, it1) all r1) (hp : Pick (I2, it2) r1 r) (off1 : Off I1 r) (off : Off I2 r) (hk : SubL keep r) (k : rest m' r) : UnrEndW h₀ L s₁ [(I1, it1), (I2, it2)] (fun m' n' => SubL keep n' ∧ rest m' n') { s₁ with heap := h', toks := tk } :=
  ⟨h', tk, m', r, rfl, F, fun p hq => by
    rcases List.mem_cons.mp hq with rfl | hq
    · exact N _ (hp1.sub _ List.mem_cons_self)
    · exact N p (hp1.sub p (List.mem_cons_of_mem _ (hp.sub p hq))), fun p hp q hq => by
    rcases List.mem_cons.mp hq with rfl | hq
    · exact off1.ne p hp
    · rw [List.mem_singleton.mp hq]; exact off.ne p hp, hk, k⟩
section
variable {prog : Program} {w : World} {A : Around} {E : Value → Shared → Prop} {s : Shared} {env : Env} {h₀ : Heap} {body : List Stmt} {Q : Flow → Shared → Prop}
theorem turns_enum {elts : List PySem.Expr} {k : Nat} {pos : Pos} {l : Addr} {vs : List Value} {n : Nat} {m₀ : Str → Option Value} {news : List (Addr × Obj)}
    (hh : A.handled = none) (F : Fr h₀ env.locals s.heap m₀) (N : News h₀ env.locals s.heap news) (hm : (l, listOf vs.toArray n) ∈ news)
    (rest₀ : ∀ I : Addr, (∀ p ∈ news, p.1 < I) → ItemsRest prog w A E h₀ env (.Tuple elts k pos) body Q s [(I + 1, "enumerate"), (I, "list_iterator")] [(l, listOf vs.toArray n)] (enumItems 0 vs) m₀ news) :
    wpAny (model prog w) A (call (.type "enumerate") [.ref l]) (fun xv s₁ => wpAny (model prog w) A (pyIter xv) (fun it s₂ => TurnsAt prog w A h₀ env (.Tuple elts k pos) body Q E it s₂) E s₁) E s := ktu_enum hh F N hm rfl rfl rfl rest₀
end
end
section
open PyProof.Rows.LCg PyProof.Rows.LCp
/-- each of vs is a list of two of the ledger, whose firsts are fs -/
inductive Pairs (news : List (Addr × Obj)) : List Value → List Value → Prop
  | nil : Pairs news [] []
  | cons {q : Addr} {f g : Value} {n : Nat} {vs fs : List Value} (h : (q, listOf [f, g].toArray n) ∈ news) (r : Pairs news vs fs) : Pairs news (.ref q :: vs) (f :: fs)
theorem Pairs.get {news : List (Addr × Obj)} {vs fs : List Value} (p : Pairs news vs fs) : ∀ {i : Nat} {v : Value}, vs[i]? = some v → ∃ q f g n, v = .ref q ∧ (q, listOf [f, g].toArray n) ∈ news ∧ fs[i]? = some f := by
  induction p with
  | nil => intro i v h; simp at h
  | cons h r ih =>
    intro i v e
    cases i with
    | zero => simp at e; subst e; exact ⟨_, _, _, _, rfl, h, rfl⟩
    | succ i => exact ih (by simpa using e)
theorem Pairs.len {news : List (Addr × Obj)} {vs fs : List Value} (p : Pairs news vs fs) : vs.length = fs.length := by
  induction p with
  | nil => rfl
  | cons _ _ ih => simp [ih]
section
variable {prog : Program} {w : World} {A : Around} {E : Value → Shared → Prop} {s : Shared} {h₀ : Heap} {L : Addr} {m : Str → Option Value} {env : Env}
theorem unpack_raw {elts : List PySem.Expr} {k : Nat} {pos : Pos} {l : Addr} {items : Array Value} {Q : Unit → Shared → Prop} (hh : A.handled = none) (hl : s.heap.IsList l items) (hn : (assignEach elts env).length = items.size)
    (hstar : (assignEach elts env).findIdx? (·.1) = none) (h : ∀ h', Heap.ExtBut s.heap.objs.size s.heap h' → wpAny (model prog w) A (assignInOrder ((assignEach elts env).map (·.2)) items.toList) Q E { s with heap := h' }) :
    wpAny (model prog w) A (assign (.Tuple elts k pos) env (.ref l)) Q E s := by
  rw [assign_Tuple]
  refine wpAny_bind (wpAny_standAt ?_)
  unfold unpack
  rw [hn, hstar]
  exact wpAny_bind (wpAny_holding (kun_itemsOf hh hl h))
/-- «[x for x, y in l]» over a list of lists of two -/
theorem firsts_block {iter : PySem.Expr} {x y : Str} {pe px py tp : Pos} {tk} {scope : Scope} {pos : Pos} {s₂ : Shared} {ax I : Addr} {vs fs : List Value} {n : Nat} {news : List (Addr × Obj)} {RR : Value → Addr → Result → Shared → Prop}
    (hh : A.handled = none) (hcell : ∀ y ∈ scope.names, y.2 ≠ .cell) (hkind : scope.kind = .function) (hx : scope.names.lookup x = some .local) (hy : scope.names.lookup y = some .local) (hxy : x ≠ y) (hdb : (x == ("__debug__" : Str)) = false)
    (F : Fr h₀ L s₂.heap m) (N : News h₀ L s₂.heap news) (hm : (ax, listOf vs.toArray n) ∈ news) (hz : vs.length ≤ 1000) (P : Pairs news vs fs) (hI : s₂.heap.IsListIter I ax 0) (hIL : L ≠ I) (hI₀ : h₀.get? I = none) (off : ∀ p ∈ news, p.1 ≠ I)
    (hRR : ∀ D C h tk m', Fr h₀ L h m → News h₀ L h ((D, lst fs) :: news) → (∀ p ∈ news, p.1 ≠ D) → h.Ns C m' → h₀.get? C = none → C ≠ L → C ≠ D → (∀ p ∈ news, p.1 ≠ C) → RR (.ref D) C (.ok .next) { s₂ with heap := h, toks := tk }) :
    wpAny (model prog w) A (newList []) (fun acc s₃ => wpAny (model prog w) A (newFunctionEnv scope env.globals [] [] env.qual none .none (some env)) (fun cenv s₄ =>
      codeAny (model prog w) A (.compStart (.ListComp (.Name x pe) [⟨.Tuple [.Name x px, .Name y py] tk tp, iter, [], 0⟩] scope pos) 0 (.ref I) acc { cenv with scope := relabel scope env }) (RR acc cenv.locals) s₄) E s₃) E s₂ := by
  refine wpAny_newObj_type (wpAny_newFunctionEnv hcell (by intro y hy; simp at hy) (fun h₁ hns₁ hsb₁ => ?_) hkind)
  dsimp only at hns₁ hsb₁ ⊢
  generalize hH2 : s₂.heap.push { cls := .type "list", dict := none, data := .seq ([] : List Value).toArray } = H2 at hns₁ hsb₁ ⊢
  generalize hDd : s₂.heap.objs.size = D
  have hC : H2.objs.size = D + 1 := by rw [← hH2, Heap.size_push, hDd]
  generalize hCc : H2.objs.size = C at hC hns₁ hsb₁ ⊢
  have lt : ∀ b o, s₂.heap.get? b = some o → b < D := fun b o e => hDd ▸ Heap.lt_size e
  have neD : ∀ b, b < D → b ≠ D := fun b h => Nat.ne_of_lt h
  have neC : ∀ b, b < D → b ≠ C := fun b h => by rw [hC]; exact Nat.ne_of_lt (Nat.lt_succ_of_lt h)
  have hDC : D ≠ C := by rw [hC]; exact Nat.ne_of_lt (Nat.lt_succ_self _)
  have old : ∀ b o, s₂.heap.get? b = some o → h₁.get? b = some o := fun b o e => hsb₁.extBut b o (neC b (lt b o e)) (Heap.get?_push_of_some _ (hH2 ▸ Heap.get?_push_of_some _ e))
  have acc₁ : h₁.get? D = some (lst []) := hsb₁.extBut _ _ hDC (Heap.get?_push_of_some _ (by rw [← hH2, ← hDd]; exact Heap.get?_push_size _ rfl))
  have none₀ : ∀ b, D ≤ b → h₀.get? b = none := fun b hb => by
    cases e : h₀.get? b with
    | none => rfl
    | some o => exact absurd (lt b o (F.keep b o e)) (Nat.not_lt.mpr hb)
  have hD₀ := none₀ D (Nat.le_refl _)
  have hC₀ := none₀ C (by rw [hC]; exact Nat.le_succ _)
  have hLlt : L < D := hDd ▸ F.ns.lt
  have hIlt : I < D := by obtain ⟨o, e, _⟩ := hI; exact lt I o e
  have newsD : ∀ p ∈ news, p.1 ≠ D := fun p hp => neD _ (lt _ _ (N p hp).1)
  have newsC : ∀ p ∈ news, p.1 ≠ C := fun p hp => neC _ (lt _ _ (N p hp).1)
  have hlen := P.len
  -- what holds between the turns
  have loop : ∀ s₃ : Shared, s₃ = { s₂ with heap := h₁, toks := s₂.toks + ([] : List (Str × Value)).length } →
      codeAny (model prog w) A (.compLoop (.ListComp (.Name x pe) [⟨.Tuple [.Name x px, .Name y py] tk tp, iter, [], 0⟩] scope pos) 0 (.ref I) (.ref D) (compEnvC scope [] C env)) (RR (.ref D) C) s₃ := by
    rintro s₃ rfl
    refine codeAny_compLoop_pair
      (fun k s' => ∃ h' tk i m', s' = { s₂ with heap := h', toks := tk } ∧ i ≤ vs.length ∧ k = vs.length + 1 - i ∧ h'.IsListIter I ax i ∧ Fr h₀ L h' m ∧ h'.Ns C m' ∧ h'.get? D = some (lst (fs.take i)) ∧ News h₀ L h' news) ?_ (vs.length + 1)
      ⟨h₁, _, 0, _, rfl, Nat.zero_le _, rfl, (by obtain ⟨o, e, r⟩ := hI; exact ⟨o, old _ _ e, r⟩), F.keeps old, hns₁, by simpa using acc₁, fun p hp => ⟨old _ _ (N p hp).1, (N p hp).2⟩⟩
    rintro k s' ⟨h', tk', i, m', rfl, hi, rfl, hit, F', hn', hD', N'⟩
    have hl' : h'.IsList ax vs.toArray := ⟨_, (N' _ hm).1, rfl, n, rfl⟩
    have W := Walks.list (prog := prog) (w := w) hh I ax (off _ hm) vs.toArray
    by_cases hlt : i < vs.length
    · refine W.item i _ _ _ (by simpa using hlt) ⟨hit, hl'⟩ fun v h₂ tk₂ hv st₂ hk₂ => ?_
      have keep2 : ∀ b o, b ≠ I → h'.get? b = some o → h₂.get? b = some o := fun b o hb e => hk₂ b o (by simpa using hb) e
      have hv' : vs[i]? = some v := by simpa using hv
      obtain ⟨q, f, g, nq, rfl, hq, hf⟩ := P.get hv'
      refine wpAny_letOwnedTupleGo_listiter st₂.1 ?_
      have hql : h₂.IsList q [f, g].toArray := ⟨_, keep2 _ _ (off _ hq) (N' _ hq).1, rfl, nq, rfl⟩
      refine unpack_raw hh hql rfl rfl fun h₃ he₃ => ?_
      have keep3 : ∀ b o, b ≠ I → h'.get? b = some o → h₃.get? b = some o := fun b o hb e => he₃ b o (Nat.ne_of_lt (Heap.lt_size (keep2 b o hb e))) (keep2 b o hb e)
      have hn₃ := hn'.at' fun o e => keep3 C o (Ne.symm (neC I hIlt)) e
      refine assignInOrder_cons (wpAny_assign_Name (wpAny_storeName_local (lookup_relabel_local hx) hn₃ (fun h₄ hn₄ hs₄ => ?_) (by simp [compEnvC, relabel, hkind])))
      refine assignInOrder_cons (wpAny_assign_Name (wpAny_storeName_local (lookup_relabel_local hy) hn₄ (fun h₅ hn₅ hs₅ => ?_) (by simp [compEnvC, relabel, hkind])))
      refine assignInOrder_nil ?_
      have keep5 : ∀ b o, b ≠ I → b ≠ C → h'.get? b = some o → h₅.get? b = some o := fun b o hb hc e => hs₅.extBut b o hc (hs₄.extBut b o hc (keep3 b o hb e))
      refine ldVarK (v := f) hn₅ ?_ ?_ (by simp [compEnvC, relabel, hkind]) (lookup_relabel_local hx) hdb
      · show (if x = y then some g else if x = x then some f else m' x) = some f
        rw [if_neg hxy, if_pos rfl]
      · have hD₅ := keep5 D _ (Ne.symm (neD I hIlt)) hDC hD'
        refine append_at (hsz := by show (fs.take i).toArray.size ≤ sizeLine; rw [List.size_toArray, List.length_take]; exact Nat.le_trans (Nat.min_le_right _ _) (hlen ▸ Nat.le_trans hz line1000)) hD₅ fun h₆ hs₆ hD₆ => ?_
        have keep6 : ∀ b o, b ≠ I → b ≠ C → b ≠ D → h'.get? b = some o → h₆.get? b = some o := fun b o hb hc hd e => hs₆.extBut b o hd (keep5 b o hb hc e)
        have itr : h₆.IsListIter I ax (i + 1) := by
          obtain ⟨o, e, r⟩ := st₂.1
          exact ⟨o, hs₆.extBut _ _ (neD I hIlt) (hs₅.extBut _ _ (neC I hIlt) (hs₄.extBut _ _ (neC I hIlt) (he₃ _ _ (Nat.ne_of_lt (Heap.lt_size e)) e))), r⟩
        refine ⟨vs.length + 1 - (i + 1), by omega, h₆, _, i + 1, _, rfl, hlt, rfl, itr, ?_, hn₅.sameBut hs₆ (Ne.symm hDC), ?_, fun p hp => ⟨keep6 _ _ (off p hp) (newsC p hp) (newsD p hp) (N' p hp).1, (N' p hp).2⟩⟩
        · exact ⟨F'.ns.at' fun o e => keep6 L o hIL (neC L hLlt) (neD L hLlt) e, fun b o e => keep6 b o (fun z => by rw [z, hI₀] at e; cases e) (fun z => by rw [z, hC₀] at e; cases e) (fun z => by rw [z, hD₀] at e; cases e) (F'.keep b o e), F'.above⟩
        · rw [hD₆]
          have e : fs.take (i + 1) = fs.take i ++ [f] := by rw [List.take_add_one, hf]; rfl
          rw [e]
          exact congrArg some (lst_snoc (fs.take i) f)
    · obtain rfl : i = vs.length := Nat.le_antisymm hi (Nat.not_lt.mp hlt)
      refine W.done _ _ _ (by simpa using (⟨hit, hl'⟩ : h'.IsListIter I ax vs.length ∧ h'.IsList ax vs.toArray)) fun h₂ tk₂ hk₂ => ?_
      have keep2 : ∀ b o, b ≠ I → h'.get? b = some o → h₂.get? b = some o := fun b o hb e => hk₂ b o (by simpa using hb) e
      rw [hlen, List.take_length] at hD'
      refine hRR D C h₂ tk₂ m' ⟨F'.ns.at' fun o e => keep2 L o hIL e, fun b o e => keep2 b o (fun z => by rw [z, hI₀] at e; cases e) (F'.keep b o e), F'.above⟩ (fun p hp => ?_) newsD (hn'.at' fun o e => keep2 C o (Ne.symm (neC I hIlt)) e) hC₀ (Ne.symm (neC L hLlt)) (Ne.symm hDC) newsC
      rcases List.mem_cons.mp hp with rfl | hp
      · exact ⟨keep2 _ _ (Ne.symm (neD I hIlt)) hD', Ne.symm (neD L hLlt), hD₀⟩
      · exact ⟨keep2 _ _ (off p hp) (N' p hp).1, (N' p hp).2⟩
  have hit₁ : h₁.IsListIter I ax 0 := by obtain ⟨o, e, r⟩ := hI; exact ⟨o, old _ _ e, r⟩
  have hl₁ : h₁.IsList ax vs.toArray := ⟨_, old _ _ (N _ hm).1, rfl, n, rfl⟩
  exact codeAny_compStart_list (loop _ rfl) ((Walks.list (prog := prog) (w := w) hh I ax (off _ hm) vs.toArray).self 0 _ _ _ ⟨hit₁, hl₁⟩ (loop _ rfl))
def SrcPairs (h₀ : Heap) (L : Addr) (m : Str → Option Value) (A : Around) (Q : Value → Shared → Prop) (xv : Value) (s₁ : Shared) : Prop :=
  ∃ ax vs fs n news, xv = .ref ax ∧ A.handled = none ∧ Fr h₀ L s₁.heap m ∧ News h₀ L s₁.heap news ∧ (ax, listOf vs.toArray n) ∈ news ∧ vs.length ≤ 1000 ∧ Pairs news vs fs ∧
    ∀ D h tk, Fr h₀ L h m → News h₀ L h ((D, lst fs) :: news) → Off D news → Q (.ref D) { s₁ with heap := h, toks := tk }
theorem SrcPairs.intro {Q : Value → Shared → Prop} {s₁ : Shared} {ax : Addr} {vs fs : List Value} {n : Nat} {news : List (Addr × Obj)} (hh : A.handled = none) (F : Fr h₀ L s₁.heap m) (N : News h₀ L s₁.heap news) (hm : (ax, listOf vs.toArray n) ∈ news) (hz : vs.length ≤ 1000) (P : Pairs news vs fs)
    (h : ∀ D h tk, Fr h₀ L h m → News h₀ L h ((D, lst fs) :: news) → Off D news → Q (.ref D) { s₁ with heap := h, toks := tk }) : SrcPairs h₀ L m A Q (.ref ax) s₁ := ⟨ax, vs, fs, n, news, rfl, hh, F, N, hm, hz, P, h⟩
theorem listComp_firsts {iter : PySem.Expr} {x y : Str} {pe px py tp : Pos} {tk} {scope : Scope} {pos : Pos} {Q : Value → Shared → Prop} (F₀ : Fr h₀ L s.heap m)
    (hclos : closureFor scope env = pure []) (hcell : ∀ y ∈ scope.names, y.2 ≠ .cell) (hkind : scope.kind = .function)
    (hnames : ∀ y ∈ scope.names, y.2 = .local → scope.names.lookup y.1 = some .local) (hx : scope.names.lookup x = some .local) (hy : scope.names.lookup y = some .local) (hxy : x ≠ y) (hdb : (x == ("__debug__" : Str)) = false)
    (h : wpAny (model prog w) A (eval iter env) (SrcPairs h₀ L m A Q) E s)
    (hs : ∀ x, foldedSetIterable iter env x = pure x := by intro _; rfl) :
    wpAny (model prog w) A (eval (.ListComp (.Name x pe) [⟨.Tuple [.Name x px, .Name y py] tk tp, iter, [], 0⟩] scope pos) env) Q E s := by
  rw [eval_ListComp]
  refine wpAny_comprehension_free (use := none) rfl hs hclos hkind hnames (wpAny_mono h (fun xv s₁ h₁ => ?_) fun _ _ e => e)
  obtain ⟨ax, vs, fs, n, news, rfl, hh, F, N, hm, hz, P, fin⟩ := h₁
  have hl : s₁.heap.IsList ax vs.toArray := ⟨_, (N _ hm).1, rfl, n, rfl⟩
  refine wpAny_pyIter_list hl ?_
  have up : ∀ b o, s₁.heap.get? b = some o → (s₁.heap.push { cls := .type "list_iterator", data := .fields #[.ref ax, .int 0 0] }).get? b = some o := fun b o e => Heap.get?_push_of_some _ e
  refine firsts_block hh hcell hkind hx hy hxy hdb (F.keeps up) (N.grown up) hm hz P ⟨_, Heap.get?_push_size _ rfl, rfl, rfl⟩ (Nat.ne_of_lt F.ns.lt) (next_is_new F) (fun p hp => Nat.ne_of_lt (Heap.lt_size (N p hp).1)) ?_
  intro D C h tk m' F' N' oD hn hC₀ hCL hCD oC
  refine ⟨m', hn, fun h'' hs'' => fin D h'' tk (F'.change hs'' hCL hC₀) (fun p hp => ?_) ⟨oD⟩⟩
  refine ⟨hs''.extBut _ _ ?_ (N' p hp).1, (N' p hp).2⟩
  rcases List.mem_cons.mp hp with rfl | hp
  · exact Ne.symm hCD
  · exact oC p hp
end
end
section
theorem kOk_mono : ∀ (n : Nat) (d : Dat), kqdOk n d = true → kqdOk (n + 1) d = true := by
  intro n
  induction n with
  | zero => intro d h; cases d <;> simp_all [kqdOk]
  | succ n ih =>
    intro d h
    cases d with
    | tuple ds => simp only [kqdOk, List.all_eq_true] at h ⊢; exact fun x hx => ih x (h x hx)
    | list ds => simp only [kqdOk, List.all_eq_true] at h ⊢; exact fun x hx => ih x (h x hx)
    | _ => simp_all [kqdOk]
theorem kOk_step {d : Dat} (h : StepD d) : kqdOk 2 d = true := by
  cases h with
  | idx i => simp only [kqdOk, List.all_cons, List.all_nil, Bool.and_true]; decide +kernel
  | oth x r hx k q => simp only [kqdOk, List.all_cons, k, Bool.true_and]; exact q
theorem kOk_place {d : Dat} (h : PlaceD d) : kqdOk 4 d = true := by
  cases h with
  | mk i ds h z =>
    simp only [kqdOk, List.all_cons, List.all_nil, Bool.and_true, Bool.true_and, List.all_eq_true]
    exact fun x hx => kOk_step (h x hx)
theorem kOk_acc {p : Dat} {x y z : Str} (h : kqdOk 4 p = true) (hx : PyData.strOk x = true) (hy : PyData.strOk y = true) (hz : PyData.strOk z = true) : kqdOk 8 (.tuple [p, .str x, .str y, .str z]) = true := by
  have h7 : kqdOk 7 p = true := kOk_mono _ _ (kOk_mono _ _ (kOk_mono _ _ h))
  simp only [kqdOk, List.all_cons, List.all_nil, Bool.and_true, h7, hx, hy, hz]
theorem kOk_loc {i : Int} : kqdOk 4 (.tuple [.int i, .tuple []]) = true := by simp [kqdOk]
theorem kOk_opA {d : Dat} {l : List Dat} (h : OpA d l) : ∀ e ∈ l, kqdOk 8 e = true := by
  cases h with
  | const => exact fun _ h => nomatch h
  | copy p hp | move p hp => exact List.forall_mem_cons.mpr ⟨kOk_acc (kOk_place hp) (by decide +kernel) (by decide +kernel) (by decide +kernel), List.forall_mem_nil _⟩
theorem kOk_app {l r : List Dat} (h : ∀ e ∈ l, kqdOk 8 e = true) (k : ∀ e ∈ r, kqdOk 8 e = true) : ∀ e ∈ l ++ r, kqdOk 8 e = true := List.forall_mem_append.mpr ⟨h, k⟩
theorem kOk_one {d : Dat} (h : kqdOk 8 d = true) : ∀ e ∈ [d], kqdOk 8 e = true := List.forall_mem_cons.mpr ⟨h, List.forall_mem_nil _⟩
theorem kOk_rvA {d : Dat} {l : List Dat} (h : RvA d l) : ∀ e ∈ l, kqdOk 8 e = true := by
  cases h with
  | shared p hp | bmut p hp | two p hp | disc p hp => exact kOk_one (kOk_acc (kOk_place hp) (by decide +kernel) (by decide +kernel) (by decide +kernel))
  | binary d1 d2 l1 l2 o1 o2 | checked d1 d2 l1 l2 o1 o2 | tuple d1 d2 l1 l2 o1 o2 | array d1 d2 l1 l2 o1 o2 => exact kOk_app (kOk_opA o1) (kOk_opA o2)
  | adt d1 d2 l1 l2 o1 o2 => exact kOk_app (kOk_opA o2) (kOk_opA o1)
  | unary d1 l1 o1 | cast d1 l1 o1 | use d1 l1 o1 | box d1 l1 o1 => exact kOk_opA o1
theorem kOk_idxA {d l : List Dat} (h : IdxA d l) : ∀ e ∈ l, kqdOk 8 e = true := by
  induction h with
  | nil => exact fun _ h => nomatch h
  | idx i r l h ih => exact List.forall_mem_cons.mpr ⟨kOk_acc kOk_loc (by decide +kernel) (by decide +kernel) (by decide +kernel), ih⟩
  | oth x q r l hx h ih => exact ih
theorem kOk_placeI {d : Dat} {l : List Dat} (h : PlaceI d l) : ∀ e ∈ l, kqdOk 8 e = true := by
  cases h with
  | mk i ds l h z => exact kOk_idxA h
theorem kOk_stA {d : Dat} {l : List Dat} (h : StA d l) : ∀ e ∈ l, kqdOk 8 e = true := by
  cases h with
  | dead i => exact kOk_one (kOk_acc kOk_loc (by decide +kernel) (by decide +kernel) (by decide +kernel))
  | print d l o => exact kOk_opA o
  | live => exact fun _ h => nomatch h
  | nop => exact fun _ h => nomatch h
  | assign p rv l li hp hr hpd => exact kOk_app (kOk_app (kOk_rvA hr) (kOk_placeI hp)) (kOk_one (kOk_acc (kOk_place hpd) (by decide +kernel) (by decide +kernel) (by decide +kernel)))
theorem kOk_termA {d : Dat} {l : List Dat} (h : TermA d l) : ∀ e ∈ l, kqdOk 8 e = true := by
  cases h with
  | ret =>
    have q : ∀ i : Int, kqdOk 8 (.tuple [.tuple [.int i, .tuple []], .str (Str.ofString "drop"), .str (Str.ofString "write"), .str (Str.ofString "return")]) = true := fun i => kOk_acc kOk_loc (by decide +kernel) (by decide +kernel) (by decide +kernel)
    exact List.forall_mem_cons.mpr ⟨q 1, List.forall_mem_cons.mpr ⟨q 2, List.forall_mem_cons.mpr ⟨q 3, kOk_one (q 4)⟩⟩⟩
  | drop p h => exact kOk_one (kOk_acc (kOk_place h) (by decide +kernel) (by decide +kernel) (by decide +kernel))
  | call d1 d2 p l1 l2 o1 o2 h => exact kOk_app (kOk_app (kOk_opA o1) (kOk_opA o2)) (kOk_one (kOk_acc (kOk_place h) (by decide +kernel) (by decide +kernel) (by decide +kernel)))
  | switch d l o => exact kOk_opA o
  | assert d l o => exact kOk_opA o
  | goto => exact fun _ h => nomatch h
  | panic => exact fun _ h => nomatch h
  | unreachable => exact fun _ h => nomatch h
section
variable {prog : Program} {w : World} {A : Around} {E : Value → Shared → Prop} {s : Shared} {h₀ : Heap} {L : Addr} {news : List (Addr × Obj)}
/-- two lists that tell the same data are not unequal -/
theorem led_ne {a b : Addr} {xs ys : List Value} {ka kb : Nat} {ds : List Dat} {n₁ n₂ : List (Addr × Obj)} {Q : Value → Shared → Prop} (N : News h₀ L s.heap news) (ma : (a, listOf xs.toArray ka) ∈ news) (Da : DatAll n₁ xs ds) (sa : ∀ p ∈ n₁, p ∈ news)
    (mb : (b, listOf ys.toArray kb) ∈ news) (Db : DatAll n₂ ys ds) (sb : ∀ p ∈ n₂, p ∈ news) (hk : ∀ d ∈ ds, kqdOk 8 d = true) (hu : A.units + 64 < cLine) (h : Q (.bool false) s) : wpAny (model prog w) A (compareOp .NotEq (.ref a) (.ref b)) Q E s :=
  kqd_ne N ma rfl rfl Da sa mb rfl rfl Db sb hk hk hu (by simpa using h)
end
end
section
section
variable {prog : Program} {w : World} {A : Around} {E : Value → Shared → Prop} {s : Shared} {env : Env} {h₀ : Heap} {body : List Stmt} {L : Addr} {m : Str → Option Value} {news : List (Addr × Obj)}
theorem turns_enum2 {Q : Flow → Shared → Prop} {elts : List PySem.Expr} {k : Nat} {pos : Pos} {l : Addr} {vs : List Value} {n : Nat} {m₀ : Str → Option Value}
    (hh : A.handled = none) (F : Fr h₀ env.locals s.heap m₀) (N : News h₀ env.locals s.heap news) (hm : (l, listOf vs.toArray n) ∈ news)
    (rest₀ : ∀ I J : Addr, AllLt I news → AllLt J news → I ≠ J → ItemsRest prog w A E h₀ env (.Tuple elts k pos) body Q s [(J, "enumerate"), (I, "list_iterator")] [(l, listOf vs.toArray n)] (enumItems 0 vs) m₀ news) :
    wpAny (model prog w) A (call (.type "enumerate") [.ref l]) (fun xv s₁ => wpAny (model prog w) A (pyIter xv) (fun it s₂ => TurnsAt prog w A h₀ env (.Tuple elts k pos) body Q E it s₂) E s₁) E s :=
  ktu_enum hh F N hm rfl rfl rfl fun I hI => rest₀ I (I + 1) (allLt_of hI) (allLt_of fun p hp => Nat.lt_succ_of_lt (hI p hp)) (Nat.ne_of_lt (Nat.lt_succ_self I))
/-- a list of the ledger is unpacked -/
theorem unpack_list {elts : List PySem.Expr} {k : Nat} {pos : Pos} {l : Addr} {vs : List Value} {n : Nat} {Q : Unit → Shared → Prop} (F : Fr h₀ L s.heap m) (N : News h₀ L s.heap news) (hh : A.handled = none) (hm : (l, listOf vs.toArray n) ∈ news) (hn : (assignEach elts env).length = vs.length)
    (hstar : (assignEach elts env).findIdx? (·.1) = none) (h : ∀ h', Fr h₀ L h' m → News h₀ L h' news → wpAny (model prog w) A (assignInOrder ((assignEach elts env).map (·.2)) vs) Q E { s with heap := h' }) :
    wpAny (model prog w) A (assign (.Tuple elts k pos) env (.ref l)) Q E s :=
  unpack_raw hh (items := vs.toArray) ⟨_, (N _ hm).1, rfl, n, rfl⟩ (by rw [List.size_toArray]; exact hn) hstar fun h' e => h h' (F.extBut e (Nat.le_refl _)) (N.extBut e (Nat.le_refl _))
theorem unpack_tup {elts : List PySem.Expr} {k : Nat} {pos : Pos} {l : Addr} {vs : List Value} {n : Nat} {Q : Unit → Shared → Prop} (F : Fr h₀ L s.heap m) (N : News h₀ L s.heap news) (hh : A.handled = none) (hm : (l, tupOf vs n) ∈ news) (hn : (assignEach elts env).length = vs.length)
    (hstar : (assignEach elts env).findIdx? (·.1) = none) (h : ∀ h', Fr h₀ L h' m → News h₀ L h' news → wpAny (model prog w) A (assignInOrder ((assignEach elts env).map (·.2)) vs) Q E { s with heap := h' }) :
    wpAny (model prog w) A (assign (.Tuple elts k pos) env (.ref l)) Q E s :=
  unpackN_ F N (items := vs.toArray) ⟨_, (N _ hm).1, rfl, n, rfl⟩ hh (by rw [List.size_toArray]; exact hn) hstar h
/-- len of a list of the ledger: the number is a literal -/
theorem led_lenE {l : Addr} {vs : List Value} {n : Nat} {k : Int} {Q : Value → Shared → Prop} (N : News h₀ L s.heap news) (hm : (l, listOf vs.toArray n) ∈ news) (hz : vs.length ≤ 1000) (hk : (vs.length : Int) = k)
    (h : ∀ t j, Q (.int k t) { s with toks := j }) : wpAny (model prog w) A (call (.builtin "len") [.ref l]) Q E s := led_len N hm hz (hk ▸ h)
theorem call_cls2 {K : Frag} {C : Addr} {pos : List Value} {kw : List (Str × Value)} {fI : Addr} {Q : Value → Shared → Prop} (F : Fr h₀ L s.heap m) (X₀ : K.In h₀) (N : News h₀ L s.heap news) (hm : makesIn K C = true) (hi : findIn K (.ref C) "__init__" = some (some (.ref fI))) (hf : isFn K (.ref fI) = true)
    (h : ∀ x dx h', Fr h₀ L h' m → News h₀ L h' ((x, instObj C dx) :: (dx, dictOf [] 0) :: news) → AllLt dx news → AllLt x ((dx, dictOf [] 0) :: news) →
      codeAny (model prog w) (A.under (.builtin "type.__call__" ⟨.ref C :: pos, kw⟩)) (.call (.ref fI) ⟨.ref x :: pos, kw⟩) (InitBack x fun r s' => match r with | .ok (.ret v) => Q v s' | .ok _ => False | .error e => E e s') { s with heap := h' }) :
    wpAny (model prog w) A (call (.ref C) pos kw) Q E s :=
  call_cls F X₀ N hm hi hf fun x dx h' F' N' l1 l2 => h x dx h' F' N' (allLt_of l1) (allLt_of fun p hp => by
    rcases List.mem_cons.mp hp with rfl | hp
    · exact l2
    · exact Nat.lt_trans (l1 p hp) l2)
/-- the end of a turn of the law's loop: the ledger that the next turn starts from -/
theorem turn_fin {I rowsA : Addr} {it oc' R : Obj} {rest : (Str → Option Value) → List (Addr × Obj) → Prop} {s₁ : Shared} {h' : Heap} {tk : Nat} {m' : Str → Option Value} {all : List (Addr × Obj)} (F : Fr h₀ L h' m') (N : News h₀ L h' all)
    (hI : (I, it) ∈ all) (hc : (L + 1, oc') ∈ all) (hr : (rowsA, R) ∈ all) (hI1 : @Ne Nat (L + 1) I) (hI2 : @Ne Nat rowsA I) (r : rest m' [(L + 1, oc'), (rowsA, R)]) : UnrEnd h₀ L s₁ I it rest { s₁ with heap := h', toks := tk } := by
  refine UnrEnd.intro F N [(L + 1, oc'), (rowsA, R)] ?_ ?_ r
  · intro p hp
    simp only [List.mem_cons, List.not_mem_nil, or_false] at hp
    rcases hp with h | h | h <;> subst h <;> assumption
  · intro p hp
    simp only [List.mem_cons, List.not_mem_nil, or_false] at hp
    rcases hp with h | h <;> subst h <;> assumption
end
end
local macro_rules | `(tactic| kl_some) => `(tactic| ((repeat' (first | (with_reducible exact List.mem_cons_self) | (with_reducible refine List.mem_cons_of_mem _ ?_) | (with_reducible exact List.mem_append.mpr (Or.inl (by with_reducible assumption))) | with_reducible assumption | (with_reducible refine List.mem_append.mpr (Or.inr ?_)))); done))
local macro_rules | `(tactic| ki_room) => `(tactic| ((repeat' (first | ((with_reducible show Off _ _); first | exact Off.nil | with_reducible assumption | refine' Off.cons ?_ ?_ | refine' Off.app ?_ ?_ | (refine' Off.of_lt ?z0; (case z0 => with_reducible assumption)) | (refine' Abv.offM ?z0 ?z1; (case z0 => with_reducible assumption); (case z1 => kl_some)) | (refine' Off.hasLt ?z0 ?z1; (case z0 => with_reducible assumption); (case z1 => ((repeat' (first | (with_reducible exact Has.self) | (with_reducible exact Has.here) | (with_reducible refine Has.cons ?_) | (with_reducible refine Has.app ?_))); done))) | (refine' Off.has ?z0 ?z1; (case z0 => with_reducible assumption); (case z1 => ((repeat' (first | (with_reducible exact Has.self) | (with_reducible exact Has.here) | (with_reducible refine Has.cons ?_) | (with_reducible refine Has.app ?_))); done))) | (refine' Off.has (off3_I ?z0) ?z1; (case z0 => with_reducible assumption); (case z1 => ((repeat' (first | (with_reducible exact Has.self) | (with_reducible exact Has.here) | (with_reducible refine Has.cons ?_) | (with_reducible refine Has.app ?_))); done))) | (refine' Off.has (off3_C ?z0) ?z1; (case z0 => with_reducible assumption); (case z1 => ((repeat' (first | (with_reducible exact Has.self) | (with_reducible exact Has.here) | (with_reducible refine Has.cons ?_) | (with_reducible refine Has.app ?_))); done))) | (refine' Off.has (off3_D ?z0) ?z1; (case z0 => with_reducible assumption); (case z1 => ((repeat' (first | (with_reducible exact Has.self) | (with_reducible exact Has.here) | (with_reducible refine Has.cons ?_) | (with_reducible refine Has.app ?_))); done)))) | ((with_reducible show _ ≠ _); first | with_reducible assumption | exact Nat.ne_of_lt (by with_reducible assumption) | exact Nat.ne_of_gt (by with_reducible assumption) | exact Ne.symm (by with_reducible assumption) | (refine' ne_lt1 ?z0 ?z1; (case z0 => with_reducible assumption); (case z1 => kl_some)) | (refine' ne_lt2 ?z0 ?z1; (case z0 => with_reducible assumption); (case z1 => kl_some)) | (refine' ne_off1 ?z0 ?z1; (case z0 => with_reducible assumption); (case z1 => kl_some)) | (refine' ne_off2 ?z0 ?z1; (case z0 => with_reducible assumption); (case z1 => kl_some)) | (refine' ne_off1 (off3_I ?z0) ?z1; (case z0 => with_reducible assumption); (case z1 => kl_some)) | (refine' ne_off1 (off3_C ?z0) ?z1; (case z0 => with_reducible assumption); (case z1 => kl_some)) | (refine' ne_off1 (off3_D ?z0) ?z1; (case z0 => with_reducible assumption); (case z1 => kl_some)) | (refine' ne_off2 (off3_I ?z0) ?z1; (case z0 => with_reducible assumption); (case z1 => kl_some)) | (refine' ne_off2 (off3_C ?z0) ?z1; (case z0 => with_reducible assumption); (case z1 => kl_some)) | (refine' ne_off2 (off3_D ?z0) ?z1; (case z0 => with_reducible assumption); (case z1 => kl_some))))); done))
local macro_rules | `(tactic| kl_room) => `(tactic| ((repeat' (first | exact Pick.head | refine' Pick.tail ?_ | refine' Pick.app ?_)); done))
local macro_rules | `(tactic| units_room1) => `(tactic| ((repeat' (first | exact Cut.nil | refine' Cut.cons ?_ | refine' Cut.app ?_)); done))
local macro_rules | `(tactic| dictfold_kept) => `(tactic| ((repeat' (first | ((with_reducible show Abv _ _); first | exact Abv.nil | with_reducible assumption | refine' Abv.cons ?_ ?_ | refine' Abv.app ?_ ?_ | (refine' Abv.has ?z0 ?z1; (case z0 => with_reducible assumption); (case z1 => ((repeat' (first | (with_reducible exact Has.self) | (with_reducible exact Has.here) | (with_reducible refine Has.cons ?_) | (with_reducible refine Has.app ?_))); done))) | (refine' Abv.via ?z0 ?z1 ?z2; (case z0 => with_reducible assumption); (case z1 => kl_some); (case z2 => ((repeat' (first | (with_reducible exact Has.self) | (with_reducible exact Has.here) | (with_reducible refine Has.cons ?_) | (with_reducible refine Has.app ?_))); done)))) | ((with_reducible show Off _ _); first | exact Off.nil | with_reducible assumption | refine' Off.cons ?_ ?_ | refine' Off.app ?_ ?_ | (refine' Off.of_lt ?z0; (case z0 => with_reducible assumption)) | (refine' Abv.offM ?z0 ?z1; (case z0 => with_reducible assumption); (case z1 => kl_some)) | (refine' Off.hasLt ?z0 ?z1; (case z0 => with_reducible assumption); (case z1 => ((repeat' (first | (with_reducible exact Has.self) | (with_reducible exact Has.here) | (with_reducible refine Has.cons ?_) | (with_reducible refine Has.app ?_))); done))) | (refine' Off.has ?z0 ?z1; (case z0 => with_reducible assumption); (case z1 => ((repeat' (first | (with_reducible exact Has.self) | (with_reducible exact Has.here) | (with_reducible refine Has.cons ?_) | (with_reducible refine Has.app ?_))); done))) | (refine' Off.has (off3_I ?z0) ?z1; (case z0 => with_reducible assumption); (case z1 => ((repeat' (first | (with_reducible exact Has.self) | (with_reducible exact Has.here) | (with_reducible refine Has.cons ?_) | (with_reducible refine Has.app ?_))); done))) | (refine' Off.has (off3_C ?z0) ?z1; (case z0 => with_reducible assumption); (case z1 => ((repeat' (first | (with_reducible exact Has.self) | (with_reducible exact Has.here) | (with_reducible refine Has.cons ?_) | (with_reducible refine Has.app ?_))); done))) | (refine' Off.has (off3_D ?z0) ?z1; (case z0 => with_reducible assumption); (case z1 => ((repeat' (first | (with_reducible exact Has.self) | (with_reducible exact Has.here) | (with_reducible refine Has.cons ?_) | (with_reducible refine Has.app ?_))); done)))) | ((with_reducible show _ ≠ _); first | with_reducible assumption | exact Nat.ne_of_lt (by with_reducible assumption) | exact Nat.ne_of_gt (by with_reducible assumption) | exact Ne.symm (by with_reducible assumption) | (refine' ne_lt1 ?z0 ?z1; (case z0 => with_reducible assumption); (case z1 => kl_some)) | (refine' ne_lt2 ?z0 ?z1; (case z0 => with_reducible assumption); (case z1 => kl_some)) | (refine' ne_off1 ?z0 ?z1; (case z0 => with_reducible assumption); (case z1 => kl_some)) | (refine' ne_off2 ?z0 ?z1; (case z0 => with_reducible assumption); (case z1 => kl_some)) | (refine' ne_off1 (off3_I ?z0) ?z1; (case z0 => with_reducible assumption); (case z1 => kl_some)) | (refine' ne_off1 (off3_C ?z0) ?z1; (case z0 => with_reducible assumption); (case z1 => kl_some)) | (refine' ne_off1 (off3_D ?z0) ?z1; (case z0 => with_reducible assumption); (case z1 => kl_some)) | (refine' ne_off2 (off3_I ?z0) ?z1; (case z0 => with_reducible assumption); (case z1 => kl_some)) | (refine' ne_off2 (off3_C ?z0) ?z1; (case z0 => with_reducible assumption); (case z1 => kl_some)) | (refine' ne_off2 (off3_D ?z0) ?z1; (case z0 => with_reducible assumption); (case z1 => kl_some))))); done))
local macro_rules | `(tactic| kt_l_size) => `(tactic| first | with_reducible assumption | (with_reducible exact sub_nil2) | (with_reducible exact sub_right2) | ((with_reducible refine Has.sub ?_); ((repeat' (first | (with_reducible exact Has.self) | (with_reducible exact Has.here) | (with_reducible refine Has.cons ?_) | (with_reducible refine Has.app ?_))); done)) | ((with_reducible refine sub_app2 ?_ ?_) <;> kt_l_size) | (refine' sub_up ?z0 ?z1; (case z0 => with_reducible assumption); (case z1 => ((repeat' (first | (with_reducible exact Has.self) | (with_reducible exact Has.here) | (with_reducible refine Has.cons ?_) | (with_reducible refine Has.app ?_))); done))) | ((with_reducible refine sub_cons2 ?_ ?_); (focus kl_some); kt_l_size) | ((with_reducible refine sub_left2 ?_); kt_l_size))
local macro_rules | `(tactic| wrow_post) => `(tactic| (first | (refine' ne_lt1 ?z0 ?z1; (case z0 => with_reducible assumption); (case z1 => kl_some)) | (refine' ne_lt2 ?z0 ?z1; (case z0 => with_reducible assumption); (case z1 => kl_some)) | (refine' ne_off1 ?z0 ?z1; (case z0 => with_reducible assumption); (case z1 => kl_some)) | (refine' ne_off2 ?z0 ?z1; (case z0 => with_reducible assumption); (case z1 => kl_some)) | (refine' ne_off1 (off3_I ?z0) ?z1; (case z0 => with_reducible assumption); (case z1 => kl_some)) | (refine' ne_off1 (off3_C ?z0) ?z1; (case z0 => with_reducible assumption); (case z1 => kl_some)) | (refine' ne_off1 (off3_D ?z0) ?z1; (case z0 => with_reducible assumption); (case z1 => kl_some)) | (refine' ne_off2 (off3_I ?z0) ?z1; (case z0 => with_reducible assumption); (case z1 => kl_some)) | (refine' ne_off2 (off3_C ?z0) ?z1; (case z0 => with_reducible assumption); (case z1 => kl_some)) | (refine' ne_off2 (off3_D ?z0) ?z1; (case z0 => with_reducible assumption); (case z1 => kl_some))))
local macro_rules | `(tactic| k_mem) => `(tactic| kl_some)
local macro_rules | `(tactic| k_lt $h:ident) => `(tactic| (replace $h:ident := allLt_of $h; (try simp only [AllLt, allLt_appI, and_true] at $h:ident); (repeat' ((have h9 := And.left $h:ident); (replace $h:ident := And.right $h:ident)))))
local macro_rules | `(tactic| kqd_in) => `(tactic| first
  | with_reducible assumption
  | exact DatIn.int _ _
  | exact DatIn.str _ _
  | exact DatIn.none
  | exact DatIn.bool _
  | (refine' DatIn.mono ?ks ?kh; (case kh => with_reducible assumption); (case ks => kt_l_size))
  | (refine' DatIn.tuple ?km ?ka; (case km => kl_some); (case ka => kqd_all))
  | (refine' DatIn.list ?km ?ka; (case km => kl_some); (case ka => kqd_all))
  | fail "kqd_in: mine")
local macro_rules | `(tactic| kqd_all) => `(tactic| first
  | exact DatAll.nil
  | with_reducible assumption
  | (refine' DatAll.mono ?ks ?kh; (case kh => with_reducible assumption); (case ks => kt_l_size))
  | (refine' DatAll.cons ?kx ?ky; (case kx => kqd_in); (case ky => kqd_all))
  | (refine' DatAll.append ?kx ?ky; (case kx => kqd_all); (case ky => kqd_all))
  | fail "kqd_all: mine")
local macro_rules | `(tactic| k_lt $h:ident) => `(tactic| (replace $h:ident := allLt_of $h))
local macro_rules | `(tactic| k_ne) => `(tactic| first | with_reducible assumption | wrow_post)
local macro_rules | `(tactic| k_all) => `(tactic| ((refine Off.ne ?_); (ki_room); done))
local macro_rules | `(tactic| walk_at $s:str) => `(tactic| k_extra $s)
section
theorem lines_K1 : True := by
  k_with_none
  (k_with "FinE" => ((unfold LCg.FinE); intro D' h' tk' F' N' o1'; (replace o1' := off1_off o1'); (try simp only [List.nil_append, List.cons_append] at N'); (try dsimp only)))
  (k_with "UnrEnd" => (k_dflt (refine' unr_end (by k_asm) (by k_asm) (by kl_room) (by ki_room) ?_; k_whole)))
  (k_with "subscriptTail Name Constant ref int" => (k_here; (with_reducible show wpAny _ _ (subscriptTail _ _ (Value.ref _) (Value.int _ _)) _ _ _); k_dflt (first
  | (refine' led_item (by k_asm) (by kl_some) (by decide) (by decide) (by rfl) ?_ (by with_unfolding_all rfl); k_whole)
  | (refine' led_itemT (by k_asm) (by kl_some) (by decide) (by decide) (by rfl) ?_ (by with_unfolding_all rfl); k_whole))))
  (k_with "ite" => (k_closed; first | (refine ite_no (by with_unfolding_all rfl) ?_) | (refine ite_yes (by with_unfolding_all rfl) ?_)))
  (k_with "newList" => (k_here; k_dflt (refine' led_newListX (by k_asm) (by k_asm) (by exact Nat.le_of_ble_eq_true rfl) ?_; k_whole); intro l' h' F' N' l1; (try k_sweep)))
  (k_with "newTuple" => (k_here; k_dflt (refine' led_newTupleX (by k_asm) (by k_asm) (by exact Nat.le_of_ble_eq_true rfl) ?_; k_whole); intro l' h' F' N' l1; (try k_sweep)))
  (k_with "FinE" => ((unfold LCg.FinE); intro D' h' tk' F' N' o1'; (replace o1' := off1_off o1'); (try simp only [List.nil_append, List.cons_append] at N'); (try dsimp only)))
  (k_with "eval Constant str" => (k_here; k_dflt (refine' ev_str ?_; k_whole); intro t9' k9'))
  (k_with "eval Constant int" => (k_here; k_dflt (refine' ev_int ?_; k_whole); intro t9' k9'))
  trivial
set_option maxRecDepth 100000 in
set_option maxHeartbeats 400000 in
theorem ev_t_s {prog : Program} {w : World} {A : Around} {E : Value → Shared → Prop} {h₀ : Heap} {L : Addr} {m : Str → Option Value} {news : List (Addr × Obj)} {hp : Heap} {sg : Array GenState} {sd : PySem.Drawn} {st : Nat} {so : OsState} {env : Env} {Q : Value → Shared → Prop} {kk : Nat} {pp : Pos} {x0 : Str} {k0 : Nat} {p0 : Pos} (F : Fr h₀ L hp m) (N : News h₀ L hp news)
    (h : ∀ t0 l h' tk', Fr h₀ L h' m → News h₀ L h' ((l, tupOf [.str x0 t0] 0) :: news) → AllLt l news → Q (.ref l) { heap := h', gens := sg, drawn := sd, toks := tk', os := so }) :
    wpAny (model prog w) A (eval (.Tuple [.Constant (.str x0) k0 p0] kk pp) env) Q E { heap := hp, gens := sg, drawn := sd, toks := st, os := so } := by
  k_steps
  exact h _ _ _ _ (by with_reducible assumption) (by with_reducible assumption) (allLt_of fun p hq => Heap.lt_size (N p hq).1)
set_option maxRecDepth 100000 in
set_option maxHeartbeats 400000 in
theorem ev_t_ss {prog : Program} {w : World} {A : Around} {E : Value → Shared → Prop} {h₀ : Heap} {L : Addr} {m : Str → Option Value} {news : List (Addr × Obj)} {hp : Heap} {sg : Array GenState} {sd : PySem.Drawn} {st : Nat} {so : OsState} {env : Env} {Q : Value → Shared → Prop} {kk : Nat} {pp : Pos} {x0 : Str} {k0 : Nat} {p0 : Pos} {x1 : Str} {k1 : Nat} {p1 : Pos} (F : Fr h₀ L hp m) (N : News h₀ L hp news)
    (h : ∀ t0 t1 l h' tk', Fr h₀ L h' m → News h₀ L h' ((l, tupOf [.str x0 t0, .str x1 t1] 0) :: news) → AllLt l news → Q (.ref l) { heap := h', gens := sg, drawn := sd, toks := tk', os := so }) :
    wpAny (model prog w) A (eval (.Tuple [.Constant (.str x0) k0 p0, .Constant (.str x1) k1 p1] kk pp) env) Q E { heap := hp, gens := sg, drawn := sd, toks := st, os := so } := by
  k_steps
  exact h _ _ _ _ _ (by with_reducible assumption) (by with_reducible assumption) (allLt_of fun p hq => Heap.lt_size (N p hq).1)
set_option maxRecDepth 100000 in
set_option maxHeartbeats 400000 in
theorem ev_t_si {prog : Program} {w : World} {A : Around} {E : Value → Shared → Prop} {h₀ : Heap} {L : Addr} {m : Str → Option Value} {news : List (Addr × Obj)} {hp : Heap} {sg : Array GenState} {sd : PySem.Drawn} {st : Nat} {so : OsState} {env : Env} {Q : Value → Shared → Prop} {kk : Nat} {pp : Pos} {x0 : Str} {k0 : Nat} {p0 : Pos} {x1 : Int} {k1 : Nat} {p1 : Pos} (F : Fr h₀ L hp m) (N : News h₀ L hp news)
    (h : ∀ t0 t1 l h' tk', Fr h₀ L h' m → News h₀ L h' ((l, tupOf [.str x0 t0, .int x1 t1] 0) :: news) → AllLt l news → Q (.ref l) { heap := h', gens := sg, drawn := sd, toks := tk', os := so }) :
    wpAny (model prog w) A (eval (.Tuple [.Constant (.str x0) k0 p0, .Constant (.int x1) k1 p1] kk pp) env) Q E { heap := hp, gens := sg, drawn := sd, toks := st, os := so } := by
  k_steps
  exact h _ _ _ _ _ (by with_reducible assumption) (by with_reducible assumption) (allLt_of fun p hq => Heap.lt_size (N p hq).1)
set_option maxRecDepth 100000 in
set_option maxHeartbeats 400000 in
theorem ev_l_ss {prog : Program} {w : World} {A : Around} {E : Value → Shared → Prop} {h₀ : Heap} {L : Addr} {m : Str → Option Value} {news : List (Addr × Obj)} {hp : Heap} {sg : Array GenState} {sd : PySem.Drawn} {st : Nat} {so : OsState} {env : Env} {Q : Value → Shared → Prop} {kk : Nat} {pp : Pos} {x0 : Str} {k0 : Nat} {p0 : Pos} {x1 : Str} {k1 : Nat} {p1 : Pos} (F : Fr h₀ L hp m) (N : News h₀ L hp news)
    (h : ∀ t0 t1 l h' tk', Fr h₀ L h' m → News h₀ L h' ((l, listOf [.str x0 t0, .str x1 t1].toArray 0) :: news) → AllLt l news → Q (.ref l) { heap := h', gens := sg, drawn := sd, toks := tk', os := so }) :
    wpAny (model prog w) A (eval (.List [.Constant (.str x0) k0 p0, .Constant (.str x1) k1 p1] pp) env) Q E { heap := hp, gens := sg, drawn := sd, toks := st, os := so } := by
  k_steps
  exact h _ _ _ _ _ (by with_reducible assumption) (by with_reducible assumption) (allLt_of fun p hq => Heap.lt_size (N p hq).1)
set_option maxRecDepth 100000 in
set_option maxHeartbeats 400000 in
theorem ev_l_sss {prog : Program} {w : World} {A : Around} {E : Value → Shared → Prop} {h₀ : Heap} {L : Addr} {m : Str → Option Value} {news : List (Addr × Obj)} {hp : Heap} {sg : Array GenState} {sd : PySem.Drawn} {st : Nat} {so : OsState} {env : Env} {Q : Value → Shared → Prop} {kk : Nat} {pp : Pos} {x0 : Str} {k0 : Nat} {p0 : Pos} {x1 : Str} {k1 : Nat} {p1 : Pos} {x2 : Str} {k2 : Nat} {p2 : Pos} (F : Fr h₀ L hp m) (N : News h₀ L hp news)
    (h : ∀ t0 t1 t2 l h' tk', Fr h₀ L h' m → News h₀ L h' ((l, listOf [.str x0 t0, .str x1 t1, .str x2 t2].toArray 0) :: news) → AllLt l news → Q (.ref l) { heap := h', gens := sg, drawn := sd, toks := tk', os := so }) :
    wpAny (model prog w) A (eval (.List [.Constant (.str x0) k0 p0, .Constant (.str x1) k1 p1, .Constant (.str x2) k2 p2] pp) env) Q E { heap := hp, gens := sg, drawn := sd, toks := st, os := so } := by
  k_steps
  exact h _ _ _ _ _ _ (by with_reducible assumption) (by with_reducible assumption) (allLt_of fun p hq => Heap.lt_size (N p hq).1)
end
section
theorem lines_C1 : True := by
  k_with_none
  (k_with "FinE" => ((unfold LCg.FinE); intro D' h' tk' F' N' o1'; (replace o1' := off1_off o1'); (try simp only [List.nil_append, List.cons_append] at N'); (try dsimp only)))
  (k_with "UnrEnd" => (k_dflt (refine' unr_end (by k_asm) (by k_asm) (by kl_room) (by ki_room) ?_; k_whole)))
  (k_with "subscriptTail Name Constant ref int" => (k_here; (with_reducible show wpAny _ _ (subscriptTail _ _ (Value.ref _) (Value.int _ _)) _ _ _); k_dflt (first
  | (refine' led_item (by k_asm) (by kl_some) (by decide) (by decide) (by rfl) ?_ (by with_unfolding_all rfl); k_whole)
  | (refine' led_itemT (by k_asm) (by kl_some) (by decide) (by decide) (by rfl) ?_ (by with_unfolding_all rfl); k_whole))))
  (k_with "ite" => (k_closed; first | (refine ite_no (by with_unfolding_all rfl) ?_) | (refine ite_yes (by with_unfolding_all rfl) ?_)))
  (k_with "newList" => (k_here; k_dflt (refine' led_newListX (by k_asm) (by k_asm) (by exact Nat.le_of_ble_eq_true rfl) ?_; k_whole); intro l' h' F' N' l1; (try k_sweep)))
  (k_with "newTuple" => (k_here; k_dflt (refine' led_newTupleX (by k_asm) (by k_asm) (by exact Nat.le_of_ble_eq_true rfl) ?_; k_whole); intro l' h' F' N' l1; (try k_sweep)))
  (k_with "FinE" => ((unfold LCg.FinE); intro D' h' tk' F' N' o1'; (replace o1' := off1_off o1'); (try simp only [List.nil_append, List.cons_append] at N'); (try dsimp only)))
  (k_with "eval Constant str" => (k_here; k_dflt (refine' ev_str ?_; k_whole); intro t9' k9'))
  (k_with "eval Constant int" => (k_here; k_dflt (refine' ev_int ?_; k_whole); intro t9' k9'))
  (k_with "eval Tuple" => (k_here; k_dflt (first | ((with_reducible show wpAny _ _ (eval (Expr.Tuple [Expr.Constant (Const.str _) _ _] _ _) _) _ _ _); with_reducible refine' ev_t_s (by k_asm) (by k_asm) ?_; k_whole; intro t0' l' h' tk' F' N' l1; (try k_sweep)) | ((with_reducible show wpAny _ _ (eval (Expr.Tuple [Expr.Constant (Const.str _) _ _, Expr.Constant (Const.str _) _ _] _ _) _) _ _ _); with_reducible refine' ev_t_ss (by k_asm) (by k_asm) ?_; k_whole; intro t0' t1' l' h' tk' F' N' l1; (try k_sweep)) | ((with_reducible show wpAny _ _ (eval (Expr.Tuple [Expr.Constant (Const.str _) _ _, Expr.Constant (Const.int _) _ _] _ _) _) _ _ _); with_reducible refine' ev_t_si (by k_asm) (by k_asm) ?_; k_whole; intro t0' t1' l' h' tk' F' N' l1; (try k_sweep)))))
  (k_with "eval List" => (k_here; k_dflt (first | ((with_reducible show wpAny _ _ (eval (Expr.List [Expr.Constant (Const.str _) _ _, Expr.Constant (Const.str _) _ _] _) _) _ _ _); with_reducible refine' ev_l_ss (by k_asm) (by k_asm) ?_; k_whole; intro t0' t1' l' h' tk' F' N' l1; (try k_sweep)) | ((with_reducible show wpAny _ _ (eval (Expr.List [Expr.Constant (Const.str _) _ _, Expr.Constant (Const.str _) _ _, Expr.Constant (Const.str _) _ _] _) _) _ _ _); with_reducible refine' ev_l_sss (by k_asm) (by k_asm) ?_; k_whole; intro t0' t1' t2' l' h' tk' F' N' l1; (try k_sweep)))))
  (k_with "setItem ref int" => (k_here; first
  | ((with_reducible show wpAny _ _ (setItem (Value.ref _) (Value.int 0 _) (Value.int _ _)) _ _ _); k_dflt (refine' src_set0 (by k_asm) (by k_asm) (by assumption) ?_; k_whole; intro h' F' N'; (try k_sweep)))
  | ((with_reducible show wpAny _ _ (setItem (Value.ref _) (Value.int 1 _) (Value.int _ _)) _ _ _); k_dflt (refine' src_set1 (by k_asm) (by k_asm) (by assumption) ?_; k_whole; intro h' F' N'; (try k_sweep)))))
  trivial
theorem fmod_in {x k : Int} (h : 1 ≤ k) : 0 ≤ x.fmod k ∧ x.fmod k < k := ⟨Int.fmod_nonneg_of_pos _ (by omega), Int.fmod_lt_of_pos _ (by omega)⟩
set_option maxRecDepth 100000 in
set_option maxHeartbeats 400000 in
theorem take_ctr {prog : Program} {w : World} {src : Addr} {k a b : Int} {t u tk : Tok} {n : Nat} {news : List (Addr × Obj)} (hk : 1 ≤ k ∧ k ≤ 10) (hb : Bnd b) (off : Off src news) :
    Ctr prog w 152 4 40 [.ref src, .int k tk] ((src, srcObj a b t u n) :: news)
      (fun r news' => ∃ i a' b' t' u' tk', 0 ≤ i ∧ i < k ∧ Bnd b' ∧ r = .int i tk' ∧ news' = (src, srcObj a' b' t' u' n) :: news) := by
  refine ctr_intro ?_
  have hb1 := hb.lo
  have hb2 := hb.hi
  intro mean mg mb dp un gd cn cs ca ccd cl outer A₀ base h₀ L m hp sg sd st so Q E B F X N T hck hd hu hret
  refine wpAny_call ?_
  k_dflt ktr_enter
  refine gen_toks (sg := sg) (sd := sd) (so := so) ?_
  intro tk0
  k_steps
  all_goals refine hret _ _ _ _ (by assumption) (by assumption) ⟨_, _, _, _, _, _, (fmod_in hk.1).1, (fmod_in hk.1).2, ?_, rfl, rfl⟩
  · exact hb
  · exact ⟨(fmod_in (by decide)).1, (fmod_in (by decide)).2⟩
end
section
theorem lines_C2 : True := by
  k_with_none
  (k_with "FinE" => ((unfold LCg.FinE); intro D' h' tk' F' N' o1'; (replace o1' := off1_off o1'); (try simp only [List.nil_append, List.cons_append] at N'); (try dsimp only)))
  (k_with "UnrEnd" => (k_dflt (refine' unr_end (by k_asm) (by k_asm) (by kl_room) (by ki_room) ?_; k_whole)))
  (k_with "subscriptTail Name Constant ref int" => (k_here; (with_reducible show wpAny _ _ (subscriptTail _ _ (Value.ref _) (Value.int _ _)) _ _ _); k_dflt (first
  | (refine' led_item (by k_asm) (by kl_some) (by decide) (by decide) (by rfl) ?_ (by with_unfolding_all rfl); k_whole)
  | (refine' led_itemT (by k_asm) (by kl_some) (by decide) (by decide) (by rfl) ?_ (by with_unfolding_all rfl); k_whole))))
  (k_with "ite" => (k_closed; first | (refine ite_no (by with_unfolding_all rfl) ?_) | (refine ite_yes (by with_unfolding_all rfl) ?_)))
  (k_with "newList" => (k_here; k_dflt (refine' led_newListX (by k_asm) (by k_asm) (by exact Nat.le_of_ble_eq_true rfl) ?_; k_whole); intro l' h' F' N' l1; (try k_sweep)))
  (k_with "newTuple" => (k_here; k_dflt (refine' led_newTupleX (by k_asm) (by k_asm) (by exact Nat.le_of_ble_eq_true rfl) ?_; k_whole); intro l' h' F' N' l1; (try k_sweep)))
  (k_with "FinE" => ((unfold LCg.FinE); intro D' h' tk' F' N' o1'; (replace o1' := off1_off o1'); (try simp only [List.nil_append, List.cons_append] at N'); (try dsimp only)))
  (k_with "eval Constant str" => (k_here; k_dflt (refine' ev_str ?_; k_whole); intro t9' k9'))
  (k_with "eval Constant int" => (k_here; k_dflt (refine' ev_int ?_; k_whole); intro t9' k9'))
  (k_with "eval Tuple" => (k_here; k_dflt (first | ((with_reducible show wpAny _ _ (eval (Expr.Tuple [Expr.Constant (Const.str _) _ _] _ _) _) _ _ _); with_reducible refine' ev_t_s (by k_asm) (by k_asm) ?_; k_whole; intro t0' l' h' tk' F' N' l1; (try k_sweep)) | ((with_reducible show wpAny _ _ (eval (Expr.Tuple [Expr.Constant (Const.str _) _ _, Expr.Constant (Const.str _) _ _] _ _) _) _ _ _); with_reducible refine' ev_t_ss (by k_asm) (by k_asm) ?_; k_whole; intro t0' t1' l' h' tk' F' N' l1; (try k_sweep)) | ((with_reducible show wpAny _ _ (eval (Expr.Tuple [Expr.Constant (Const.str _) _ _, Expr.Constant (Const.int _) _ _] _ _) _) _ _ _); with_reducible refine' ev_t_si (by k_asm) (by k_asm) ?_; k_whole; intro t0' t1' l' h' tk' F' N' l1; (try k_sweep)))))
  (k_with "eval List" => (k_here; k_dflt (first | ((with_reducible show wpAny _ _ (eval (Expr.List [Expr.Constant (Const.str _) _ _, Expr.Constant (Const.str _) _ _] _) _) _ _ _); with_reducible refine' ev_l_ss (by k_asm) (by k_asm) ?_; k_whole; intro t0' t1' l' h' tk' F' N' l1; (try k_sweep)) | ((with_reducible show wpAny _ _ (eval (Expr.List [Expr.Constant (Const.str _) _ _, Expr.Constant (Const.str _) _ _, Expr.Constant (Const.str _) _ _] _) _) _ _ _); with_reducible refine' ev_l_sss (by k_asm) (by k_asm) ?_; k_whole; intro t0' t1' t2' l' h' tk' F' N' l1; (try k_sweep)))))
  (k_with "call ref" => (k_here; (with_reducible show wpAny _ _ (call (Value.ref 152) _ _) _ _ _); k_dflt (
    refine' Ctr.useT (by k_asm) (by k_asm) (by k_asm) (by k_asm) (by k_asm) (by kl_room) (by first | exact rfl | with_reducible assumption) (by ktr_room) (by ktr_units) (take_ctr (by first | decide | omega) (by with_reducible assumption) (by ki_room)) ?_;
    intro i9 a9 b9 t9 u9 tk9' h9 tk9 hi9 hi9' hb9 F9 N9; (try k_sweep))))
  (k_with "call builtin:len" => (k_here; (with_reducible show wpAny _ _ (call (Value.builtin "len") [Value.ref _]) _ _ _); k_dflt (refine' led_len (by k_asm) (by kl_some) (by omega) ?_; k_whole); intro _ _))
  (k_with "subscriptTail Name Call ref int" => (k_here; k_dflt (refine' led_itemAny (by k_asm) (by kl_some) (by assumption) (by assumption) (by omega) ?_ (by with_unfolding_all rfl); k_whole); intro v9 hv9))
  trivial
set_option maxRecDepth 100000 in
set_option maxHeartbeats 400000 in
theorem one_ctr {prog : Program} {w : World} {src l : Addr} {a b : Int} {t u : Tok} {n nn : Nat} {vs : List Value} {news : List (Addr × Obj)} (hb : Bnd b) (off : Off src news)
    (hl : (l, listOf vs.toArray nn) ∈ news) (h1 : 1 ≤ vs.length) (h2 : vs.length ≤ 10) :
    Ctr prog w 159 8 80 [.ref src, .ref l] ((src, srcObj a b t u n) :: news)
      (fun r news' => ∃ a' b' t' u', Bnd b' ∧ r ∈ vs ∧ news' = (src, srcObj a' b' t' u' n) :: news) := by
  refine ctr_intro ?_
  intro mean mg mb dp un gd cn cs ca ccd cl outer A₀ base h₀ L m hp sg sd st so Q E B F X N T hck hd hu hret
  refine wpAny_call ?_
  k_dflt ktr_enter
  refine gen_toks (sg := sg) (sd := sd) (so := so) ?_
  intro tk0
  k_steps
  exact hret _ _ _ _ (by assumption) (by assumption) ⟨_, _, _, _, by assumption, by assumption, rfl⟩
end
section
theorem lines_C3 : True := by
  k_with_none
  (k_with "FinE" => ((unfold LCg.FinE); intro D' h' tk' F' N' o1'; (replace o1' := off1_off o1'); (try simp only [List.nil_append, List.cons_append] at N'); (try dsimp only)))
  (k_with "UnrEnd" => (k_dflt (refine' unr_end (by k_asm) (by k_asm) (by kl_room) (by ki_room) ?_; k_whole)))
  (k_with "subscriptTail Name Constant ref int" => (k_here; (with_reducible show wpAny _ _ (subscriptTail _ _ (Value.ref _) (Value.int _ _)) _ _ _); k_dflt (first
  | (refine' led_item (by k_asm) (by kl_some) (by decide) (by decide) (by rfl) ?_ (by with_unfolding_all rfl); k_whole)
  | (refine' led_itemT (by k_asm) (by kl_some) (by decide) (by decide) (by rfl) ?_ (by with_unfolding_all rfl); k_whole))))
  (k_with "ite" => (k_closed; first | (refine ite_no (by with_unfolding_all rfl) ?_) | (refine ite_yes (by with_unfolding_all rfl) ?_)))
  (k_with "newList" => (k_here; k_dflt (refine' led_newListX (by k_asm) (by k_asm) (by exact Nat.le_of_ble_eq_true rfl) ?_; k_whole); intro l' h' F' N' l1; (try k_sweep)))
  (k_with "newTuple" => (k_here; k_dflt (refine' led_newTupleX (by k_asm) (by k_asm) (by exact Nat.le_of_ble_eq_true rfl) ?_; k_whole); intro l' h' F' N' l1; (try k_sweep)))
  (k_with "FinE" => ((unfold LCg.FinE); intro D' h' tk' F' N' o1'; (replace o1' := off1_off o1'); (try simp only [List.nil_append, List.cons_append] at N'); (try dsimp only)))
  (k_with "eval Constant str" => (k_here; k_dflt (refine' ev_str ?_; k_whole); intro t9' k9'))
  (k_with "eval Constant int" => (k_here; k_dflt (refine' ev_int ?_; k_whole); intro t9' k9'))
  (k_with "eval Tuple" => (k_here; k_dflt (first | ((with_reducible show wpAny _ _ (eval (Expr.Tuple [Expr.Constant (Const.str _) _ _] _ _) _) _ _ _); with_reducible refine' ev_t_s (by k_asm) (by k_asm) ?_; k_whole; intro t0' l' h' tk' F' N' l1; (try k_sweep)) | ((with_reducible show wpAny _ _ (eval (Expr.Tuple [Expr.Constant (Const.str _) _ _, Expr.Constant (Const.str _) _ _] _ _) _) _ _ _); with_reducible refine' ev_t_ss (by k_asm) (by k_asm) ?_; k_whole; intro t0' t1' l' h' tk' F' N' l1; (try k_sweep)) | ((with_reducible show wpAny _ _ (eval (Expr.Tuple [Expr.Constant (Const.str _) _ _, Expr.Constant (Const.int _) _ _] _ _) _) _ _ _); with_reducible refine' ev_t_si (by k_asm) (by k_asm) ?_; k_whole; intro t0' t1' l' h' tk' F' N' l1; (try k_sweep)))))
  (k_with "eval List" => (k_here; k_dflt (first | ((with_reducible show wpAny _ _ (eval (Expr.List [Expr.Constant (Const.str _) _ _, Expr.Constant (Const.str _) _ _] _) _) _ _ _); with_reducible refine' ev_l_ss (by k_asm) (by k_asm) ?_; k_whole; intro t0' t1' l' h' tk' F' N' l1; (try k_sweep)) | ((with_reducible show wpAny _ _ (eval (Expr.List [Expr.Constant (Const.str _) _ _, Expr.Constant (Const.str _) _ _, Expr.Constant (Const.str _) _ _] _) _) _ _ _); with_reducible refine' ev_l_sss (by k_asm) (by k_asm) ?_; k_whole; intro t0' t1' t2' l' h' tk' F' N' l1; (try k_sweep)))))
  (k_with "call ref" => (k_here; (with_reducible show wpAny _ _ (call (Value.ref 152) _ _) _ _ _); k_dflt (
    refine' Ctr.useT (by k_asm) (by k_asm) (by k_asm) (by k_asm) (by k_asm) (by kl_room) (by first | exact rfl | with_reducible assumption) (by ktr_room) (by ktr_units) (take_ctr (by first | decide | omega) (by with_reducible assumption) (by ki_room)) ?_;
    intro i9 a9 b9 t9 u9 tk9' h9 tk9 hi9 hi9' hb9 F9 N9; (try k_sweep))))
  (k_with "call ref" => (k_here; (with_reducible show wpAny _ _ (call (Value.ref 159) _ _) _ _ _); k_dflt (
    refine' Ctr.useO (by k_asm) (by k_asm) (by k_asm) (by k_asm) (by k_asm) (by kl_room) (by first | exact rfl | with_reducible assumption) (by ktr_room) (by ktr_units) (one_ctr (by with_reducible assumption) (by ki_room) (by kl_some) (by exact Nat.le_of_ble_eq_true rfl) (by exact Nat.le_of_ble_eq_true rfl)) ?_;
    intro r9 a9 b9 t9 u9 h9 tk9 hb9 hv9 F9 N9; (try k_sweep))))
  trivial
set_option maxRecDepth 100000 in
set_option maxHeartbeats 4000000 in
theorem place_ctr {prog : Program} {w : World} {src : Addr} {a b : Int} {t u : Tok} {n : Nat} {news : List (Addr × Obj)} (hb : Bnd b) (off : Off src news) :
    Ctr prog w 166 12 120 [.ref src] ((src, srcObj a b t u n) :: news)
      (Drawn src n news fun tl r => ∃ d, DatIn tl r d ∧ PlaceD d) := by
  refine ctr_intro ?_
  intro mean mg mb dp un gd cn cs ca ccd cl outer A₀ base h₀ L m hp sg sd st so Q E B F X N T hck hd hu hret
  refine wpAny_call ?_
  k_dflt ktr_enter
  refine gen_toks (sg := sg) (sd := sd) (so := so) ?_
  intro tk0
  k_steps
  all_goals (
    refine' drawn_fin hret (by k_asm) (by k_asm) (by kl_room) (by units_room1) (by with_reducible assumption) (by dictfold_kept) ?_
    repeat (
      rename _ ∈ [_, _, _, _, _] => hv1
      refine' step_then hv1 (by kl_some) (by kl_some) (by kl_some) (by kl_some) (by kl_some) ?_
      clear hv1
      intro d1 hd1 sd1)
    exact ⟨_, by kqd_in, PlaceD.mk _ _ (by repeat' (first | exact List.forall_mem_nil _ | refine' List.forall_mem_cons.mpr ⟨by with_reducible assumption, ?_⟩)) (Nat.le_of_ble_eq_true rfl)⟩)
end
section
theorem lines_C4 : True := by
  k_with_none
  (k_with "FinE" => ((unfold LCg.FinE); intro D' h' tk' F' N' o1'; (replace o1' := off1_off o1'); (try simp only [List.nil_append, List.cons_append] at N'); (try dsimp only)))
  (k_with "UnrEnd" => (k_dflt (refine' unr_end (by k_asm) (by k_asm) (by kl_room) (by ki_room) ?_; k_whole)))
  (k_with "subscriptTail Name Constant ref int" => (k_here; (with_reducible show wpAny _ _ (subscriptTail _ _ (Value.ref _) (Value.int _ _)) _ _ _); k_dflt (first
  | (refine' led_item (by k_asm) (by kl_some) (by decide) (by decide) (by rfl) ?_ (by with_unfolding_all rfl); k_whole)
  | (refine' led_itemT (by k_asm) (by kl_some) (by decide) (by decide) (by rfl) ?_ (by with_unfolding_all rfl); k_whole))))
  (k_with "ite" => (k_closed; first | (refine ite_no (by with_unfolding_all rfl) ?_) | (refine ite_yes (by with_unfolding_all rfl) ?_)))
  (k_with "newList" => (k_here; k_dflt (refine' led_newListX (by k_asm) (by k_asm) (by exact Nat.le_of_ble_eq_true rfl) ?_; k_whole); intro l' h' F' N' l1; (try k_sweep)))
  (k_with "newTuple" => (k_here; k_dflt (refine' led_newTupleX (by k_asm) (by k_asm) (by exact Nat.le_of_ble_eq_true rfl) ?_; k_whole); intro l' h' F' N' l1; (try k_sweep)))
  (k_with "FinE" => ((unfold LCg.FinE); intro D' h' tk' F' N' o1'; (replace o1' := off1_off o1'); (try simp only [List.nil_append, List.cons_append] at N'); (try dsimp only)))
  (k_with "eval Constant str" => (k_here; k_dflt (refine' ev_str ?_; k_whole); intro t9' k9'))
  (k_with "eval Constant int" => (k_here; k_dflt (refine' ev_int ?_; k_whole); intro t9' k9'))
  (k_with "eval Tuple" => (k_here; k_dflt (first | ((with_reducible show wpAny _ _ (eval (Expr.Tuple [Expr.Constant (Const.str _) _ _] _ _) _) _ _ _); with_reducible refine' ev_t_s (by k_asm) (by k_asm) ?_; k_whole; intro t0' l' h' tk' F' N' l1; (try k_sweep)) | ((with_reducible show wpAny _ _ (eval (Expr.Tuple [Expr.Constant (Const.str _) _ _, Expr.Constant (Const.str _) _ _] _ _) _) _ _ _); with_reducible refine' ev_t_ss (by k_asm) (by k_asm) ?_; k_whole; intro t0' t1' l' h' tk' F' N' l1; (try k_sweep)) | ((with_reducible show wpAny _ _ (eval (Expr.Tuple [Expr.Constant (Const.str _) _ _, Expr.Constant (Const.int _) _ _] _ _) _) _ _ _); with_reducible refine' ev_t_si (by k_asm) (by k_asm) ?_; k_whole; intro t0' t1' l' h' tk' F' N' l1; (try k_sweep)))))
  (k_with "eval List" => (k_here; k_dflt (first | ((with_reducible show wpAny _ _ (eval (Expr.List [Expr.Constant (Const.str _) _ _, Expr.Constant (Const.str _) _ _] _) _) _ _ _); with_reducible refine' ev_l_ss (by k_asm) (by k_asm) ?_; k_whole; intro t0' t1' l' h' tk' F' N' l1; (try k_sweep)) | ((with_reducible show wpAny _ _ (eval (Expr.List [Expr.Constant (Const.str _) _ _, Expr.Constant (Const.str _) _ _, Expr.Constant (Const.str _) _ _] _) _) _ _ _); with_reducible refine' ev_l_sss (by k_asm) (by k_asm) ?_; k_whole; intro t0' t1' t2' l' h' tk' F' N' l1; (try k_sweep)))))
  (k_with "call ref" => (k_here; (with_reducible show wpAny _ _ (call (Value.ref 152) _ _) _ _ _); k_dflt (
    refine' Ctr.useT (by k_asm) (by k_asm) (by k_asm) (by k_asm) (by k_asm) (by kl_room) (by first | exact rfl | with_reducible assumption) (by ktr_room) (by ktr_units) (take_ctr (by first | decide | omega) (by with_reducible assumption) (by ki_room)) ?_;
    intro i9 a9 b9 t9 u9 tk9' h9 tk9 hi9 hi9' hb9 F9 N9; (try k_sweep))))
  (k_with "call ref" => (k_here; (with_reducible show wpAny _ _ (call (Value.ref 166) _ _) _ _ _); k_dflt (
    refine' Ctr.useD1 (by k_asm) (by k_asm) (by k_asm) (by k_asm) (by k_asm) (by kl_room) (by first | exact rfl | with_reducible assumption) (by ktr_room) (by ktr_units) (place_ctr (by with_reducible assumption) (by ki_room)) ?_;
    intro r9 a9 b9 t9 u9 tl9 d9 h9 tk9 hb9 ha9 hd9 sd9 F9 N9; (try k_sweep))))
  (k_with "subscriptTail Name BinOp ref int" => (k_here; k_dflt (refine' led_itemAny (by k_asm) (by kl_some) (by omega) (by (simp only [List.length_cons, List.length_nil]; omega)) (by exact Nat.le_of_ble_eq_true rfl) ?_ (by with_unfolding_all rfl); k_whole); intro v9 hv9; simp only [List.mem_cons, List.not_mem_nil, or_false] at hv9; rcases hv9 with hv9 | hv9 <;> subst hv9))
  trivial
set_option maxRecDepth 100000 in
set_option maxHeartbeats 400000 in
theorem operand_ctr {prog : Program} {w : World} {src : Addr} {a b : Int} {t u : Tok} {n : Nat} {news : List (Addr × Obj)} (hb : Bnd b) (off : Off src news) :
    Ctr prog w 173 16 160 [.ref src] ((src, srcObj a b t u n) :: news) (Drawn src n news fun tl r => ∃ d l, DatIn tl r d ∧ OpA d l) := by
  refine ctr_intro ?_
  intro mean mg mb dp un gd cn cs ca ccd cl outer A₀ base h₀ L m hp sg sd st so Q E B F X N T hck hd hu hret
  refine wpAny_call ?_
  k_dflt ktr_enter
  refine gen_toks (sg := sg) (sd := sd) (so := so) ?_
  intro tk0
  k_steps
  all_goals (refine' drawn_fin hret (by k_asm) (by k_asm) (by kl_room) (by units_room1) (by with_reducible assumption) (by dictfold_kept) ?_)
  · exact ⟨_, _, by kqd_in, .const⟩
  · exact ⟨_, _, by kqd_in, .copy _ (by with_reducible assumption)⟩
  · exact ⟨_, _, by kqd_in, .move _ (by with_reducible assumption)⟩
end
section
theorem lines_C5 : True := by
  k_with_none
  (k_with "FinE" => ((unfold LCg.FinE); intro D' h' tk' F' N' o1'; (replace o1' := off1_off o1'); (try simp only [List.nil_append, List.cons_append] at N'); (try dsimp only)))
  (k_with "UnrEnd" => (k_dflt (refine' unr_end (by k_asm) (by k_asm) (by kl_room) (by ki_room) ?_; k_whole)))
  (k_with "subscriptTail Name Constant ref int" => (k_here; (with_reducible show wpAny _ _ (subscriptTail _ _ (Value.ref _) (Value.int _ _)) _ _ _); k_dflt (first
  | (refine' led_item (by k_asm) (by kl_some) (by decide) (by decide) (by rfl) ?_ (by with_unfolding_all rfl); k_whole)
  | (refine' led_itemT (by k_asm) (by kl_some) (by decide) (by decide) (by rfl) ?_ (by with_unfolding_all rfl); k_whole))))
  (k_with "ite" => (k_closed; first | (refine ite_no (by with_unfolding_all rfl) ?_) | (refine ite_yes (by with_unfolding_all rfl) ?_)))
  (k_with "newList" => (k_here; k_dflt (refine' led_newListX (by k_asm) (by k_asm) (by exact Nat.le_of_ble_eq_true rfl) ?_; k_whole); intro l' h' F' N' l1; (try k_sweep)))
  (k_with "newTuple" => (k_here; k_dflt (refine' led_newTupleX (by k_asm) (by k_asm) (by exact Nat.le_of_ble_eq_true rfl) ?_; k_whole); intro l' h' F' N' l1; (try k_sweep)))
  (k_with "FinE" => ((unfold LCg.FinE); intro D' h' tk' F' N' o1'; (replace o1' := off1_off o1'); (try simp only [List.nil_append, List.cons_append] at N'); (try dsimp only)))
  (k_with "eval Constant str" => (k_here; k_dflt (refine' ev_str ?_; k_whole); intro t9' k9'))
  (k_with "eval Constant int" => (k_here; k_dflt (refine' ev_int ?_; k_whole); intro t9' k9'))
  (k_with "eval Tuple" => (k_here; k_dflt (first | ((with_reducible show wpAny _ _ (eval (Expr.Tuple [Expr.Constant (Const.str _) _ _] _ _) _) _ _ _); with_reducible refine' ev_t_s (by k_asm) (by k_asm) ?_; k_whole; intro t0' l' h' tk' F' N' l1; (try k_sweep)) | ((with_reducible show wpAny _ _ (eval (Expr.Tuple [Expr.Constant (Const.str _) _ _, Expr.Constant (Const.str _) _ _] _ _) _) _ _ _); with_reducible refine' ev_t_ss (by k_asm) (by k_asm) ?_; k_whole; intro t0' t1' l' h' tk' F' N' l1; (try k_sweep)) | ((with_reducible show wpAny _ _ (eval (Expr.Tuple [Expr.Constant (Const.str _) _ _, Expr.Constant (Const.int _) _ _] _ _) _) _ _ _); with_reducible refine' ev_t_si (by k_asm) (by k_asm) ?_; k_whole; intro t0' t1' l' h' tk' F' N' l1; (try k_sweep)))))
  (k_with "eval List" => (k_here; k_dflt (first | ((with_reducible show wpAny _ _ (eval (Expr.List [Expr.Constant (Const.str _) _ _, Expr.Constant (Const.str _) _ _] _) _) _ _ _); with_reducible refine' ev_l_ss (by k_asm) (by k_asm) ?_; k_whole; intro t0' t1' l' h' tk' F' N' l1; (try k_sweep)) | ((with_reducible show wpAny _ _ (eval (Expr.List [Expr.Constant (Const.str _) _ _, Expr.Constant (Const.str _) _ _, Expr.Constant (Const.str _) _ _] _) _) _ _ _); with_reducible refine' ev_l_sss (by k_asm) (by k_asm) ?_; k_whole; intro t0' t1' t2' l' h' tk' F' N' l1; (try k_sweep)))))
  trivial
set_option maxRecDepth 100000 in
set_option maxHeartbeats 400000 in
theorem lofop_ctr {prog : Program} {w : World} {v : Value} {d : Dat} {l : List Dat} {sub news : List (Addr × Obj)} (hd : DatIn sub v d) (hs : ∀ p ∈ sub, p ∈ news) (o : OpA d l) :
    Ctr prog w 180 4 40 [v] news (Gave news fun tl r => ListIn 1 sub tl r l) := by
  cases o with
  | const =>
    obtain ⟨a, t, v2, v3, n, e, hm, h2, h3⟩ := invT3 hd
    subst e
    have hm := hs _ hm
    refine ctr_intro ?_
    intro mean mg mb dp un gd cn cs ca ccd cl outer A₀ base h₀ L m hp sg sd st so Q E B F X N T hck hd hu hret
    refine wpAny_call ?_
    k_dflt ktr_enter
    refine gen_toks (sg := sg) (sd := sd) (so := so) ?_
    intro tk0
    k_steps
    refine' gave_fin hret (by k_asm) (by k_asm) (by units_room1) (by dictfold_kept) (listIn_mk (by kl_some) ?_ (Nat.le_of_ble_eq_true rfl))
    kqd_all
  | copy p hp =>
    obtain ⟨a, t, v2, n, e, hm, h2⟩ := invT2 hd
    subst e
    have hm := hs _ hm
    refine ctr_intro ?_
    intro mean mg mb dp un gd cn cs ca ccd cl outer A₀ base h₀ L m hp sg sd st so Q E B F X N T hck hd hu hret
    refine wpAny_call ?_
    k_dflt ktr_enter
    refine gen_toks (sg := sg) (sd := sd) (so := so) ?_
    intro tk0
    k_steps
    refine' gave_fin hret (by k_asm) (by k_asm) (by units_room1) (by dictfold_kept) (listIn_mk (by kl_some) ?_ (Nat.le_of_ble_eq_true rfl))
    kqd_all
  | move p hp =>
    obtain ⟨a, t, v2, n, e, hm, h2⟩ := invT2 hd
    subst e
    have hm := hs _ hm
    refine ctr_intro ?_
    intro mean mg mb dp un gd cn cs ca ccd cl outer A₀ base h₀ L m hp sg sd st so Q E B F X N T hck hd hu hret
    refine wpAny_call ?_
    k_dflt ktr_enter
    refine gen_toks (sg := sg) (sd := sd) (so := so) ?_
    intro tk0
    k_steps
    refine' gave_fin hret (by k_asm) (by k_asm) (by units_room1) (by dictfold_kept) (listIn_mk (by kl_some) ?_ (Nat.le_of_ble_eq_true rfl))
    kqd_all
set_option maxRecDepth 100000 in
set_option maxHeartbeats 400000 in
theorem ofop_ctr {prog : Program} {w : World} {v : Value} {d : Dat} {l : List Dat} {sub news : List (Addr × Obj)} (hd : DatIn sub v d) (hs : ∀ p ∈ sub, p ∈ news) (o : OpA d l) :
    Ctr prog w 28 4 40 [v] news (Gave news fun tl r => ListIn 1 sub tl r l) := by
  cases o with
  | const =>
    obtain ⟨a, t, v2, v3, n, e, hm, h2, h3⟩ := invT3 hd
    subst e
    have hm := hs _ hm
    refine ctr_intro ?_
    intro mean mg mb dp un gd cn cs ca ccd cl outer A₀ base h₀ L m hp sg sd st so Q E B F X N T hck hd hu hret
    refine wpAny_call ?_
    k_dflt ktr_enter
    refine gen_toks (sg := sg) (sd := sd) (so := so) ?_
    intro tk0
    k_steps
    refine' gave_fin hret (by k_asm) (by k_asm) (by units_room1) (by dictfold_kept) (listIn_mk (by kl_some) ?_ (Nat.le_of_ble_eq_true rfl))
    kqd_all
  | copy p hp =>
    obtain ⟨a, t, v2, n, e, hm, h2⟩ := invT2 hd
    subst e
    have hm := hs _ hm
    refine ctr_intro ?_
    intro mean mg mb dp un gd cn cs ca ccd cl outer A₀ base h₀ L m hp sg sd st so Q E B F X N T hck hd hu hret
    refine wpAny_call ?_
    k_dflt ktr_enter
    refine gen_toks (sg := sg) (sd := sd) (so := so) ?_
    intro tk0
    k_steps
    refine' gave_fin hret (by k_asm) (by k_asm) (by units_room1) (by dictfold_kept) (listIn_mk (by kl_some) ?_ (Nat.le_of_ble_eq_true rfl))
    kqd_all
  | move p hp =>
    obtain ⟨a, t, v2, n, e, hm, h2⟩ := invT2 hd
    subst e
    have hm := hs _ hm
    refine ctr_intro ?_
    intro mean mg mb dp un gd cn cs ca ccd cl outer A₀ base h₀ L m hp sg sd st so Q E B F X N T hck hd hu hret
    refine wpAny_call ?_
    k_dflt ktr_enter
    refine gen_toks (sg := sg) (sd := sd) (so := so) ?_
    intro tk0
    k_steps
    refine' gave_fin hret (by k_asm) (by k_asm) (by units_room1) (by dictfold_kept) (listIn_mk (by kl_some) ?_ (Nat.le_of_ble_eq_true rfl))
    kqd_all
end
section
theorem lines_C5b : True := by
  k_with_none
  (k_with "FinE" => ((unfold LCg.FinE); intro D' h' tk' F' N' o1'; (replace o1' := off1_off o1'); (try simp only [List.nil_append, List.cons_append] at N'); (try dsimp only)))
  (k_with "UnrEnd" => (k_dflt (refine' unr_end (by k_asm) (by k_asm) (by kl_room) (by ki_room) ?_; k_whole)))
  (k_with "subscriptTail Name Constant ref int" => (k_here; (with_reducible show wpAny _ _ (subscriptTail _ _ (Value.ref _) (Value.int _ _)) _ _ _); k_dflt (first
  | (refine' led_item (by k_asm) (by kl_some) (by decide) (by decide) (by rfl) ?_ (by with_unfolding_all rfl); k_whole)
  | (refine' led_itemT (by k_asm) (by kl_some) (by decide) (by decide) (by rfl) ?_ (by with_unfolding_all rfl); k_whole))))
  (k_with "ite" => (k_closed; first | (refine ite_no (by with_unfolding_all rfl) ?_) | (refine ite_yes (by with_unfolding_all rfl) ?_)))
  (k_with "newList" => (k_here; k_dflt (refine' led_newListX (by k_asm) (by k_asm) (by exact Nat.le_of_ble_eq_true rfl) ?_; k_whole); intro l' h' F' N' l1; (try k_sweep)))
  (k_with "newTuple" => (k_here; k_dflt (refine' led_newTupleX (by k_asm) (by k_asm) (by exact Nat.le_of_ble_eq_true rfl) ?_; k_whole); intro l' h' F' N' l1; (try k_sweep)))
  (k_with "FinE" => ((unfold LCg.FinE); intro D' h' tk' F' N' o1'; (replace o1' := off1_off o1'); (try simp only [List.nil_append, List.cons_append] at N'); (try dsimp only)))
  (k_with "eval Constant str" => (k_here; k_dflt (refine' ev_str ?_; k_whole); intro t9' k9'))
  (k_with "eval Constant int" => (k_here; k_dflt (refine' ev_int ?_; k_whole); intro t9' k9'))
  (k_with "eval Tuple" => (k_here; k_dflt (first | ((with_reducible show wpAny _ _ (eval (Expr.Tuple [Expr.Constant (Const.str _) _ _] _ _) _) _ _ _); with_reducible refine' ev_t_s (by k_asm) (by k_asm) ?_; k_whole; intro t0' l' h' tk' F' N' l1; (try k_sweep)) | ((with_reducible show wpAny _ _ (eval (Expr.Tuple [Expr.Constant (Const.str _) _ _, Expr.Constant (Const.str _) _ _] _ _) _) _ _ _); with_reducible refine' ev_t_ss (by k_asm) (by k_asm) ?_; k_whole; intro t0' t1' l' h' tk' F' N' l1; (try k_sweep)) | ((with_reducible show wpAny _ _ (eval (Expr.Tuple [Expr.Constant (Const.str _) _ _, Expr.Constant (Const.int _) _ _] _ _) _) _ _ _); with_reducible refine' ev_t_si (by k_asm) (by k_asm) ?_; k_whole; intro t0' t1' l' h' tk' F' N' l1; (try k_sweep)))))
  (k_with "eval List" => (k_here; k_dflt (first | ((with_reducible show wpAny _ _ (eval (Expr.List [Expr.Constant (Const.str _) _ _, Expr.Constant (Const.str _) _ _] _) _) _ _ _); with_reducible refine' ev_l_ss (by k_asm) (by k_asm) ?_; k_whole; intro t0' t1' l' h' tk' F' N' l1; (try k_sweep)) | ((with_reducible show wpAny _ _ (eval (Expr.List [Expr.Constant (Const.str _) _ _, Expr.Constant (Const.str _) _ _, Expr.Constant (Const.str _) _ _] _) _) _ _ _); with_reducible refine' ev_l_sss (by k_asm) (by k_asm) ?_; k_whole; intro t0' t1' t2' l' h' tk' F' N' l1; (try k_sweep)))))
  trivial
set_option maxRecDepth 100000 in
set_option maxHeartbeats 800000 in
theorem ofbor_ctr {prog : Program} {w : World} {v : Value} {x : Str} {t : Tok} {p : Dat} {l : List Dat} {sub news : List (Addr × Obj)} (hd : DatIn sub v p) (hs : ∀ p ∈ sub, p ∈ news) (o : BorA x p l) :
    Ctr prog w 42 4 40 [.str x t, v] news (Gave news fun tl r => ListIn 1 sub tl r l) := by
  cases o with
  | shared p hp =>
    refine ctr_intro ?_
    intro mean mg mb dp un gd cn cs ca ccd cl outer A₀ base h₀ L m hp sg sd st so Q E B F X N T hck hd hu hret
    refine wpAny_call ?_
    k_dflt ktr_enter
    refine gen_toks (sg := sg) (sd := sd) (so := so) ?_
    intro tk0
    k_steps
    refine' gave_fin hret (by k_asm) (by k_asm) (by units_room1) (by dictfold_kept) (listIn_mk (by kl_some) ?_ (by ((try simp only [List.length_cons, List.length_nil, List.length_append]); omega)))
    kqd_all
  | bmut p hp =>
    refine ctr_intro ?_
    intro mean mg mb dp un gd cn cs ca ccd cl outer A₀ base h₀ L m hp sg sd st so Q E B F X N T hck hd hu hret
    refine wpAny_call ?_
    k_dflt ktr_enter
    refine gen_toks (sg := sg) (sd := sd) (so := so) ?_
    intro tk0
    k_steps
    refine' gave_fin hret (by k_asm) (by k_asm) (by units_room1) (by dictfold_kept) (listIn_mk (by kl_some) ?_ (by ((try simp only [List.length_cons, List.length_nil, List.length_append]); omega)))
    kqd_all
  | two p hp =>
    refine ctr_intro ?_
    intro mean mg mb dp un gd cn cs ca ccd cl outer A₀ base h₀ L m hp sg sd st so Q E B F X N T hck hd hu hret
    refine wpAny_call ?_
    k_dflt ktr_enter
    refine gen_toks (sg := sg) (sd := sd) (so := so) ?_
    intro tk0
    k_steps
    refine' gave_fin hret (by k_asm) (by k_asm) (by units_room1) (by dictfold_kept) (listIn_mk (by kl_some) ?_ (by ((try simp only [List.length_cons, List.length_nil, List.length_append]); omega)))
    kqd_all
end
section
theorem lines_C6 : True := by
  k_with_none
  (k_with "FinE" => ((unfold LCg.FinE); intro D' h' tk' F' N' o1'; (replace o1' := off1_off o1'); (try simp only [List.nil_append, List.cons_append] at N'); (try dsimp only)))
  (k_with "UnrEnd" => (k_dflt (refine' unr_end (by k_asm) (by k_asm) (by kl_room) (by ki_room) ?_; k_whole)))
  (k_with "subscriptTail Name Constant ref int" => (k_here; (with_reducible show wpAny _ _ (subscriptTail _ _ (Value.ref _) (Value.int _ _)) _ _ _); k_dflt (first
  | (refine' led_item (by k_asm) (by kl_some) (by decide) (by decide) (by rfl) ?_ (by with_unfolding_all rfl); k_whole)
  | (refine' led_itemT (by k_asm) (by kl_some) (by decide) (by decide) (by rfl) ?_ (by with_unfolding_all rfl); k_whole))))
  (k_with "ite" => (k_closed; first | (refine ite_no (by with_unfolding_all rfl) ?_) | (refine ite_yes (by with_unfolding_all rfl) ?_)))
  (k_with "newList" => (k_here; k_dflt (refine' led_newListX (by k_asm) (by k_asm) (by exact Nat.le_of_ble_eq_true rfl) ?_; k_whole); intro l' h' F' N' l1; (try k_sweep)))
  (k_with "newTuple" => (k_here; k_dflt (refine' led_newTupleX (by k_asm) (by k_asm) (by exact Nat.le_of_ble_eq_true rfl) ?_; k_whole); intro l' h' F' N' l1; (try k_sweep)))
  (k_with "FinE" => ((unfold LCg.FinE); intro D' h' tk' F' N' o1'; (replace o1' := off1_off o1'); (try simp only [List.nil_append, List.cons_append] at N'); (try dsimp only)))
  (k_with "eval Constant str" => (k_here; k_dflt (refine' ev_str ?_; k_whole); intro t9' k9'))
  (k_with "eval Constant int" => (k_here; k_dflt (refine' ev_int ?_; k_whole); intro t9' k9'))
  (k_with "eval Tuple" => (k_here; k_dflt (first | ((with_reducible show wpAny _ _ (eval (Expr.Tuple [Expr.Constant (Const.str _) _ _] _ _) _) _ _ _); with_reducible refine' ev_t_s (by k_asm) (by k_asm) ?_; k_whole; intro t0' l' h' tk' F' N' l1; (try k_sweep)) | ((with_reducible show wpAny _ _ (eval (Expr.Tuple [Expr.Constant (Const.str _) _ _, Expr.Constant (Const.str _) _ _] _ _) _) _ _ _); with_reducible refine' ev_t_ss (by k_asm) (by k_asm) ?_; k_whole; intro t0' t1' l' h' tk' F' N' l1; (try k_sweep)) | ((with_reducible show wpAny _ _ (eval (Expr.Tuple [Expr.Constant (Const.str _) _ _, Expr.Constant (Const.int _) _ _] _ _) _) _ _ _); with_reducible refine' ev_t_si (by k_asm) (by k_asm) ?_; k_whole; intro t0' t1' l' h' tk' F' N' l1; (try k_sweep)))))
  (k_with "eval List" => (k_here; k_dflt (first | ((with_reducible show wpAny _ _ (eval (Expr.List [Expr.Constant (Const.str _) _ _, Expr.Constant (Const.str _) _ _] _) _) _ _ _); with_reducible refine' ev_l_ss (by k_asm) (by k_asm) ?_; k_whole; intro t0' t1' l' h' tk' F' N' l1; (try k_sweep)) | ((with_reducible show wpAny _ _ (eval (Expr.List [Expr.Constant (Const.str _) _ _, Expr.Constant (Const.str _) _ _, Expr.Constant (Const.str _) _ _] _) _) _ _ _); with_reducible refine' ev_l_sss (by k_asm) (by k_asm) ?_; k_whole; intro t0' t1' t2' l' h' tk' F' N' l1; (try k_sweep)))))
  (k_with "call ref" => (k_here; (with_reducible show wpAny _ _ (call (Value.ref 28) _ _) _ _ _); k_dflt (
    refine' Ctr.useG (by k_asm) (by k_asm) (by k_asm) (by k_asm) (by k_asm) (by first | exact rfl | with_reducible assumption) (by ktr_room) (by ktr_units) (ofop_ctr (by with_reducible assumption) (by kt_l_size) (by with_reducible assumption)) ?_;
    intro tl9 q9 vs9 m9 h9 tk9 ha9 hm9 hv9 hz9 F9 N9; (try k_sweep))))
  (k_with "call builtin:list.extend" => (k_here; (with_reducible show wpAny _ _ (call (Value.builtin _) [Value.ref _, Value.ref _]) _ _ _); k_dflt (refine' led_extendX (by k_asm) (by k_asm) (by kl_some) (by kl_room) (by ki_room) (by ((try simp only [List.length_cons, List.length_nil, List.length_append]); omega)) ?_; k_whole); intro h' n' F' N'; (try simp only [List.nil_append, List.cons_append] at N'); (try k_sweep)))
  (k_with "exec For Name Name cons nil" => (k_here; (rename Fr _ _ _ _ => lF'); (with_unfolding_all refine' For_turns lF' ?_; k_whole)))
  (k_with "pyIter ref" => (k_here; (with_reducible show wpAny _ _ (pyIter (Value.ref _)) (fun it s₂ => TurnsAt _ _ _ _ _ _ _ _ _ it s₂) _ _); k_dflt (first
  | (refine' turns_tup (by exact rfl) (by k_asm) (by k_asm) (by kl_some) ?_; k_whole)
  | (refine' turns_list (by exact rfl) (by k_asm) (by k_asm) (by kl_some) ?_; k_whole)); intro i' l1; (try k_lt l1)))
  (k_with "UnrEndW" => (k_dflt (refine' unrw_end (by k_asm) (by k_asm) (by kl_room) (by ki_room) (by repeat' (first | exact True.intro | refine' And.intro ?_ ?_ | kl_some)) ?_; k_whole)))
  trivial
set_option maxRecDepth 100000 in
set_option maxHeartbeats 400000 in
theorem ofops_ctr {prog : Program} {w : World} {v : Value} {d1 d2 : Dat} {l1 l2 : List Dat} {sub news : List (Addr × Obj)} (hd : DatIn sub v (.tuple [d1, d2])) (hs : ∀ p ∈ sub, p ∈ news) (o1 : OpA d1 l1) (o2 : OpA d2 l2) :
    Ctr prog w 35 8 80 [v] news (Gave news fun tl r => ListIn 2 sub tl r (l1 ++ l2)) := by
  obtain ⟨a, vs, n, e, hm, hd⟩ := invT hd
  obtain ⟨v1, _, e1, h1, hd⟩ := inv1 hd
  obtain ⟨v2, _, e2, h2, hd⟩ := inv1 hd
  have e3 := inv0 hd
  subst e e1 e2 e3
  have hm := hs _ hm
  refine ctr_intro ?_
  intro mean mg mb dp un gd cn cs ca ccd cl outer A₀ base h₀ L m hp sg sd st so Q E B F X N T hck hd hu hret
  refine wpAny_call ?_
  k_dflt ktr_enter
  refine gen_toks (sg := sg) (sd := sd) (so := so) ?_
  intro tk0
  k_steps
  refine' gave_fin hret (by k_asm) (by k_asm) (by units_room1) (by dictfold_kept) (listIn_mk (by kl_some) ?_ (by ((try simp only [List.length_cons, List.length_nil, List.length_append]); omega)))
  kqd_all
end
section
theorem lines_C7 : True := by
  k_with_none
  (k_with "FinE" => ((unfold LCg.FinE); intro D' h' tk' F' N' o1'; (replace o1' := off1_off o1'); (try simp only [List.nil_append, List.cons_append] at N'); (try dsimp only)))
  (k_with "UnrEnd" => (k_dflt (refine' unr_end (by k_asm) (by k_asm) (by kl_room) (by ki_room) ?_; k_whole)))
  (k_with "subscriptTail Name Constant ref int" => (k_here; (with_reducible show wpAny _ _ (subscriptTail _ _ (Value.ref _) (Value.int _ _)) _ _ _); k_dflt (first
  | (refine' led_item (by k_asm) (by kl_some) (by decide) (by decide) (by rfl) ?_ (by with_unfolding_all rfl); k_whole)
  | (refine' led_itemT (by k_asm) (by kl_some) (by decide) (by decide) (by rfl) ?_ (by with_unfolding_all rfl); k_whole))))
  (k_with "ite" => (k_closed; first | (refine ite_no (by with_unfolding_all rfl) ?_) | (refine ite_yes (by with_unfolding_all rfl) ?_)))
  (k_with "newList" => (k_here; k_dflt (refine' led_newListX (by k_asm) (by k_asm) (by exact Nat.le_of_ble_eq_true rfl) ?_; k_whole); intro l' h' F' N' l1; (try k_sweep)))
  (k_with "newTuple" => (k_here; k_dflt (refine' led_newTupleX (by k_asm) (by k_asm) (by exact Nat.le_of_ble_eq_true rfl) ?_; k_whole); intro l' h' F' N' l1; (try k_sweep)))
  (k_with "FinE" => ((unfold LCg.FinE); intro D' h' tk' F' N' o1'; (replace o1' := off1_off o1'); (try simp only [List.nil_append, List.cons_append] at N'); (try dsimp only)))
  (k_with "eval Constant str" => (k_here; k_dflt (refine' ev_str ?_; k_whole); intro t9' k9'))
  (k_with "eval Constant int" => (k_here; k_dflt (refine' ev_int ?_; k_whole); intro t9' k9'))
  (k_with "eval Tuple" => (k_here; k_dflt (first | ((with_reducible show wpAny _ _ (eval (Expr.Tuple [Expr.Constant (Const.str _) _ _] _ _) _) _ _ _); with_reducible refine' ev_t_s (by k_asm) (by k_asm) ?_; k_whole; intro t0' l' h' tk' F' N' l1; (try k_sweep)) | ((with_reducible show wpAny _ _ (eval (Expr.Tuple [Expr.Constant (Const.str _) _ _, Expr.Constant (Const.str _) _ _] _ _) _) _ _ _); with_reducible refine' ev_t_ss (by k_asm) (by k_asm) ?_; k_whole; intro t0' t1' l' h' tk' F' N' l1; (try k_sweep)) | ((with_reducible show wpAny _ _ (eval (Expr.Tuple [Expr.Constant (Const.str _) _ _, Expr.Constant (Const.int _) _ _] _ _) _) _ _ _); with_reducible refine' ev_t_si (by k_asm) (by k_asm) ?_; k_whole; intro t0' t1' l' h' tk' F' N' l1; (try k_sweep)))))
  (k_with "eval List" => (k_here; k_dflt (first | ((with_reducible show wpAny _ _ (eval (Expr.List [Expr.Constant (Const.str _) _ _, Expr.Constant (Const.str _) _ _] _) _) _ _ _); with_reducible refine' ev_l_ss (by k_asm) (by k_asm) ?_; k_whole; intro t0' t1' l' h' tk' F' N' l1; (try k_sweep)) | ((with_reducible show wpAny _ _ (eval (Expr.List [Expr.Constant (Const.str _) _ _, Expr.Constant (Const.str _) _ _, Expr.Constant (Const.str _) _ _] _) _) _ _ _); with_reducible refine' ev_l_sss (by k_asm) (by k_asm) ?_; k_whole; intro t0' t1' t2' l' h' tk' F' N' l1; (try k_sweep)))))
  (k_with "call ref" => (k_here; (with_reducible show wpAny _ _ (call (Value.ref 152) _ _) _ _ _); k_dflt (
    refine' Ctr.useT (by k_asm) (by k_asm) (by k_asm) (by k_asm) (by k_asm) (by kl_room) (by first | exact rfl | with_reducible assumption) (by ktr_room) (by ktr_units) (take_ctr (by first | decide | omega) (by with_reducible assumption) (by ki_room)) ?_;
    intro i9 a9 b9 t9 u9 tk9' h9 tk9 hi9 hi9' hb9 F9 N9; (try k_sweep))))
  (k_with "call ref" => (k_here; (with_reducible show wpAny _ _ (call (Value.ref 159) _ _) _ _ _); k_dflt (first | (refine' Ctr.useO3 (by k_asm) (by k_asm) (by k_asm) (by k_asm) (by k_asm) (by kl_room) (by first | exact rfl | with_reducible assumption) (by ktr_room) (by ktr_units) (one_ctr (by with_reducible assumption) (by ki_room) (by kl_some) (by exact Nat.le_of_ble_eq_true rfl) (by exact Nat.le_of_ble_eq_true rfl)) ?_ ?_ ?_ <;> (intro a9 b9 t9 u9 h9 tk9 hb9 F9 N9; try k_sweep)) | (refine' Ctr.useO2 (by k_asm) (by k_asm) (by k_asm) (by k_asm) (by k_asm) (by kl_room) (by first | exact rfl | with_reducible assumption) (by ktr_room) (by ktr_units) (one_ctr (by with_reducible assumption) (by ki_room) (by kl_some) (by exact Nat.le_of_ble_eq_true rfl) (by exact Nat.le_of_ble_eq_true rfl)) ?_ ?_ <;> (intro a9 b9 t9 u9 h9 tk9 hb9 F9 N9; try k_sweep)))))
  (k_with "call ref" => (k_here; (with_reducible show wpAny _ _ (call (Value.ref 166) _ _) _ _ _); k_dflt (
    refine' Ctr.useD1 (by k_asm) (by k_asm) (by k_asm) (by k_asm) (by k_asm) (by kl_room) (by first | exact rfl | with_reducible assumption) (by ktr_room) (by ktr_units) (place_ctr (by with_reducible assumption) (by ki_room)) ?_;
    intro r9 a9 b9 t9 u9 tl9 d9 h9 tk9 hb9 ha9 hd9 sd9 F9 N9; (try k_sweep))))
  (k_with "call ref" => (k_here; (with_reducible show wpAny _ _ (call (Value.ref 173) _ _) _ _ _); k_dflt (
    refine' Ctr.useD2 (by k_asm) (by k_asm) (by k_asm) (by k_asm) (by k_asm) (by kl_room) (by first | exact rfl | with_reducible assumption) (by ktr_room) (by ktr_units) (operand_ctr (by with_reducible assumption) (by ki_room)) ?_;
    intro r9 a9 b9 t9 u9 tl9 d9 l9 h9 tk9 hb9 ha9 hd9 sd9 F9 N9; (try k_sweep))))
  (k_with "call ref" => (k_here; (with_reducible show wpAny _ _ (call (Value.ref 180) _ _) _ _ _); k_dflt (
    refine' Ctr.useG (by k_asm) (by k_asm) (by k_asm) (by k_asm) (by k_asm) (by first | exact rfl | with_reducible assumption) (by ktr_room) (by ktr_units) (lofop_ctr (by with_reducible assumption) (by kt_l_size) (by with_reducible assumption)) ?_;
    intro tl9 q9 vs9 m9 h9 tk9 ha9 hm9 hv9 hz9 F9 N9; (try k_sweep))))
  (k_with "binaryOp Add ref ref" => (k_here; k_dflt (refine' led_addX (by k_asm) (by k_asm) (by kl_some) (by kl_some) (by ((try simp only [List.length_cons, List.length_nil, List.length_append]); omega)) ?_; k_whole); intro D' h' F' N' l1; (try simp only [List.nil_append, List.cons_append] at N'); (try k_sweep)))
  trivial
set_option maxRecDepth 100000 in
set_option maxHeartbeats 8000000 in
theorem rvalue_ctr {prog : Program} {w : World} {src : Addr} {a b : Int} {t u : Tok} {n : Nat} {news : List (Addr × Obj)} (hb : Bnd b) (off : Off src news) :
    Ctr prog w 187 20 200 [.ref src] ((src, srcObj a b t u n) :: news) (Drawn src n news fun tl r => ∃ d l, DatIn tl r (.list [d, .list l]) ∧ RvA d l) := by
  refine ctr_intro ?_
  intro mean mg mb dp un gd cn cs ca ccd cl outer A₀ base h₀ L m hp sg sd st so Q E B F X N T hck hd hu hret
  refine wpAny_call ?_
  k_dflt ktr_enter
  refine gen_toks (sg := sg) (sd := sd) (so := so) ?_
  intro tk0
  repeat' ((fail_if_success (with_reducible show wpAny _ _ (exec (Stmt.If _ _ _ _) _) _ _ _)); first | (k_unfold; (try dsimp only)) | (k_end; wrow_close) | walk1 | (dsimp only; walk1) | (leave1; walk_say "STEP leave1"; try dsimp only) | fail "no step")
  rename _ < (10 : Int) => hw1
  have hw2 := split10 (by with_reducible assumption) hw1
  rcases hw2 with hw2 | hw2 | hw2 | hw2 | hw2 | hw2 | hw2 | hw2 | hw2 | hw2 <;> subst hw2
  all_goals k_steps
  all_goals (refine' drawn_fin hret (by k_asm) (by k_asm) (by kl_room) (by units_room1) (by with_reducible assumption) (by dictfold_kept) ?_)
  · exact ⟨_, _, by kqd_in, .shared _ (by with_reducible assumption)⟩
  · exact ⟨_, _, by kqd_in, .bmut _ (by with_reducible assumption)⟩
  · exact ⟨_, _, by kqd_in, .two _ (by with_reducible assumption)⟩
  · exact ⟨_, _, by kqd_in, .disc _ (by with_reducible assumption)⟩
  · exact ⟨_, _, by kqd_in, .binary _ _ _ _ (by with_reducible assumption) (by with_reducible assumption)⟩
  · exact ⟨_, _, by kqd_in, .checked _ _ _ _ (by with_reducible assumption) (by with_reducible assumption)⟩
  · exact ⟨_, _, by kqd_in, .tuple _ _ _ _ (by with_reducible assumption) (by with_reducible assumption)⟩
  · exact ⟨_, _, by kqd_in, .array _ _ _ _ (by with_reducible assumption) (by with_reducible assumption)⟩
  · exact ⟨_, _, by kqd_in, .adt _ _ _ _ (by with_reducible assumption) (by with_reducible assumption)⟩
  · exact ⟨_, _, by kqd_in, .unary _ _ (by with_reducible assumption)⟩
  · exact ⟨_, _, by kqd_in, .cast _ _ (by with_reducible assumption)⟩
  · exact ⟨_, _, by kqd_in, .use _ _ (by with_reducible assumption)⟩
  · exact ⟨_, _, by kqd_in, .box _ _ (by with_reducible assumption)⟩
end
section
theorem lines_C8 : True := by
  k_with_none
  (k_with "FinE" => ((unfold LCg.FinE); intro D' h' tk' F' N' o1'; (replace o1' := off1_off o1'); (try simp only [List.nil_append, List.cons_append] at N'); (try dsimp only)))
  (k_with "UnrEnd" => (k_dflt (refine' unr_end (by k_asm) (by k_asm) (by kl_room) (by ki_room) ?_; k_whole)))
  (k_with "subscriptTail Name Constant ref int" => (k_here; (with_reducible show wpAny _ _ (subscriptTail _ _ (Value.ref _) (Value.int _ _)) _ _ _); k_dflt (first
  | (refine' led_item (by k_asm) (by kl_some) (by decide) (by decide) (by rfl) ?_ (by with_unfolding_all rfl); k_whole)
  | (refine' led_itemT (by k_asm) (by kl_some) (by decide) (by decide) (by rfl) ?_ (by with_unfolding_all rfl); k_whole))))
  (k_with "ite" => (k_closed; first | (refine ite_no (by with_unfolding_all rfl) ?_) | (refine ite_yes (by with_unfolding_all rfl) ?_)))
  (k_with "newList" => (k_here; k_dflt (refine' led_newListX (by k_asm) (by k_asm) (by exact Nat.le_of_ble_eq_true rfl) ?_; k_whole); intro l' h' F' N' l1; (try k_sweep)))
  (k_with "newTuple" => (k_here; k_dflt (refine' led_newTupleX (by k_asm) (by k_asm) (by exact Nat.le_of_ble_eq_true rfl) ?_; k_whole); intro l' h' F' N' l1; (try k_sweep)))
  (k_with "FinE" => ((unfold LCg.FinE); intro D' h' tk' F' N' o1'; (replace o1' := off1_off o1'); (try simp only [List.nil_append, List.cons_append] at N'); (try dsimp only)))
  (k_with "eval Constant str" => (k_here; k_dflt (refine' ev_str ?_; k_whole); intro t9' k9'))
  (k_with "eval Constant int" => (k_here; k_dflt (refine' ev_int ?_; k_whole); intro t9' k9'))
  (k_with "eval Tuple" => (k_here; k_dflt (first | ((with_reducible show wpAny _ _ (eval (Expr.Tuple [Expr.Constant (Const.str _) _ _] _ _) _) _ _ _); with_reducible refine' ev_t_s (by k_asm) (by k_asm) ?_; k_whole; intro t0' l' h' tk' F' N' l1; (try k_sweep)) | ((with_reducible show wpAny _ _ (eval (Expr.Tuple [Expr.Constant (Const.str _) _ _, Expr.Constant (Const.str _) _ _] _ _) _) _ _ _); with_reducible refine' ev_t_ss (by k_asm) (by k_asm) ?_; k_whole; intro t0' t1' l' h' tk' F' N' l1; (try k_sweep)) | ((with_reducible show wpAny _ _ (eval (Expr.Tuple [Expr.Constant (Const.str _) _ _, Expr.Constant (Const.int _) _ _] _ _) _) _ _ _); with_reducible refine' ev_t_si (by k_asm) (by k_asm) ?_; k_whole; intro t0' t1' l' h' tk' F' N' l1; (try k_sweep)))))
  (k_with "eval List" => (k_here; k_dflt (first | ((with_reducible show wpAny _ _ (eval (Expr.List [Expr.Constant (Const.str _) _ _, Expr.Constant (Const.str _) _ _] _) _) _ _ _); with_reducible refine' ev_l_ss (by k_asm) (by k_asm) ?_; k_whole; intro t0' t1' l' h' tk' F' N' l1; (try k_sweep)) | ((with_reducible show wpAny _ _ (eval (Expr.List [Expr.Constant (Const.str _) _ _, Expr.Constant (Const.str _) _ _, Expr.Constant (Const.str _) _ _] _) _) _ _ _); with_reducible refine' ev_l_sss (by k_asm) (by k_asm) ?_; k_whole; intro t0' t1' t2' l' h' tk' F' N' l1; (try k_sweep)))))
  (k_with "call ref" => (k_here; (with_reducible show wpAny _ _ (call (Value.ref 42) _ _) _ _ _); k_dflt (
    refine' Ctr.useG (by k_asm) (by k_asm) (by k_asm) (by k_asm) (by k_asm) (by first | exact rfl | with_reducible assumption) (by ktr_room) (by ktr_units) (ofbor_ctr (by with_reducible assumption) (by kt_l_size) (by first | exact BorA.shared _ (by with_reducible assumption) | exact BorA.bmut _ (by with_reducible assumption) | exact BorA.two _ (by with_reducible assumption))) ?_;
    intro tl9 q9 vs9 m9 h9 tk9 ha9 hm9 hv9 hz9 F9 N9; (try k_sweep))))
  (k_with "call ref" => (k_here; (with_reducible show wpAny _ _ (call (Value.ref 28) _ _) _ _ _); k_dflt (
    refine' Ctr.useG (by k_asm) (by k_asm) (by k_asm) (by k_asm) (by k_asm) (by first | exact rfl | with_reducible assumption) (by ktr_room) (by ktr_units) (ofop_ctr (by with_reducible assumption) (by kt_l_size) (by with_reducible assumption)) ?_;
    intro tl9 q9 vs9 m9 h9 tk9 ha9 hm9 hv9 hz9 F9 N9; (try k_sweep))))
  (k_with "call ref" => (k_here; (with_reducible show wpAny _ _ (call (Value.ref 35) _ _) _ _ _); k_dflt (
    refine' Ctr.useG (by k_asm) (by k_asm) (by k_asm) (by k_asm) (by k_asm) (by first | exact rfl | with_reducible assumption) (by ktr_room) (by ktr_units) (ofops_ctr (by with_reducible assumption) (by kt_l_size) (by with_reducible assumption) (by with_reducible assumption)) ?_;
    intro tl9 q9 vs9 m9 h9 tk9 ha9 hm9 hv9 hz9 F9 N9; (try k_sweep))))
  (k_with "binaryOp Add ref ref" => (k_here; k_dflt (refine' led_addX (by k_asm) (by k_asm) (by kl_some) (by kl_some) (by ((try simp only [List.length_cons, List.length_nil, List.length_append]); omega)) ?_; k_whole); intro D' h' F' N' l1; (try simp only [List.nil_append, List.cons_append] at N'); (try k_sweep)))
  trivial
set_option maxRecDepth 100000 in
set_option maxHeartbeats 8000000 in
theorem ofrv_ctr {prog : Program} {w : World} {v : Value} {d : Dat} {l : List Dat} {sub news : List (Addr × Obj)} (hd : DatIn sub v d) (hs : ∀ p ∈ sub, p ∈ news) (o : RvA d l) :
    Ctr prog w 49 14 140 [v] news (Gave news fun tl r => ListIn 2 sub tl r l) := by
  cases o with
  | shared p hp =>
    obtain ⟨a, t, v2, v3, v4, n, e, hm, h2, h3, h4⟩ := invT4 hd
    subst e
    have hm := hs _ hm
    obtain ⟨t3, e3⟩ := invS h3
    subst e3
    refine ctr_intro ?_
    intro mean mg mb dp un gd cn cs ca ccd cl outer A₀ base h₀ L m hp sg sd st so Q E B F X N T hck hd hu hret
    refine wpAny_call ?_
    k_dflt ktr_enter
    refine gen_toks (sg := sg) (sd := sd) (so := so) ?_
    intro tk0
    k_steps
    refine' gave_fin hret (by k_asm) (by k_asm) (by units_room1) (by dictfold_kept) (listIn_mk (by kl_some) ?_ (by ((try simp only [List.length_cons, List.length_nil, List.length_append]); omega)))
    kqd_all
  | bmut p hp =>
    obtain ⟨a, t, v2, v3, v4, n, e, hm, h2, h3, h4⟩ := invT4 hd
    subst e
    have hm := hs _ hm
    obtain ⟨t3, e3⟩ := invS h3
    subst e3
    refine ctr_intro ?_
    intro mean mg mb dp un gd cn cs ca ccd cl outer A₀ base h₀ L m hp sg sd st so Q E B F X N T hck hd hu hret
    refine wpAny_call ?_
    k_dflt ktr_enter
    refine gen_toks (sg := sg) (sd := sd) (so := so) ?_
    intro tk0
    k_steps
    refine' gave_fin hret (by k_asm) (by k_asm) (by units_room1) (by dictfold_kept) (listIn_mk (by kl_some) ?_ (by ((try simp only [List.length_cons, List.length_nil, List.length_append]); omega)))
    kqd_all
  | two p hp =>
    obtain ⟨a, t, v2, v3, v4, n, e, hm, h2, h3, h4⟩ := invT4 hd
    subst e
    have hm := hs _ hm
    obtain ⟨t3, e3⟩ := invS h3
    subst e3
    refine ctr_intro ?_
    intro mean mg mb dp un gd cn cs ca ccd cl outer A₀ base h₀ L m hp sg sd st so Q E B F X N T hck hd hu hret
    refine wpAny_call ?_
    k_dflt ktr_enter
    refine gen_toks (sg := sg) (sd := sd) (so := so) ?_
    intro tk0
    k_steps
    refine' gave_fin hret (by k_asm) (by k_asm) (by units_room1) (by dictfold_kept) (listIn_mk (by kl_some) ?_ (by ((try simp only [List.length_cons, List.length_nil, List.length_append]); omega)))
    kqd_all
  | disc p hp =>
    obtain ⟨a, t, v2, n, e, hm, h2⟩ := invT2 hd
    subst e
    have hm := hs _ hm
    refine ctr_intro ?_
    intro mean mg mb dp un gd cn cs ca ccd cl outer A₀ base h₀ L m hp sg sd st so Q E B F X N T hck hd hu hret
    refine wpAny_call ?_
    k_dflt ktr_enter
    refine gen_toks (sg := sg) (sd := sd) (so := so) ?_
    intro tk0
    k_steps
    refine' gave_fin hret (by k_asm) (by k_asm) (by units_room1) (by dictfold_kept) (listIn_mk (by kl_some) ?_ (by ((try simp only [List.length_cons, List.length_nil, List.length_append]); omega)))
    kqd_all
  | binary d1 d2 l1 l2 o1 o2 =>
    obtain ⟨a, t, v2, v3, v4, n, e, hm, h2, h3, h4⟩ := invT4 hd
    subst e
    have hm := hs _ hm
    refine ctr_intro ?_
    intro mean mg mb dp un gd cn cs ca ccd cl outer A₀ base h₀ L m hp sg sd st so Q E B F X N T hck hd hu hret
    refine wpAny_call ?_
    k_dflt ktr_enter
    refine gen_toks (sg := sg) (sd := sd) (so := so) ?_
    intro tk0
    k_steps
    refine' gave_fin hret (by k_asm) (by k_asm) (by units_room1) (by dictfold_kept) (listIn_mk (by kl_some) ?_ (by ((try simp only [List.length_cons, List.length_nil, List.length_append]); omega)))
    kqd_all
  | checked d1 d2 l1 l2 o1 o2 =>
    obtain ⟨a, t, v2, v3, v4, n, e, hm, h2, h3, h4⟩ := invT4 hd
    subst e
    have hm := hs _ hm
    refine ctr_intro ?_
    intro mean mg mb dp un gd cn cs ca ccd cl outer A₀ base h₀ L m hp sg sd st so Q E B F X N T hck hd hu hret
    refine wpAny_call ?_
    k_dflt ktr_enter
    refine gen_toks (sg := sg) (sd := sd) (so := so) ?_
    intro tk0
    k_steps
    refine' gave_fin hret (by k_asm) (by k_asm) (by units_room1) (by dictfold_kept) (listIn_mk (by kl_some) ?_ (by ((try simp only [List.length_cons, List.length_nil, List.length_append]); omega)))
    kqd_all
  | tuple d1 d2 l1 l2 o1 o2 =>
    obtain ⟨a, t, v2, n, e, hm, h2⟩ := invT2 hd
    subst e
    have hm := hs _ hm
    refine ctr_intro ?_
    intro mean mg mb dp un gd cn cs ca ccd cl outer A₀ base h₀ L m hp sg sd st so Q E B F X N T hck hd hu hret
    refine wpAny_call ?_
    k_dflt ktr_enter
    refine gen_toks (sg := sg) (sd := sd) (so := so) ?_
    intro tk0
    k_steps
    refine' gave_fin hret (by k_asm) (by k_asm) (by units_room1) (by dictfold_kept) (listIn_mk (by kl_some) ?_ (by ((try simp only [List.length_cons, List.length_nil, List.length_append]); omega)))
    kqd_all
  | array d1 d2 l1 l2 o1 o2 =>
    obtain ⟨a, t, v2, n, e, hm, h2⟩ := invT2 hd
    subst e
    have hm := hs _ hm
    refine ctr_intro ?_
    intro mean mg mb dp un gd cn cs ca ccd cl outer A₀ base h₀ L m hp sg sd st so Q E B F X N T hck hd hu hret
    refine wpAny_call ?_
    k_dflt ktr_enter
    refine gen_toks (sg := sg) (sd := sd) (so := so) ?_
    intro tk0
    k_steps
    refine' gave_fin hret (by k_asm) (by k_asm) (by units_room1) (by dictfold_kept) (listIn_mk (by kl_some) ?_ (by ((try simp only [List.length_cons, List.length_nil, List.length_append]); omega)))
    kqd_all
  | adt d1 d2 l1 l2 o1 o2 =>
    obtain ⟨a, t, v2, v3, v4, n, e, hm, h2, h3, h4⟩ := invT4 hd
    subst e
    have hm := hs _ hm
    refine ctr_intro ?_
    intro mean mg mb dp un gd cn cs ca ccd cl outer A₀ base h₀ L m hp sg sd st so Q E B F X N T hck hd hu hret
    refine wpAny_call ?_
    k_dflt ktr_enter
    refine gen_toks (sg := sg) (sd := sd) (so := so) ?_
    intro tk0
    k_steps
    refine' gave_fin hret (by k_asm) (by k_asm) (by units_room1) (by dictfold_kept) (listIn_mk (by kl_some) ?_ (by ((try simp only [List.length_cons, List.length_nil, List.length_append]); omega)))
    kqd_all
  | unary d1 l1 o1 =>
    obtain ⟨a, t, v2, v3, n, e, hm, h2, h3⟩ := invT3 hd
    subst e
    have hm := hs _ hm
    refine ctr_intro ?_
    intro mean mg mb dp un gd cn cs ca ccd cl outer A₀ base h₀ L m hp sg sd st so Q E B F X N T hck hd hu hret
    refine wpAny_call ?_
    k_dflt ktr_enter
    refine gen_toks (sg := sg) (sd := sd) (so := so) ?_
    intro tk0
    k_steps
    refine' gave_fin hret (by k_asm) (by k_asm) (by units_room1) (by dictfold_kept) (listIn_mk (by kl_some) ?_ (by ((try simp only [List.length_cons, List.length_nil, List.length_append]); omega)))
    kqd_all
  | cast d1 l1 o1 =>
    obtain ⟨a, t, v2, v3, n, e, hm, h2, h3⟩ := invT3 hd
    subst e
    have hm := hs _ hm
    refine ctr_intro ?_
    intro mean mg mb dp un gd cn cs ca ccd cl outer A₀ base h₀ L m hp sg sd st so Q E B F X N T hck hd hu hret
    refine wpAny_call ?_
    k_dflt ktr_enter
    refine gen_toks (sg := sg) (sd := sd) (so := so) ?_
    intro tk0
    k_steps
    refine' gave_fin hret (by k_asm) (by k_asm) (by units_room1) (by dictfold_kept) (listIn_mk (by kl_some) ?_ (by ((try simp only [List.length_cons, List.length_nil, List.length_append]); omega)))
    kqd_all
  | use d1 l1 o1 =>
    obtain ⟨a, t, v2, n, e, hm, h2⟩ := invT2 hd
    subst e
    have hm := hs _ hm
    refine ctr_intro ?_
    intro mean mg mb dp un gd cn cs ca ccd cl outer A₀ base h₀ L m hp sg sd st so Q E B F X N T hck hd hu hret
    refine wpAny_call ?_
    k_dflt ktr_enter
    refine gen_toks (sg := sg) (sd := sd) (so := so) ?_
    intro tk0
    k_steps
    refine' gave_fin hret (by k_asm) (by k_asm) (by units_room1) (by dictfold_kept) (listIn_mk (by kl_some) ?_ (by ((try simp only [List.length_cons, List.length_nil, List.length_append]); omega)))
    kqd_all
  | box d1 l1 o1 =>
    obtain ⟨a, t, v2, n, e, hm, h2⟩ := invT2 hd
    subst e
    have hm := hs _ hm
    refine ctr_intro ?_
    intro mean mg mb dp un gd cn cs ca ccd cl outer A₀ base h₀ L m hp sg sd st so Q E B F X N T hck hd hu hret
    refine wpAny_call ?_
    k_dflt ktr_enter
    refine gen_toks (sg := sg) (sd := sd) (so := so) ?_
    intro tk0
    k_steps
    refine' gave_fin hret (by k_asm) (by k_asm) (by units_room1) (by dictfold_kept) (listIn_mk (by kl_some) ?_ (by ((try simp only [List.length_cons, List.length_nil, List.length_append]); omega)))
    kqd_all
end
section
theorem lines_D1 : True := by
  k_with_none
  (k_with "FinE" => ((unfold LCg.FinE); intro D' h' tk' F' N' o1'; (replace o1' := off1_off o1'); (try simp only [List.nil_append, List.cons_append] at N'); (try dsimp only)))
  (k_with "UnrEnd" => (k_dflt (refine' unr_end (by k_asm) (by k_asm) (by kl_room) (by ki_room) ?_; k_whole)))
  (k_with "subscriptTail Name Constant ref int" => (k_here; (with_reducible show wpAny _ _ (subscriptTail _ _ (Value.ref _) (Value.int _ _)) _ _ _); k_dflt (first
  | (refine' led_item (by k_asm) (by kl_some) (by decide) (by decide) (by rfl) ?_ (by with_unfolding_all rfl); k_whole)
  | (refine' led_itemT (by k_asm) (by kl_some) (by decide) (by decide) (by rfl) ?_ (by with_unfolding_all rfl); k_whole))))
  (k_with "ite" => (k_closed; first | (refine ite_no (by with_unfolding_all rfl) ?_) | (refine ite_yes (by with_unfolding_all rfl) ?_)))
  (k_with "newList" => (k_here; k_dflt (refine' led_newListX (by k_asm) (by k_asm) (by exact Nat.le_of_ble_eq_true rfl) ?_; k_whole); intro l' h' F' N' l1; (try k_sweep)))
  (k_with "newTuple" => (k_here; k_dflt (refine' led_newTupleX (by k_asm) (by k_asm) (by exact Nat.le_of_ble_eq_true rfl) ?_; k_whole); intro l' h' F' N' l1; (try k_sweep)))
  (k_with "FinE" => ((unfold LCg.FinE); intro D' h' tk' F' N' o1'; (replace o1' := off1_off o1'); (try simp only [List.nil_append, List.cons_append] at N'); (try dsimp only)))
  (k_with "eval Constant str" => (k_here; k_dflt (refine' ev_str ?_; k_whole); intro t9' k9'))
  (k_with "eval Constant int" => (k_here; k_dflt (refine' ev_int ?_; k_whole); intro t9' k9'))
  (k_with "eval Tuple" => (k_here; k_dflt (first | ((with_reducible show wpAny _ _ (eval (Expr.Tuple [Expr.Constant (Const.str _) _ _] _ _) _) _ _ _); with_reducible refine' ev_t_s (by k_asm) (by k_asm) ?_; k_whole; intro t0' l' h' tk' F' N' l1; (try k_sweep)) | ((with_reducible show wpAny _ _ (eval (Expr.Tuple [Expr.Constant (Const.str _) _ _, Expr.Constant (Const.str _) _ _] _ _) _) _ _ _); with_reducible refine' ev_t_ss (by k_asm) (by k_asm) ?_; k_whole; intro t0' t1' l' h' tk' F' N' l1; (try k_sweep)) | ((with_reducible show wpAny _ _ (eval (Expr.Tuple [Expr.Constant (Const.str _) _ _, Expr.Constant (Const.int _) _ _] _ _) _) _ _ _); with_reducible refine' ev_t_si (by k_asm) (by k_asm) ?_; k_whole; intro t0' t1' l' h' tk' F' N' l1; (try k_sweep)))))
  (k_with "eval List" => (k_here; k_dflt (first | ((with_reducible show wpAny _ _ (eval (Expr.List [Expr.Constant (Const.str _) _ _, Expr.Constant (Const.str _) _ _] _) _) _ _ _); with_reducible refine' ev_l_ss (by k_asm) (by k_asm) ?_; k_whole; intro t0' t1' l' h' tk' F' N' l1; (try k_sweep)) | ((with_reducible show wpAny _ _ (eval (Expr.List [Expr.Constant (Const.str _) _ _, Expr.Constant (Const.str _) _ _, Expr.Constant (Const.str _) _ _] _) _) _ _ _); with_reducible refine' ev_l_sss (by k_asm) (by k_asm) ?_; k_whole; intro t0' t1' t2' l' h' tk' F' N' l1; (try k_sweep)))))
  (k_with "CompSrc" => (k_here; k_dflt (first
  | (refine LCg.CompSrc.ledger (by rfl) (by k_asm) (by k_asm) (by kl_some) (Nat.le_trans (m := 1000) (Nat.le_of_ble_eq_true rfl) line1000) ?_; intro g'; lcg_lit)
  | (refine LCg.CompSrc.range (by rfl) (by k_asm) (by k_asm) (by with_reducible assumption) (by first | decide | rfl) (by first | rfl | decide) (Nat.le_trans (m := 1000) (Nat.le_of_ble_eq_true rfl) line1000) ?_; intro g'; lcg_lit))))
  (k_with "FinA" => ((unfold LCg.FinA); intro D' h' tk' F' N' o1'; (replace o1' := off1_off o1'); (try simp only [List.nil_append, List.cons_append] at N'); (try dsimp only)))
  (k_with "SrcTup" => (k_here; k_dflt (refine' SrcTup.intro (by exact rfl) (by k_asm) (by k_asm) (by kl_some) (by exact Nat.le_of_ble_eq_true rfl) ?_; k_whole); intro g'))
  (k_with "CompRestT" => (with_unfolding_all first
  | (refine compT_int ?_; intro t9' I' oI' C' oC' D' m' h' tk' E' hC' hx' F' N' off' ne1' ne2' ne3'; (try dsimp only [List.nil_append, List.cons_append] at N'))
  | (refine LCt.CompRestT.succ ?_; intro v' I' oI' C' oC' D' m' h' tk' E' hv' hC' hx' F' N' off' ne'; (first | lcg_open hv' | (obtain ⟨t9', hv9'⟩ := hv'; subst hv9')); ((have ne1' := And.left ne'); (have ne2' := And.left (And.right ne')); (have ne3' := And.right (And.right ne'))))
  | refine LCt.CompRestT.zero ?_))
  (k_with "CompRest" => (with_unfolding_all first
  | (refine comp_int ?_; intro t9' I' oI' C' oC' D' m' h' tk' E' hC' hx' F' N' off' ne1' ne2' ne3'; (try dsimp only [List.nil_append, List.cons_append] at N'))
  | (refine LCg.CompRest.succ ?_; intro v' I' oI' C' oC' D' m' h' tk' E' hv' hC' hx' F' N' off' ne'; (first | lcg_open hv' | (obtain ⟨t9', hv9'⟩ := hv'; subst hv9')); ((have ne1' := And.left ne'); (have ne2' := And.left (And.right ne')); (have ne3' := And.right (And.right ne'))))
  | refine LCg.CompRest.zero ?_))
  (k_with "CompEnd" => (k_dflt (refine' comp_end (by k_asm) (by k_asm) (by kl_room) (by kl_room) (by kl_room) (by ki_room) (by ki_room) (by ki_room) (by first | exact True.intro | exact Or.inr ⟨_, by kl_some, rfl, _, rfl⟩ | kl_some) ?_; k_whole)))
  (k_with "eval ListComp" => (k_here; k_dflt (refine listComp_tup (F₀ := by k_asm) (by with_unfolding_all rfl) (by decide) (by rfl) (by decide) (by rfl) ?_)))
  trivial
set_option maxRecDepth 100000 in
set_option maxHeartbeats 4000000 in
theorem ofidx_ctr {prog : Program} {w : World} {v : Value} {p : Dat} {l : List Dat} {sub news : List (Addr × Obj)} (hd : DatIn sub v p) (hs : ∀ p ∈ sub, p ∈ news) (o : PlaceI p l) :
    Ctr prog w 54 4 40 [v] news (Gave news fun tl r => ListIn 2 sub tl r l) := by
  cases o with
  | mk i ds l hi z =>
    obtain ⟨a, vs, n, e, hm, hd⟩ := invT hd
    obtain ⟨v1, _, e1, h1, hd⟩ := inv1 hd
    obtain ⟨v2, _, e2, h2, hd⟩ := inv1 hd
    have e3 := inv0 hd
    subst e e1 e2 e3
    obtain ⟨ti, ei⟩ := invI h1
    obtain ⟨b, vs, nb, eb, hb, hds⟩ := invT h2
    subst ei eb
    have hm := hs _ hm
    have hb := hs _ hb
    cases hi with
    | nil =>
      have e0 := inv0 hds
      subst e0
      refine ctr_intro ?_
      intro mean mg mb dp un gd cn cs ca ccd cl outer A₀ base h₀ L m hp sg sd st so Q E B F X N T hck hd hu hret
      refine wpAny_call ?_
      k_dflt ktr_enter
      refine gen_toks (sg := sg) (sd := sd) (so := so) ?_
      intro tk0
      k_steps
      refine' gave_fin hret (by k_asm) (by k_asm) (by units_room1) (by dictfold_kept) (listIn_mk (by kl_some) ?_ (by ((try simp only [List.length_cons, List.length_nil, List.length_append]); omega)))
      kqd_all
    | idx i0 _ _ hh0 =>
      cases hh0 with
      | nil =>
        obtain ⟨v0, r0, ev0, h0, hds0⟩ := inv1 hds
        subst ev0
        have e0 := inv0 hds0
        subst e0
        obtain ⟨s0, ts0, w0, ns0, es0, hs0, hw0⟩ := invT2 h0
        obtain ⟨tw0, ew0⟩ := invI hw0
        subst es0 ew0
        have hs0 := hs _ hs0
        refine ctr_intro ?_
        intro mean mg mb dp un gd cn cs ca ccd cl outer A₀ base h₀ L m hp sg sd st so Q E B F X N T hck hd hu hret
        refine wpAny_call ?_
        k_dflt ktr_enter
        refine gen_toks (sg := sg) (sd := sd) (so := so) ?_
        intro tk0
        k_steps
        refine' gave_fin hret (by k_asm) (by k_asm) (by units_room1) (by dictfold_kept) (listIn_mk (by kl_some) ?_ (by ((try simp only [List.length_cons, List.length_nil, List.length_append]); omega)))
        kqd_all
      | idx i1 _ _ hh1 =>
        cases hh1 with
        | nil =>
          obtain ⟨v0, r0, ev0, h0, hds0⟩ := inv1 hds
          subst ev0
          obtain ⟨v1, r1, ev1, h1, hds1⟩ := inv1 hds0
          subst ev1
          have e0 := inv0 hds1
          subst e0
          obtain ⟨s0, ts0, w0, ns0, es0, hs0, hw0⟩ := invT2 h0
          obtain ⟨tw0, ew0⟩ := invI hw0
          subst es0 ew0
          have hs0 := hs _ hs0
          obtain ⟨s1, ts1, w1, ns1, es1, hs1, hw1⟩ := invT2 h1
          obtain ⟨tw1, ew1⟩ := invI hw1
          subst es1 ew1
          have hs1 := hs _ hs1
          refine ctr_intro ?_
          intro mean mg mb dp un gd cn cs ca ccd cl outer A₀ base h₀ L m hp sg sd st so Q E B F X N T hck hd hu hret
          refine wpAny_call ?_
          k_dflt ktr_enter
          refine gen_toks (sg := sg) (sd := sd) (so := so) ?_
          intro tk0
          k_steps
          refine' gave_fin hret (by k_asm) (by k_asm) (by units_room1) (by dictfold_kept) (listIn_mk (by kl_some) ?_ (by ((try simp only [List.length_cons, List.length_nil, List.length_append]); omega)))
          kqd_all
        | idx i9 _ _ _ => simp at z
        | oth x9 _ _ _ _ _ => simp at z
      | oth x1 _ _ _ hx1 hh1 =>
        cases hh1 with
        | nil =>
          obtain ⟨v0, r0, ev0, h0, hds0⟩ := inv1 hds
          subst ev0
          obtain ⟨v1, r1, ev1, h1, hds1⟩ := inv1 hds0
          subst ev1
          have e0 := inv0 hds1
          subst e0
          obtain ⟨s0, ts0, w0, ns0, es0, hs0, hw0⟩ := invT2 h0
          obtain ⟨tw0, ew0⟩ := invI hw0
          subst es0 ew0
          have hs0 := hs _ hs0
          obtain ⟨s1, vs1, ns1, es1, hs1, hw1⟩ := invT h1
          obtain ⟨w1, _, ew1, hw1, _⟩ := inv1 hw1
          obtain ⟨tw1, ef1⟩ := invS hw1
          subst es1 ew1 ef1
          have hs1 := hs _ hs1
          refine ctr_intro ?_
          intro mean mg mb dp un gd cn cs ca ccd cl outer A₀ base h₀ L m hp sg sd st so Q E B F X N T hck hd hu hret
          refine wpAny_call ?_
          k_dflt ktr_enter
          refine gen_toks (sg := sg) (sd := sd) (so := so) ?_
          intro tk0
          k_steps
          refine' gave_fin hret (by k_asm) (by k_asm) (by units_room1) (by dictfold_kept) (listIn_mk (by kl_some) ?_ (by ((try simp only [List.length_cons, List.length_nil, List.length_append]); omega)))
          kqd_all
        | idx i9 _ _ _ => simp at z
        | oth x9 _ _ _ _ _ => simp at z
    | oth x0 _ _ _ hx0 hh0 =>
      cases hh0 with
      | nil =>
        obtain ⟨v0, r0, ev0, h0, hds0⟩ := inv1 hds
        subst ev0
        have e0 := inv0 hds0
        subst e0
        obtain ⟨s0, vs0, ns0, es0, hs0, hw0⟩ := invT h0
        obtain ⟨w0, _, ew0, hw0, _⟩ := inv1 hw0
        obtain ⟨tw0, ef0⟩ := invS hw0
        subst es0 ew0 ef0
        have hs0 := hs _ hs0
        refine ctr_intro ?_
        intro mean mg mb dp un gd cn cs ca ccd cl outer A₀ base h₀ L m hp sg sd st so Q E B F X N T hck hd hu hret
        refine wpAny_call ?_
        k_dflt ktr_enter
        refine gen_toks (sg := sg) (sd := sd) (so := so) ?_
        intro tk0
        k_steps
        refine' gave_fin hret (by k_asm) (by k_asm) (by units_room1) (by dictfold_kept) (listIn_mk (by kl_some) ?_ (by ((try simp only [List.length_cons, List.length_nil, List.length_append]); omega)))
        kqd_all
      | idx i1 _ _ hh1 =>
        cases hh1 with
        | nil =>
          obtain ⟨v0, r0, ev0, h0, hds0⟩ := inv1 hds
          subst ev0
          obtain ⟨v1, r1, ev1, h1, hds1⟩ := inv1 hds0
          subst ev1
          have e0 := inv0 hds1
          subst e0
          obtain ⟨s0, vs0, ns0, es0, hs0, hw0⟩ := invT h0
          obtain ⟨w0, _, ew0, hw0, _⟩ := inv1 hw0
          obtain ⟨tw0, ef0⟩ := invS hw0
          subst es0 ew0 ef0
          have hs0 := hs _ hs0
          obtain ⟨s1, ts1, w1, ns1, es1, hs1, hw1⟩ := invT2 h1
          obtain ⟨tw1, ew1⟩ := invI hw1
          subst es1 ew1
          have hs1 := hs _ hs1
          refine ctr_intro ?_
          intro mean mg mb dp un gd cn cs ca ccd cl outer A₀ base h₀ L m hp sg sd st so Q E B F X N T hck hd hu hret
          refine wpAny_call ?_
          k_dflt ktr_enter
          refine gen_toks (sg := sg) (sd := sd) (so := so) ?_
          intro tk0
          k_steps
          refine' gave_fin hret (by k_asm) (by k_asm) (by units_room1) (by dictfold_kept) (listIn_mk (by kl_some) ?_ (by ((try simp only [List.length_cons, List.length_nil, List.length_append]); omega)))
          kqd_all
        | idx i9 _ _ _ => simp at z
        | oth x9 _ _ _ _ _ => simp at z
      | oth x1 _ _ _ hx1 hh1 =>
        cases hh1 with
        | nil =>
          obtain ⟨v0, r0, ev0, h0, hds0⟩ := inv1 hds
          subst ev0
          obtain ⟨v1, r1, ev1, h1, hds1⟩ := inv1 hds0
          subst ev1
          have e0 := inv0 hds1
          subst e0
          obtain ⟨s0, vs0, ns0, es0, hs0, hw0⟩ := invT h0
          obtain ⟨w0, _, ew0, hw0, _⟩ := inv1 hw0
          obtain ⟨tw0, ef0⟩ := invS hw0
          subst es0 ew0 ef0
          have hs0 := hs _ hs0
          obtain ⟨s1, vs1, ns1, es1, hs1, hw1⟩ := invT h1
          obtain ⟨w1, _, ew1, hw1, _⟩ := inv1 hw1
          obtain ⟨tw1, ef1⟩ := invS hw1
          subst es1 ew1 ef1
          have hs1 := hs _ hs1
          refine ctr_intro ?_
          intro mean mg mb dp un gd cn cs ca ccd cl outer A₀ base h₀ L m hp sg sd st so Q E B F X N T hck hd hu hret
          refine wpAny_call ?_
          k_dflt ktr_enter
          refine gen_toks (sg := sg) (sd := sd) (so := so) ?_
          intro tk0
          k_steps
          refine' gave_fin hret (by k_asm) (by k_asm) (by units_room1) (by dictfold_kept) (listIn_mk (by kl_some) ?_ (by ((try simp only [List.length_cons, List.length_nil, List.length_append]); omega)))
          kqd_all
        | idx i9 _ _ _ => simp at z
        | oth x9 _ _ _ _ _ => simp at z
end
section
theorem lines_D2 : True := by
  k_with_none
  (k_with "FinE" => ((unfold LCg.FinE); intro D' h' tk' F' N' o1'; (replace o1' := off1_off o1'); (try simp only [List.nil_append, List.cons_append] at N'); (try dsimp only)))
  (k_with "UnrEnd" => (k_dflt (refine' unr_end (by k_asm) (by k_asm) (by kl_room) (by ki_room) ?_; k_whole)))
  (k_with "subscriptTail Name Constant ref int" => (k_here; (with_reducible show wpAny _ _ (subscriptTail _ _ (Value.ref _) (Value.int _ _)) _ _ _); k_dflt (first
  | (refine' led_item (by k_asm) (by kl_some) (by decide) (by decide) (by rfl) ?_ (by with_unfolding_all rfl); k_whole)
  | (refine' led_itemT (by k_asm) (by kl_some) (by decide) (by decide) (by rfl) ?_ (by with_unfolding_all rfl); k_whole))))
  (k_with "ite" => (k_closed; first | (refine ite_no (by with_unfolding_all rfl) ?_) | (refine ite_yes (by with_unfolding_all rfl) ?_)))
  (k_with "newList" => (k_here; k_dflt (refine' led_newListX (by k_asm) (by k_asm) (by exact Nat.le_of_ble_eq_true rfl) ?_; k_whole); intro l' h' F' N' l1; (try k_sweep)))
  (k_with "newTuple" => (k_here; k_dflt (refine' led_newTupleX (by k_asm) (by k_asm) (by exact Nat.le_of_ble_eq_true rfl) ?_; k_whole); intro l' h' F' N' l1; (try k_sweep)))
  (k_with "FinE" => ((unfold LCg.FinE); intro D' h' tk' F' N' o1'; (replace o1' := off1_off o1'); (try simp only [List.nil_append, List.cons_append] at N'); (try dsimp only)))
  (k_with "eval Constant str" => (k_here; k_dflt (refine' ev_str ?_; k_whole); intro t9' k9'))
  (k_with "eval Constant int" => (k_here; k_dflt (refine' ev_int ?_; k_whole); intro t9' k9'))
  (k_with "eval Tuple" => (k_here; k_dflt (first | ((with_reducible show wpAny _ _ (eval (Expr.Tuple [Expr.Constant (Const.str _) _ _] _ _) _) _ _ _); with_reducible refine' ev_t_s (by k_asm) (by k_asm) ?_; k_whole; intro t0' l' h' tk' F' N' l1; (try k_sweep)) | ((with_reducible show wpAny _ _ (eval (Expr.Tuple [Expr.Constant (Const.str _) _ _, Expr.Constant (Const.str _) _ _] _ _) _) _ _ _); with_reducible refine' ev_t_ss (by k_asm) (by k_asm) ?_; k_whole; intro t0' t1' l' h' tk' F' N' l1; (try k_sweep)) | ((with_reducible show wpAny _ _ (eval (Expr.Tuple [Expr.Constant (Const.str _) _ _, Expr.Constant (Const.int _) _ _] _ _) _) _ _ _); with_reducible refine' ev_t_si (by k_asm) (by k_asm) ?_; k_whole; intro t0' t1' l' h' tk' F' N' l1; (try k_sweep)))))
  (k_with "eval List" => (k_here; k_dflt (first | ((with_reducible show wpAny _ _ (eval (Expr.List [Expr.Constant (Const.str _) _ _, Expr.Constant (Const.str _) _ _] _) _) _ _ _); with_reducible refine' ev_l_ss (by k_asm) (by k_asm) ?_; k_whole; intro t0' t1' l' h' tk' F' N' l1; (try k_sweep)) | ((with_reducible show wpAny _ _ (eval (Expr.List [Expr.Constant (Const.str _) _ _, Expr.Constant (Const.str _) _ _, Expr.Constant (Const.str _) _ _] _) _) _ _ _); with_reducible refine' ev_l_sss (by k_asm) (by k_asm) ?_; k_whole; intro t0' t1' t2' l' h' tk' F' N' l1; (try k_sweep)))))
  (k_with "call ref" => (k_here; (with_reducible show wpAny _ _ (call (Value.ref 28) _ _) _ _ _); k_dflt (
    refine' Ctr.useG (by k_asm) (by k_asm) (by k_asm) (by k_asm) (by k_asm) (by first | exact rfl | with_reducible assumption) (by ktr_room) (by ktr_units) (ofop_ctr (by with_reducible assumption) (by kt_l_size) (by with_reducible assumption)) ?_;
    intro tl9 q9 vs9 m9 h9 tk9 ha9 hm9 hv9 hz9 F9 N9; (try k_sweep))))
  (k_with "call ref" => (k_here; (with_reducible show wpAny _ _ (call (Value.ref 49) _ _) _ _ _); k_dflt (
    refine' Ctr.useG (by k_asm) (by k_asm) (by k_asm) (by k_asm) (by k_asm) (by first | exact rfl | with_reducible assumption) (by ktr_room) (by ktr_units) (ofrv_ctr (by with_reducible assumption) (by kt_l_size) (by with_reducible assumption)) ?_;
    intro tl9 q9 vs9 m9 h9 tk9 ha9 hm9 hv9 hz9 F9 N9; (try k_sweep))))
  (k_with "call ref" => (k_here; (with_reducible show wpAny _ _ (call (Value.ref 54) _ _) _ _ _); k_dflt (
    refine' Ctr.useG (by k_asm) (by k_asm) (by k_asm) (by k_asm) (by k_asm) (by first | exact rfl | with_reducible assumption) (by ktr_room) (by ktr_units) (ofidx_ctr (by with_reducible assumption) (by kt_l_size) (by with_reducible assumption)) ?_;
    intro tl9 q9 vs9 m9 h9 tk9 ha9 hm9 hv9 hz9 F9 N9; (try k_sweep))))
  (k_with "binaryOp Add ref ref" => (k_here; k_dflt (refine' led_addX (by k_asm) (by k_asm) (by kl_some) (by kl_some) (by ((try simp only [List.length_cons, List.length_nil, List.length_append]); omega)) ?_; k_whole); intro D' h' F' N' l1; (try simp only [List.nil_append, List.cons_append] at N'); (try k_sweep)))
  trivial
set_option maxRecDepth 100000 in
set_option maxHeartbeats 4000000 in
theorem ofst_ctr {prog : Program} {w : World} {v : Value} {d : Dat} {l : List Dat} {sub news : List (Addr × Obj)} (hd : DatIn sub v d) (hs : ∀ p ∈ sub, p ∈ news) (o : StA d l) :
    Ctr prog w 61 18 180 [v] news (Gave news fun tl r => ListIn 8 sub tl r l) := by
  cases o with
  | dead i =>
    obtain ⟨a, t, v2, n, e, hm, h2⟩ := invT2 hd
    subst e
    have hm := hs _ hm
    obtain ⟨t2, e2⟩ := invI h2
    subst e2
    refine ctr_intro ?_
    intro mean mg mb dp un gd cn cs ca ccd cl outer A₀ base h₀ L m hp sg sd st so Q E B F X N T hck hd hu hret
    refine wpAny_call ?_
    k_dflt ktr_enter
    refine gen_toks (sg := sg) (sd := sd) (so := so) ?_
    intro tk0
    k_steps
    refine' gave_fin hret (by k_asm) (by k_asm) (by units_room1) (by dictfold_kept) (listIn_mk (by kl_some) ?_ (by ((try simp only [List.length_cons, List.length_nil, List.length_append]); omega)))
    kqd_all
  | print d1 l1 o1 =>
    obtain ⟨a, t, v2, n, e, hm, h2⟩ := invT2 hd
    subst e
    have hm := hs _ hm
    refine ctr_intro ?_
    intro mean mg mb dp un gd cn cs ca ccd cl outer A₀ base h₀ L m hp sg sd st so Q E B F X N T hck hd hu hret
    refine wpAny_call ?_
    k_dflt ktr_enter
    refine gen_toks (sg := sg) (sd := sd) (so := so) ?_
    intro tk0
    k_steps
    refine' gave_fin hret (by k_asm) (by k_asm) (by units_room1) (by dictfold_kept) (listIn_mk (by kl_some) ?_ (by ((try simp only [List.length_cons, List.length_nil, List.length_append]); omega)))
    kqd_all
  | live =>
    obtain ⟨a, t, v2, n, e, hm, h2⟩ := invT2 hd
    subst e
    have hm := hs _ hm
    refine ctr_intro ?_
    intro mean mg mb dp un gd cn cs ca ccd cl outer A₀ base h₀ L m hp sg sd st so Q E B F X N T hck hd hu hret
    refine wpAny_call ?_
    k_dflt ktr_enter
    refine gen_toks (sg := sg) (sd := sd) (so := so) ?_
    intro tk0
    k_steps
    refine' gave_fin hret (by k_asm) (by k_asm) (by units_room1) (by dictfold_kept) (listIn_mk (by kl_some) ?_ (by ((try simp only [List.length_cons, List.length_nil, List.length_append]); omega)))
    kqd_all
  | nop =>
    obtain ⟨a, t, n, e, hm⟩ := invT1 hd
    subst e
    have hm := hs _ hm
    refine ctr_intro ?_
    intro mean mg mb dp un gd cn cs ca ccd cl outer A₀ base h₀ L m hp sg sd st so Q E B F X N T hck hd hu hret
    refine wpAny_call ?_
    k_dflt ktr_enter
    refine gen_toks (sg := sg) (sd := sd) (so := so) ?_
    intro tk0
    k_steps
    refine' gave_fin hret (by k_asm) (by k_asm) (by units_room1) (by dictfold_kept) (listIn_mk (by kl_some) ?_ (by ((try simp only [List.length_cons, List.length_nil, List.length_append]); omega)))
    kqd_all
  | assign p rv l1 li hp hr hpd =>
    obtain ⟨a, t, v2, v3, n, e, hm, h2, h3⟩ := invT3 hd
    subst e
    have hm := hs _ hm
    refine ctr_intro ?_
    intro mean mg mb dp un gd cn cs ca ccd cl outer A₀ base h₀ L m hp sg sd st so Q E B F X N T hck hd hu hret
    refine wpAny_call ?_
    k_dflt ktr_enter
    refine gen_toks (sg := sg) (sd := sd) (so := so) ?_
    intro tk0
    k_steps
    refine' gave_fin hret (by k_asm) (by k_asm) (by units_room1) (by dictfold_kept) (listIn_mk (by kl_some) ?_ (by ((try simp only [List.length_cons, List.length_nil, List.length_append]); omega)))
    kqd_all
end
section
theorem lines_D3 : True := by
  k_with_none
  (k_with "FinE" => ((unfold LCg.FinE); intro D' h' tk' F' N' o1'; (replace o1' := off1_off o1'); (try simp only [List.nil_append, List.cons_append] at N'); (try dsimp only)))
  (k_with "UnrEnd" => (k_dflt (refine' unr_end (by k_asm) (by k_asm) (by kl_room) (by ki_room) ?_; k_whole)))
  (k_with "subscriptTail Name Constant ref int" => (k_here; (with_reducible show wpAny _ _ (subscriptTail _ _ (Value.ref _) (Value.int _ _)) _ _ _); k_dflt (first
  | (refine' led_item (by k_asm) (by kl_some) (by decide) (by decide) (by rfl) ?_ (by with_unfolding_all rfl); k_whole)
  | (refine' led_itemT (by k_asm) (by kl_some) (by decide) (by decide) (by rfl) ?_ (by with_unfolding_all rfl); k_whole))))
  (k_with "ite" => (k_closed; first | (refine ite_no (by with_unfolding_all rfl) ?_) | (refine ite_yes (by with_unfolding_all rfl) ?_)))
  (k_with "newList" => (k_here; k_dflt (refine' led_newListX (by k_asm) (by k_asm) (by exact Nat.le_of_ble_eq_true rfl) ?_; k_whole); intro l' h' F' N' l1; (try k_sweep)))
  (k_with "newTuple" => (k_here; k_dflt (refine' led_newTupleX (by k_asm) (by k_asm) (by exact Nat.le_of_ble_eq_true rfl) ?_; k_whole); intro l' h' F' N' l1; (try k_sweep)))
  (k_with "FinE" => ((unfold LCg.FinE); intro D' h' tk' F' N' o1'; (replace o1' := off1_off o1'); (try simp only [List.nil_append, List.cons_append] at N'); (try dsimp only)))
  (k_with "eval Constant str" => (k_here; k_dflt (refine' ev_str ?_; k_whole); intro t9' k9'))
  (k_with "eval Constant int" => (k_here; k_dflt (refine' ev_int ?_; k_whole); intro t9' k9'))
  (k_with "eval Tuple" => (k_here; k_dflt (first | ((with_reducible show wpAny _ _ (eval (Expr.Tuple [Expr.Constant (Const.str _) _ _] _ _) _) _ _ _); with_reducible refine' ev_t_s (by k_asm) (by k_asm) ?_; k_whole; intro t0' l' h' tk' F' N' l1; (try k_sweep)) | ((with_reducible show wpAny _ _ (eval (Expr.Tuple [Expr.Constant (Const.str _) _ _, Expr.Constant (Const.str _) _ _] _ _) _) _ _ _); with_reducible refine' ev_t_ss (by k_asm) (by k_asm) ?_; k_whole; intro t0' t1' l' h' tk' F' N' l1; (try k_sweep)) | ((with_reducible show wpAny _ _ (eval (Expr.Tuple [Expr.Constant (Const.str _) _ _, Expr.Constant (Const.int _) _ _] _ _) _) _ _ _); with_reducible refine' ev_t_si (by k_asm) (by k_asm) ?_; k_whole; intro t0' t1' l' h' tk' F' N' l1; (try k_sweep)))))
  (k_with "eval List" => (k_here; k_dflt (first | ((with_reducible show wpAny _ _ (eval (Expr.List [Expr.Constant (Const.str _) _ _, Expr.Constant (Const.str _) _ _] _) _) _ _ _); with_reducible refine' ev_l_ss (by k_asm) (by k_asm) ?_; k_whole; intro t0' t1' l' h' tk' F' N' l1; (try k_sweep)) | ((with_reducible show wpAny _ _ (eval (Expr.List [Expr.Constant (Const.str _) _ _, Expr.Constant (Const.str _) _ _, Expr.Constant (Const.str _) _ _] _) _) _ _ _); with_reducible refine' ev_l_sss (by k_asm) (by k_asm) ?_; k_whole; intro t0' t1' t2' l' h' tk' F' N' l1; (try k_sweep)))))
  (k_with "call ref" => (k_here; (with_reducible show wpAny _ _ (call (Value.ref 28) _ _) _ _ _); k_dflt (
    refine' Ctr.useG (by k_asm) (by k_asm) (by k_asm) (by k_asm) (by k_asm) (by first | exact rfl | with_reducible assumption) (by ktr_room) (by ktr_units) (ofop_ctr (by with_reducible assumption) (by kt_l_size) (by with_reducible assumption)) ?_;
    intro tl9 q9 vs9 m9 h9 tk9 ha9 hm9 hv9 hz9 F9 N9; (try k_sweep))))
  (k_with "call ref" => (k_here; (with_reducible show wpAny _ _ (call (Value.ref 35) _ _) _ _ _); k_dflt (
    refine' Ctr.useG (by k_asm) (by k_asm) (by k_asm) (by k_asm) (by k_asm) (by first | exact rfl | with_reducible assumption) (by ktr_room) (by ktr_units) (ofops_ctr (by with_reducible assumption) (by kt_l_size) (by with_reducible assumption) (by with_reducible assumption)) ?_;
    intro tl9 q9 vs9 m9 h9 tk9 ha9 hm9 hv9 hz9 F9 N9; (try k_sweep))))
  (k_with "binaryOp Add ref ref" => (k_here; k_dflt (refine' led_addX (by k_asm) (by k_asm) (by kl_some) (by kl_some) (by ((try simp only [List.length_cons, List.length_nil, List.length_append]); omega)) ?_; k_whole); intro D' h' F' N' l1; (try simp only [List.nil_append, List.cons_append] at N'); (try k_sweep)))
  (k_with "CompSrc" => (k_here; k_dflt (first
  | (refine LCg.CompSrc.ledger (by rfl) (by k_asm) (by k_asm) (by kl_some) (Nat.le_trans (m := 1000) (Nat.le_of_ble_eq_true rfl) line1000) ?_; intro g'; lcg_lit)
  | (refine LCg.CompSrc.range (by rfl) (by k_asm) (by k_asm) (by with_reducible assumption) (by first | decide | rfl) (by first | rfl | decide) (Nat.le_trans (m := 1000) (Nat.le_of_ble_eq_true rfl) line1000) ?_; intro g'; lcg_lit))))
  (k_with "FinA" => ((unfold LCg.FinA); intro D' h' tk' F' N' o1'; (replace o1' := off1_off o1'); (try simp only [List.nil_append, List.cons_append] at N'); (try dsimp only)))
  (k_with "SrcTup" => (k_here; k_dflt (refine' SrcTup.intro (by exact rfl) (by k_asm) (by k_asm) (by kl_some) (by exact Nat.le_of_ble_eq_true rfl) ?_; k_whole); intro g'))
  (k_with "CompRestT" => (with_unfolding_all first
  | (refine compT_int ?_; intro t9' I' oI' C' oC' D' m' h' tk' E' hC' hx' F' N' off' ne1' ne2' ne3'; (try dsimp only [List.nil_append, List.cons_append] at N'))
  | (refine LCt.CompRestT.succ ?_; intro v' I' oI' C' oC' D' m' h' tk' E' hv' hC' hx' F' N' off' ne'; (first | lcg_open hv' | (obtain ⟨t9', hv9'⟩ := hv'; subst hv9')); ((have ne1' := And.left ne'); (have ne2' := And.left (And.right ne')); (have ne3' := And.right (And.right ne'))))
  | refine LCt.CompRestT.zero ?_))
  (k_with "CompRest" => (with_unfolding_all first
  | (refine comp_int ?_; intro t9' I' oI' C' oC' D' m' h' tk' E' hC' hx' F' N' off' ne1' ne2' ne3'; (try dsimp only [List.nil_append, List.cons_append] at N'))
  | (refine LCg.CompRest.succ ?_; intro v' I' oI' C' oC' D' m' h' tk' E' hv' hC' hx' F' N' off' ne'; (first | lcg_open hv' | (obtain ⟨t9', hv9'⟩ := hv'; subst hv9')); ((have ne1' := And.left ne'); (have ne2' := And.left (And.right ne')); (have ne3' := And.right (And.right ne'))))
  | refine LCg.CompRest.zero ?_))
  (k_with "CompEnd" => (k_dflt (refine' comp_end (by k_asm) (by k_asm) (by kl_room) (by kl_room) (by kl_room) (by ki_room) (by ki_room) (by ki_room) (by first | exact True.intro | exact Or.inr ⟨_, by kl_some, rfl, _, rfl⟩ | kl_some) ?_; k_whole)))
  trivial
set_option maxRecDepth 100000 in
set_option maxHeartbeats 4000000 in
theorem ofterm_ctr {prog : Program} {w : World} {v : Value} {d : Dat} {l : List Dat} {tk : Tok} {sub news : List (Addr × Obj)} (hd : DatIn sub v d) (hs : ∀ p ∈ sub, p ∈ news) (o : TermA d l) :
    Ctr prog w 66 12 120 [v, .int 5 tk] news (Gave news fun tl r => ListIn 8 sub tl r l) := by
  cases o with
  | ret =>
    obtain ⟨a, t, n, e, hm⟩ := invT1 hd
    subst e
    have hm := hs _ hm
    refine ctr_intro ?_
    intro mean mg mb dp un gd cn cs ca ccd cl outer A₀ base h₀ L m hp sg sd st so Q E B F X N T hck hd hu hret
    refine wpAny_call ?_
    k_dflt ktr_enter
    refine gen_toks (sg := sg) (sd := sd) (so := so) ?_
    intro tk0
    k_steps
    refine' gave_fin hret (by k_asm) (by k_asm) (by units_room1) (by dictfold_kept) (listIn_mk (by kl_some) ?_ (by ((try simp only [List.length_cons, List.length_nil, List.length_append]); omega)))
    kqd_all
  | drop p hp =>
    obtain ⟨a, t, v2, v3, n, e, hm, h2, h3⟩ := invT3 hd
    subst e
    have hm := hs _ hm
    refine ctr_intro ?_
    intro mean mg mb dp un gd cn cs ca ccd cl outer A₀ base h₀ L m hp sg sd st so Q E B F X N T hck hd hu hret
    refine wpAny_call ?_
    k_dflt ktr_enter
    refine gen_toks (sg := sg) (sd := sd) (so := so) ?_
    intro tk0
    k_steps
    refine' gave_fin hret (by k_asm) (by k_asm) (by units_room1) (by dictfold_kept) (listIn_mk (by kl_some) ?_ (by ((try simp only [List.length_cons, List.length_nil, List.length_append]); omega)))
    kqd_all
  | call d1 d2 p l1 l2 o1 o2 hp =>
    obtain ⟨a, t, v2, v3, v4, v5, n, e, hm, h2, h3, h4, h5⟩ := invT5 hd
    subst e
    have hm := hs _ hm
    refine ctr_intro ?_
    intro mean mg mb dp un gd cn cs ca ccd cl outer A₀ base h₀ L m hp sg sd st so Q E B F X N T hck hd hu hret
    refine wpAny_call ?_
    k_dflt ktr_enter
    refine gen_toks (sg := sg) (sd := sd) (so := so) ?_
    intro tk0
    k_steps
    refine' gave_fin hret (by k_asm) (by k_asm) (by units_room1) (by dictfold_kept) (listIn_mk (by kl_some) ?_ (by ((try simp only [List.length_cons, List.length_nil, List.length_append]); omega)))
    kqd_all
  | switch d1 l1 o1 =>
    obtain ⟨a, t, v2, v3, v4, n, e, hm, h2, h3, h4⟩ := invT4 hd
    subst e
    have hm := hs _ hm
    refine ctr_intro ?_
    intro mean mg mb dp un gd cn cs ca ccd cl outer A₀ base h₀ L m hp sg sd st so Q E B F X N T hck hd hu hret
    refine wpAny_call ?_
    k_dflt ktr_enter
    refine gen_toks (sg := sg) (sd := sd) (so := so) ?_
    intro tk0
    k_steps
    refine' gave_fin hret (by k_asm) (by k_asm) (by units_room1) (by dictfold_kept) (listIn_mk (by kl_some) ?_ (by ((try simp only [List.length_cons, List.length_nil, List.length_append]); omega)))
    kqd_all
  | assert d1 l1 o1 =>
    obtain ⟨a, t, v2, v3, v4, v5, n, e, hm, h2, h3, h4, h5⟩ := invT5 hd
    subst e
    have hm := hs _ hm
    refine ctr_intro ?_
    intro mean mg mb dp un gd cn cs ca ccd cl outer A₀ base h₀ L m hp sg sd st so Q E B F X N T hck hd hu hret
    refine wpAny_call ?_
    k_dflt ktr_enter
    refine gen_toks (sg := sg) (sd := sd) (so := so) ?_
    intro tk0
    k_steps
    refine' gave_fin hret (by k_asm) (by k_asm) (by units_room1) (by dictfold_kept) (listIn_mk (by kl_some) ?_ (by ((try simp only [List.length_cons, List.length_nil, List.length_append]); omega)))
    kqd_all
  | goto =>
    obtain ⟨a, t, v2, n, e, hm, h2⟩ := invT2 hd
    subst e
    have hm := hs _ hm
    refine ctr_intro ?_
    intro mean mg mb dp un gd cn cs ca ccd cl outer A₀ base h₀ L m hp sg sd st so Q E B F X N T hck hd hu hret
    refine wpAny_call ?_
    k_dflt ktr_enter
    refine gen_toks (sg := sg) (sd := sd) (so := so) ?_
    intro tk0
    k_steps
    refine' gave_fin hret (by k_asm) (by k_asm) (by units_room1) (by dictfold_kept) (listIn_mk (by kl_some) ?_ (by ((try simp only [List.length_cons, List.length_nil, List.length_append]); omega)))
    kqd_all
  | panic =>
    obtain ⟨a, t, v2, n, e, hm, h2⟩ := invT2 hd
    subst e
    have hm := hs _ hm
    refine ctr_intro ?_
    intro mean mg mb dp un gd cn cs ca ccd cl outer A₀ base h₀ L m hp sg sd st so Q E B F X N T hck hd hu hret
    refine wpAny_call ?_
    k_dflt ktr_enter
    refine gen_toks (sg := sg) (sd := sd) (so := so) ?_
    intro tk0
    k_steps
    refine' gave_fin hret (by k_asm) (by k_asm) (by units_room1) (by dictfold_kept) (listIn_mk (by kl_some) ?_ (by ((try simp only [List.length_cons, List.length_nil, List.length_append]); omega)))
    kqd_all
  | unreachable =>
    obtain ⟨a, t, n, e, hm⟩ := invT1 hd
    subst e
    have hm := hs _ hm
    refine ctr_intro ?_
    intro mean mg mb dp un gd cn cs ca ccd cl outer A₀ base h₀ L m hp sg sd st so Q E B F X N T hck hd hu hret
    refine wpAny_call ?_
    k_dflt ktr_enter
    refine gen_toks (sg := sg) (sd := sd) (so := so) ?_
    intro tk0
    k_steps
    refine' gave_fin hret (by k_asm) (by k_asm) (by units_room1) (by dictfold_kept) (listIn_mk (by kl_some) ?_ (by ((try simp only [List.length_cons, List.length_nil, List.length_append]); omega)))
    kqd_all
end
section
theorem ofret_ctr {prog : Program} {w : World} {a : Addr} {t tk : Tok} {n : Nat} {news : List (Addr × Obj)} (hm : (a, tupOf [.str (Str.ofString "return") t] n) ∈ news) :
    Ctr prog w 66 12 120 [.ref a, .int 5 tk] news (Gave news fun tl r => ∃ sub, (∀ p ∈ sub, p ∈ news) ∧ ListIn 8 sub tl r [.tuple [.tuple [.int 1, .tuple []], .str (Str.ofString "drop"), .str (Str.ofString "write"), .str (Str.ofString "return")], .tuple [.tuple [.int 2, .tuple []], .str (Str.ofString "drop"), .str (Str.ofString "write"), .str (Str.ofString "return")], .tuple [.tuple [.int 3, .tuple []], .str (Str.ofString "drop"), .str (Str.ofString "write"), .str (Str.ofString "return")], .tuple [.tuple [.int 4, .tuple []], .str (Str.ofString "drop"), .str (Str.ofString "write"), .str (Str.ofString "return")]]) := by
  have hs : ∀ p ∈ [(a, tupOf [.str (Str.ofString "return") t] n)], p ∈ news := fun p hp => by rw [List.mem_singleton.mp hp]; exact hm
  have C := ofterm_ctr (prog := prog) (w := w) (tk := tk) (sub := [(a, tupOf [.str (Str.ofString "return") t] n)]) (news := news) (DatIn.tuple (vs := [.str (Str.ofString "return") t]) (n := n) List.mem_cons_self (.cons (.str _ _) .nil)) hs .ret
  intro mean mg mb dp un gd cn cs ca ccd cl outer A₀ base h₀ L m s Q E B F X N T hck hd hu hret
  refine C mean mg mb dp un gd cn cs ca ccd cl outer A₀ base h₀ L m s Q E B F X N T hck hd hu fun r news' h' tk' F' N' p => hret r news' h' tk' F' N' ?_
  cases p with
  | mk tl r ha hP => exact .mk tl r ha ⟨_, hs, hP⟩
/-- one row of a return's accesses, laid open -/
theorem row_open {l : List (Addr × Obj)} {v : Value} {i : Int} {r : List Dat} (h : DatIn l v (.tuple (.tuple [.int i, .tuple []] :: r))) : ∃ a b t v2 vs n nb, v = .ref a ∧ (a, tupOf (.ref b :: vs) n) ∈ l ∧ (b, tupOf [.int i t, v2] nb) ∈ l := by
  obtain ⟨a, vs, n, rfl, hm, h⟩ := invT h
  obtain ⟨v1, vs, rfl, h1, h⟩ := inv1 h
  obtain ⟨b, ws, nb, rfl, hb, h1⟩ := invT h1
  obtain ⟨w1, _, rfl, h2, h1⟩ := inv1 h1
  obtain ⟨w2, _, rfl, h3, h1⟩ := inv1 h1
  obtain rfl := inv0 h1
  obtain ⟨t, rfl⟩ := invI h2
  exact ⟨a, b, t, w2, vs, n, nb, rfl, hm, hb⟩
theorem rows_open {l : List (Addr × Obj)} {vs : List Value} {r1 r2 r3 r4 : List Dat} (h : DatAll l vs [.tuple (.tuple [.int 1, .tuple []] :: r1), .tuple (.tuple [.int 2, .tuple []] :: r2), .tuple (.tuple [.int 3, .tuple []] :: r3), .tuple (.tuple [.int 4, .tuple []] :: r4)]) :
    ∃ v1 v2 v3 v4, vs = [v1, v2, v3, v4] ∧ DatIn l v1 (.tuple (.tuple [.int 1, .tuple []] :: r1)) ∧ DatIn l v2 (.tuple (.tuple [.int 2, .tuple []] :: r2)) ∧ DatIn l v3 (.tuple (.tuple [.int 3, .tuple []] :: r3)) ∧ DatIn l v4 (.tuple (.tuple [.int 4, .tuple []] :: r4)) := by
  obtain ⟨v1, _, rfl, h1, h⟩ := inv1 h
  obtain ⟨v2, _, rfl, h2, h⟩ := inv1 h
  obtain ⟨v3, _, rfl, h3, h⟩ := inv1 h
  obtain ⟨v4, _, rfl, h4, h⟩ := inv1 h
  obtain rfl := inv0 h
  exact ⟨v1, v2, v3, v4, rfl, h1, h2, h3, h4⟩
/-- a return's four rows, over the ledger behind the call -/
inductive Rows4 (led : List (Addr × Obj)) : List Value → Prop
  | mk (a1 a2 a3 a4 b1 b2 b3 b4 : Addr) (t1 t2 t3 t4 : Tok) (u1 u2 u3 u4 : Value) (w1 w2 w3 w4 : List Value) (n1 n2 n3 n4 m1 m2 m3 m4 : Nat)
    (h1 : (a1, tupOf (.ref b1 :: w1) n1) ∈ led) (h2 : (a2, tupOf (.ref b2 :: w2) n2) ∈ led) (h3 : (a3, tupOf (.ref b3 :: w3) n3) ∈ led) (h4 : (a4, tupOf (.ref b4 :: w4) n4) ∈ led)
    (k1 : (b1, tupOf [.int 1 t1, u1] m1) ∈ led) (k2 : (b2, tupOf [.int 2 t2, u2] m2) ∈ led) (k3 : (b3, tupOf [.int 3 t3, u3] m3) ∈ led) (k4 : (b4, tupOf [.int 4 t4, u4] m4) ∈ led) : Rows4 led [.ref a1, .ref a2, .ref a3, .ref a4]
theorem rows4_of {l led : List (Addr × Obj)} {vs : List Value} {r1 r2 r3 r4 : List Dat} (h : DatAll l vs [.tuple (.tuple [.int 1, .tuple []] :: r1), .tuple (.tuple [.int 2, .tuple []] :: r2), .tuple (.tuple [.int 3, .tuple []] :: r3), .tuple (.tuple [.int 4, .tuple []] :: r4)]) (hs : ∀ p ∈ l, p ∈ led) : Rows4 led vs := by
  obtain ⟨v1, v2, v3, v4, rfl, h1, h2, h3, h4⟩ := rows_open h
  obtain ⟨a1, b1, t1, u1, w1, n1, m1, rfl, p1, q1⟩ := row_open h1
  obtain ⟨a2, b2, t2, u2, w2, n2, m2, rfl, p2, q2⟩ := row_open h2
  obtain ⟨a3, b3, t3, u3, w3, n3, m3, rfl, p3, q3⟩ := row_open h3
  obtain ⟨a4, b4, t4, u4, w4, n4, m4, rfl, p4, q4⟩ := row_open h4
  exact .mk _ _ _ _ _ _ _ _ _ _ _ _ _ _ _ _ _ _ _ _ _ _ _ _ _ _ _ _ (hs _ p1) (hs _ p2) (hs _ p3) (hs _ p4) (hs _ q1) (hs _ q2) (hs _ q3) (hs _ q4)
theorem up_app {sub tl news : List (Addr × Obj)} (h : ∀ p ∈ sub, p ∈ news) : ∀ p ∈ tl ++ sub, p ∈ tl ++ news := fun p hp => by
  rcases List.mem_append.mp hp with hp | hp
  · exact List.mem_append.mpr (.inl hp)
  · exact List.mem_append.mpr (.inr (h p hp))
end
section
theorem lines_D4 : True := by
  k_with_none
  (k_with "FinE" => ((unfold LCg.FinE); intro D' h' tk' F' N' o1'; (replace o1' := off1_off o1'); (try simp only [List.nil_append, List.cons_append] at N'); (try dsimp only)))
  (k_with "UnrEnd" => (k_dflt (refine' unr_end (by k_asm) (by k_asm) (by kl_room) (by ki_room) ?_; k_whole)))
  (k_with "subscriptTail Name Constant ref int" => (k_here; (with_reducible show wpAny _ _ (subscriptTail _ _ (Value.ref _) (Value.int _ _)) _ _ _); k_dflt (first
  | (refine' led_item (by k_asm) (by kl_some) (by decide) (by decide) (by rfl) ?_ (by with_unfolding_all rfl); k_whole)
  | (refine' led_itemT (by k_asm) (by kl_some) (by decide) (by decide) (by rfl) ?_ (by with_unfolding_all rfl); k_whole))))
  (k_with "ite" => (k_closed; first | (refine ite_no (by with_unfolding_all rfl) ?_) | (refine ite_yes (by with_unfolding_all rfl) ?_)))
  (k_with "newList" => (k_here; k_dflt (refine' led_newListX (by k_asm) (by k_asm) (by exact Nat.le_of_ble_eq_true rfl) ?_; k_whole); intro l' h' F' N' l1; (try k_sweep)))
  (k_with "newTuple" => (k_here; k_dflt (refine' led_newTupleX (by k_asm) (by k_asm) (by exact Nat.le_of_ble_eq_true rfl) ?_; k_whole); intro l' h' F' N' l1; (try k_sweep)))
  (k_with "FinE" => ((unfold LCg.FinE); intro D' h' tk' F' N' o1'; (replace o1' := off1_off o1'); (try simp only [List.nil_append, List.cons_append] at N'); (try dsimp only)))
  (k_with "eval Constant str" => (k_here; k_dflt (refine' ev_str ?_; k_whole); intro t9' k9'))
  (k_with "eval Constant int" => (k_here; k_dflt (refine' ev_int ?_; k_whole); intro t9' k9'))
  (k_with "eval Tuple" => (k_here; k_dflt (first | ((with_reducible show wpAny _ _ (eval (Expr.Tuple [Expr.Constant (Const.str _) _ _] _ _) _) _ _ _); with_reducible refine' ev_t_s (by k_asm) (by k_asm) ?_; k_whole; intro t0' l' h' tk' F' N' l1; (try k_sweep)) | ((with_reducible show wpAny _ _ (eval (Expr.Tuple [Expr.Constant (Const.str _) _ _, Expr.Constant (Const.str _) _ _] _ _) _) _ _ _); with_reducible refine' ev_t_ss (by k_asm) (by k_asm) ?_; k_whole; intro t0' t1' l' h' tk' F' N' l1; (try k_sweep)) | ((with_reducible show wpAny _ _ (eval (Expr.Tuple [Expr.Constant (Const.str _) _ _, Expr.Constant (Const.int _) _ _] _ _) _) _ _ _); with_reducible refine' ev_t_si (by k_asm) (by k_asm) ?_; k_whole; intro t0' t1' l' h' tk' F' N' l1; (try k_sweep)))))
  (k_with "eval List" => (k_here; k_dflt (first | ((with_reducible show wpAny _ _ (eval (Expr.List [Expr.Constant (Const.str _) _ _, Expr.Constant (Const.str _) _ _] _) _) _ _ _); with_reducible refine' ev_l_ss (by k_asm) (by k_asm) ?_; k_whole; intro t0' t1' l' h' tk' F' N' l1; (try k_sweep)) | ((with_reducible show wpAny _ _ (eval (Expr.List [Expr.Constant (Const.str _) _ _, Expr.Constant (Const.str _) _ _, Expr.Constant (Const.str _) _ _] _) _) _ _ _); with_reducible refine' ev_l_sss (by k_asm) (by k_asm) ?_; k_whole; intro t0' t1' t2' l' h' tk' F' N' l1; (try k_sweep)))))
  (k_with "call ref" => (k_here; (with_reducible show wpAny _ _ (call (Value.ref 152) _ _) _ _ _); k_dflt (
    refine' Ctr.useT (by k_asm) (by k_asm) (by k_asm) (by k_asm) (by k_asm) (by kl_room) (by first | exact rfl | with_reducible assumption) (by ktr_room) (by ktr_units) (take_ctr (by first | decide | omega) (by with_reducible assumption) (by ki_room)) ?_;
    intro i9 a9 b9 t9 u9 tk9' h9 tk9 hi9 hi9' hb9 F9 N9; (try k_sweep))))
  (k_with "call ref" => (k_here; (with_reducible show wpAny _ _ (call (Value.ref 159) _ _) _ _ _); k_dflt (first | (refine' Ctr.useO3 (by k_asm) (by k_asm) (by k_asm) (by k_asm) (by k_asm) (by kl_room) (by first | exact rfl | with_reducible assumption) (by ktr_room) (by ktr_units) (one_ctr (by with_reducible assumption) (by ki_room) (by kl_some) (by exact Nat.le_of_ble_eq_true rfl) (by exact Nat.le_of_ble_eq_true rfl)) ?_ ?_ ?_ <;> (intro a9 b9 t9 u9 h9 tk9 hb9 F9 N9; try k_sweep)) | (refine' Ctr.useO2 (by k_asm) (by k_asm) (by k_asm) (by k_asm) (by k_asm) (by kl_room) (by first | exact rfl | with_reducible assumption) (by ktr_room) (by ktr_units) (one_ctr (by with_reducible assumption) (by ki_room) (by kl_some) (by exact Nat.le_of_ble_eq_true rfl) (by exact Nat.le_of_ble_eq_true rfl)) ?_ ?_ <;> (intro a9 b9 t9 u9 h9 tk9 hb9 F9 N9; try k_sweep)))))
  (k_with "call ref" => (k_here; (with_reducible show wpAny _ _ (call (Value.ref 166) _ _) _ _ _); k_dflt (
    refine' Ctr.useD1 (by k_asm) (by k_asm) (by k_asm) (by k_asm) (by k_asm) (by kl_room) (by first | exact rfl | with_reducible assumption) (by ktr_room) (by ktr_units) (place_ctr (by with_reducible assumption) (by ki_room)) ?_;
    intro r9 a9 b9 t9 u9 tl9 d9 h9 tk9 hb9 ha9 hd9 sd9 F9 N9; obtain ⟨li9, pi9⟩ := placeI_of sd9; have pc9 := placeC_of hd9 pi9; cases pc9; (all_goals try k_sweep))))
  (k_with "call ref" => (k_here; (with_reducible show wpAny _ _ (call (Value.ref 173) _ _) _ _ _); k_dflt (
    refine' Ctr.useD2 (by k_asm) (by k_asm) (by k_asm) (by k_asm) (by k_asm) (by kl_room) (by first | exact rfl | with_reducible assumption) (by ktr_room) (by ktr_units) (operand_ctr (by with_reducible assumption) (by ki_room)) ?_;
    intro r9 a9 b9 t9 u9 tl9 d9 l9 h9 tk9 hb9 ha9 hd9 sd9 F9 N9; (try k_sweep))))
  (k_with "call ref" => (k_here; (with_reducible show wpAny _ _ (call (Value.ref 180) _ _) _ _ _); k_dflt (
    refine' Ctr.useG (by k_asm) (by k_asm) (by k_asm) (by k_asm) (by k_asm) (by first | exact rfl | with_reducible assumption) (by ktr_room) (by ktr_units) (lofop_ctr (by with_reducible assumption) (by kt_l_size) (by with_reducible assumption)) ?_;
    intro tl9 q9 vs9 m9 h9 tk9 ha9 hm9 hv9 hz9 F9 N9; (try k_sweep))))
  (k_with "call ref" => (k_here; (with_reducible show wpAny _ _ (call (Value.ref 187) _ _) _ _ _); k_dflt (
    refine' Ctr.useR (by k_asm) (by k_asm) (by k_asm) (by k_asm) (by k_asm) (by kl_room) (by first | exact rfl | with_reducible assumption) (by ktr_room) (by ktr_units) (rvalue_ctr (by with_reducible assumption) (by ki_room)) ?_;
    intro a9 b9 t9 u9 tl9 d9 l9 q9 n9' v9 q9' vs9 n9'' h9 tk9 hb9 ha9 rd9 hm9 hv9 hm9' hvs9 hz9 F9 N9; have hz9' := rvA_len rd9; (try k_sweep))))
  (k_with "binaryOp Add ref ref" => (k_here; k_dflt (refine' led_addX (by k_asm) (by k_asm) (by kl_some) (by kl_some) (by ((try simp only [List.length_cons, List.length_nil, List.length_append]); omega)) ?_; k_whole); intro D' h' F' N' l1; (try simp only [List.nil_append, List.cons_append] at N'); (try k_sweep)))
  (k_with "CompSrc" => (k_here; k_dflt (first
  | (refine LCg.CompSrc.ledger (by rfl) (by k_asm) (by k_asm) (by kl_some) (Nat.le_trans (m := 1000) (Nat.le_of_ble_eq_true rfl) line1000) ?_; intro g'; lcg_lit)
  | (refine LCg.CompSrc.range (by rfl) (by k_asm) (by k_asm) (by with_reducible assumption) (by first | decide | rfl) (by first | rfl | decide) (Nat.le_trans (m := 1000) (Nat.le_of_ble_eq_true rfl) line1000) ?_; intro g'; lcg_lit))))
  (k_with "FinA" => ((unfold LCg.FinA); intro D' h' tk' F' N' o1'; (replace o1' := off1_off o1'); (try simp only [List.nil_append, List.cons_append] at N'); (try dsimp only)))
  (k_with "SrcTup" => (k_here; k_dflt (refine' SrcTup.intro (by exact rfl) (by k_asm) (by k_asm) (by kl_some) (by exact Nat.le_of_ble_eq_true rfl) ?_; k_whole); intro g'))
  (k_with "CompRestT" => (with_unfolding_all first
  | (refine compT_int ?_; intro t9' I' oI' C' oC' D' m' h' tk' E' hC' hx' F' N' off' ne1' ne2' ne3'; (try dsimp only [List.nil_append, List.cons_append] at N'))
  | (refine LCt.CompRestT.succ ?_; intro v' I' oI' C' oC' D' m' h' tk' E' hv' hC' hx' F' N' off' ne'; (first | lcg_open hv' | (obtain ⟨t9', hv9'⟩ := hv'; subst hv9')); ((have ne1' := And.left ne'); (have ne2' := And.left (And.right ne')); (have ne3' := And.right (And.right ne'))))
  | refine LCt.CompRestT.zero ?_))
  (k_with "CompRest" => (with_unfolding_all first
  | (refine comp_int ?_; intro t9' I' oI' C' oC' D' m' h' tk' E' hC' hx' F' N' off' ne1' ne2' ne3'; (try dsimp only [List.nil_append, List.cons_append] at N'))
  | (refine LCg.CompRest.succ ?_; intro v' I' oI' C' oC' D' m' h' tk' E' hv' hC' hx' F' N' off' ne'; (first | lcg_open hv' | (obtain ⟨t9', hv9'⟩ := hv'; subst hv9')); ((have ne1' := And.left ne'); (have ne2' := And.left (And.right ne')); (have ne3' := And.right (And.right ne'))))
  | refine LCg.CompRest.zero ?_))
  (k_with "CompEnd" => (k_dflt (refine' comp_end (by k_asm) (by k_asm) (by kl_room) (by kl_room) (by kl_room) (by ki_room) (by ki_room) (by ki_room) (by first | exact True.intro | exact Or.inr ⟨_, by kl_some, rfl, _, rfl⟩ | kl_some) ?_; k_whole)))
  (k_with "eval ListComp" => (k_here; k_dflt (refine listComp_tup (F₀ := by k_asm) (by with_unfolding_all rfl) (by decide) (by rfl) (by decide) (by rfl) ?_)))
  trivial
set_option maxRecDepth 100000 in
set_option maxHeartbeats 8000000 in
theorem statement_ctr {prog : Program} {w : World} {src : Addr} {a b : Int} {t u : Tok} {n : Nat} {news : List (Addr × Obj)} (hb : Bnd b) (off : Off src news) :
    Ctr prog w 192 24 240 [.ref src] ((src, srcObj a b t u n) :: news) (Drawn src n news fun tl r => ∃ d l, DatIn tl r (.list [d, .list l]) ∧ StA d l) := by
  refine ctr_intro ?_
  intro mean mg mb dp un gd cn cs ca ccd cl outer A₀ base h₀ L m hp sg sd st so Q E B F X N T hck hd hu hret
  refine wpAny_call ?_
  k_dflt ktr_enter
  refine gen_toks (sg := sg) (sd := sd) (so := so) ?_
  intro tk0
  repeat' ((fail_if_success (with_reducible show wpAny _ _ (exec (Stmt.Assign [Expr.Name _ _] (Expr.BinOp _ _ _ _) _) _) _ _ _)); first | (k_unfold; (try dsimp only)) | (k_end; wrow_close) | walk1 | (dsimp only; walk1) | (leave1; walk_say "STEP leave1"; try dsimp only) | fail "no step")
  · refine' drawn_fin hret (by k_asm) (by k_asm) (by kl_room) (by units_room1) (by with_reducible assumption) (by dictfold_kept) ?_
    exact ⟨_, _, by kqd_in, .dead _⟩
  · refine' drawn_fin hret (by k_asm) (by k_asm) (by kl_room) (by units_room1) (by with_reducible assumption) (by dictfold_kept) ?_
    exact ⟨_, _, by kqd_in, .print _ _ (by with_reducible assumption)⟩
  · refine' drawn_fin hret (by k_asm) (by k_asm) (by kl_room) (by units_room1) (by with_reducible assumption) (by dictfold_kept) ?_
    exact ⟨_, _, by kqd_in, .live⟩
  · refine' drawn_fin hret (by k_asm) (by k_asm) (by kl_room) (by units_room1) (by with_reducible assumption) (by dictfold_kept) ?_
    exact ⟨_, _, by kqd_in, .nop⟩
  all_goals (
    k_steps
    refine' drawn_fin hret (by k_asm) (by k_asm) (by kl_room) (by units_room1) (by with_reducible assumption) (by dictfold_kept) ?_
    exact ⟨_, _, by kqd_in, .assign _ _ _ _ (by with_reducible assumption) (by with_reducible assumption) (by with_reducible assumption)⟩)
end
section
theorem lines_D5 : True := by
  k_with_none
  (k_with "FinE" => ((unfold LCg.FinE); intro D' h' tk' F' N' o1'; (replace o1' := off1_off o1'); (try simp only [List.nil_append, List.cons_append] at N'); (try dsimp only)))
  (k_with "UnrEnd" => (k_dflt (refine' unr_end (by k_asm) (by k_asm) (by kl_room) (by ki_room) ?_; k_whole)))
  (k_with "subscriptTail Name Constant ref int" => (k_here; (with_reducible show wpAny _ _ (subscriptTail _ _ (Value.ref _) (Value.int _ _)) _ _ _); k_dflt (first
  | (refine' led_item (by k_asm) (by kl_some) (by decide) (by decide) (by rfl) ?_ (by with_unfolding_all rfl); k_whole)
  | (refine' led_itemT (by k_asm) (by kl_some) (by decide) (by decide) (by rfl) ?_ (by with_unfolding_all rfl); k_whole))))
  (k_with "ite" => (k_closed; first | (refine ite_no (by with_unfolding_all rfl) ?_) | (refine ite_yes (by with_unfolding_all rfl) ?_)))
  (k_with "newList" => (k_here; k_dflt (refine' led_newListX (by k_asm) (by k_asm) (by exact Nat.le_of_ble_eq_true rfl) ?_; k_whole); intro l' h' F' N' l1; (try k_sweep)))
  (k_with "newTuple" => (k_here; k_dflt (refine' led_newTupleX (by k_asm) (by k_asm) (by exact Nat.le_of_ble_eq_true rfl) ?_; k_whole); intro l' h' F' N' l1; (try k_sweep)))
  (k_with "FinE" => ((unfold LCg.FinE); intro D' h' tk' F' N' o1'; (replace o1' := off1_off o1'); (try simp only [List.nil_append, List.cons_append] at N'); (try dsimp only)))
  (k_with "eval Constant str" => (k_here; k_dflt (refine' ev_str ?_; k_whole); intro t9' k9'))
  (k_with "eval Constant int" => (k_here; k_dflt (refine' ev_int ?_; k_whole); intro t9' k9'))
  (k_with "eval Tuple" => (k_here; k_dflt (first | ((with_reducible show wpAny _ _ (eval (Expr.Tuple [Expr.Constant (Const.str _) _ _] _ _) _) _ _ _); with_reducible refine' ev_t_s (by k_asm) (by k_asm) ?_; k_whole; intro t0' l' h' tk' F' N' l1; (try k_sweep)) | ((with_reducible show wpAny _ _ (eval (Expr.Tuple [Expr.Constant (Const.str _) _ _, Expr.Constant (Const.str _) _ _] _ _) _) _ _ _); with_reducible refine' ev_t_ss (by k_asm) (by k_asm) ?_; k_whole; intro t0' t1' l' h' tk' F' N' l1; (try k_sweep)) | ((with_reducible show wpAny _ _ (eval (Expr.Tuple [Expr.Constant (Const.str _) _ _, Expr.Constant (Const.int _) _ _] _ _) _) _ _ _); with_reducible refine' ev_t_si (by k_asm) (by k_asm) ?_; k_whole; intro t0' t1' l' h' tk' F' N' l1; (try k_sweep)))))
  (k_with "eval List" => (k_here; k_dflt (first | ((with_reducible show wpAny _ _ (eval (Expr.List [Expr.Constant (Const.str _) _ _, Expr.Constant (Const.str _) _ _] _) _) _ _ _); with_reducible refine' ev_l_ss (by k_asm) (by k_asm) ?_; k_whole; intro t0' t1' l' h' tk' F' N' l1; (try k_sweep)) | ((with_reducible show wpAny _ _ (eval (Expr.List [Expr.Constant (Const.str _) _ _, Expr.Constant (Const.str _) _ _, Expr.Constant (Const.str _) _ _] _) _) _ _ _); with_reducible refine' ev_l_sss (by k_asm) (by k_asm) ?_; k_whole; intro t0' t1' t2' l' h' tk' F' N' l1; (try k_sweep)))))
  (k_with "call ref" => (k_here; (with_reducible show wpAny _ _ (call (Value.ref 152) _ _) _ _ _); k_dflt (
    refine' Ctr.useT (by k_asm) (by k_asm) (by k_asm) (by k_asm) (by k_asm) (by kl_room) (by first | exact rfl | with_reducible assumption) (by ktr_room) (by ktr_units) (take_ctr (by first | decide | omega) (by with_reducible assumption) (by ki_room)) ?_;
    intro i9 a9 b9 t9 u9 tk9' h9 tk9 hi9 hi9' hb9 F9 N9; (try k_sweep))))
  (k_with "call ref" => (k_here; (with_reducible show wpAny _ _ (call (Value.ref 159) _ _) _ _ _); k_dflt (first | (refine' Ctr.useO3 (by k_asm) (by k_asm) (by k_asm) (by k_asm) (by k_asm) (by kl_room) (by first | exact rfl | with_reducible assumption) (by ktr_room) (by ktr_units) (one_ctr (by with_reducible assumption) (by ki_room) (by kl_some) (by exact Nat.le_of_ble_eq_true rfl) (by exact Nat.le_of_ble_eq_true rfl)) ?_ ?_ ?_ <;> (intro a9 b9 t9 u9 h9 tk9 hb9 F9 N9; try k_sweep)) | (refine' Ctr.useO2 (by k_asm) (by k_asm) (by k_asm) (by k_asm) (by k_asm) (by kl_room) (by first | exact rfl | with_reducible assumption) (by ktr_room) (by ktr_units) (one_ctr (by with_reducible assumption) (by ki_room) (by kl_some) (by exact Nat.le_of_ble_eq_true rfl) (by exact Nat.le_of_ble_eq_true rfl)) ?_ ?_ <;> (intro a9 b9 t9 u9 h9 tk9 hb9 F9 N9; try k_sweep)))))
  (k_with "call ref" => (k_here; (with_reducible show wpAny _ _ (call (Value.ref 166) _ _) _ _ _); k_dflt (
    refine' Ctr.useD1 (by k_asm) (by k_asm) (by k_asm) (by k_asm) (by k_asm) (by kl_room) (by first | exact rfl | with_reducible assumption) (by ktr_room) (by ktr_units) (place_ctr (by with_reducible assumption) (by ki_room)) ?_;
    intro r9 a9 b9 t9 u9 tl9 d9 h9 tk9 hb9 ha9 hd9 sd9 F9 N9; (try k_sweep))))
  (k_with "call ref" => (k_here; (with_reducible show wpAny _ _ (call (Value.ref 173) _ _) _ _ _); k_dflt (
    refine' Ctr.useD2 (by k_asm) (by k_asm) (by k_asm) (by k_asm) (by k_asm) (by kl_room) (by first | exact rfl | with_reducible assumption) (by ktr_room) (by ktr_units) (operand_ctr (by with_reducible assumption) (by ki_room)) ?_;
    intro r9 a9 b9 t9 u9 tl9 d9 l9 h9 tk9 hb9 ha9 hd9 sd9 F9 N9; (try k_sweep))))
  (k_with "call ref" => (k_here; (with_reducible show wpAny _ _ (call (Value.ref 180) _ _) _ _ _); k_dflt (
    refine' Ctr.useG (by k_asm) (by k_asm) (by k_asm) (by k_asm) (by k_asm) (by first | exact rfl | with_reducible assumption) (by ktr_room) (by ktr_units) (lofop_ctr (by with_reducible assumption) (by kt_l_size) (by with_reducible assumption)) ?_;
    intro tl9 q9 vs9 m9 h9 tk9 ha9 hm9 hv9 hz9 F9 N9; (try k_sweep))))
  (k_with "binaryOp Add ref ref" => (k_here; k_dflt (refine' led_addX (by k_asm) (by k_asm) (by kl_some) (by kl_some) (by ((try simp only [List.length_cons, List.length_nil, List.length_append]); omega)) ?_; k_whole); intro D' h' F' N' l1; (try simp only [List.nil_append, List.cons_append] at N'); (try k_sweep)))
  (k_with "CompSrc" => (k_here; k_dflt (first
  | (refine LCg.CompSrc.ledger (by rfl) (by k_asm) (by k_asm) (by kl_some) (Nat.le_trans (m := 1000) (Nat.le_of_ble_eq_true rfl) line1000) ?_; intro g'; lcg_lit)
  | (refine LCg.CompSrc.range (by rfl) (by k_asm) (by k_asm) (by with_reducible assumption) (by first | decide | rfl) (by first | rfl | decide) (Nat.le_trans (m := 1000) (Nat.le_of_ble_eq_true rfl) line1000) ?_; intro g'; lcg_lit))))
  (k_with "FinA" => ((unfold LCg.FinA); intro D' h' tk' F' N' o1'; (replace o1' := off1_off o1'); (try simp only [List.nil_append, List.cons_append] at N'); (try dsimp only)))
  (k_with "SrcTup" => (k_here; k_dflt (refine' SrcTup.intro (by exact rfl) (by k_asm) (by k_asm) (by kl_some) (by exact Nat.le_of_ble_eq_true rfl) ?_; k_whole); intro g'))
  (k_with "CompRestT" => (with_unfolding_all first
  | (refine compT_int ?_; intro t9' I' oI' C' oC' D' m' h' tk' E' hC' hx' F' N' off' ne1' ne2' ne3'; (try dsimp only [List.nil_append, List.cons_append] at N'))
  | (refine LCt.CompRestT.succ ?_; intro v' I' oI' C' oC' D' m' h' tk' E' hv' hC' hx' F' N' off' ne'; (first | lcg_open hv' | (obtain ⟨t9', hv9'⟩ := hv'; subst hv9')); ((have ne1' := And.left ne'); (have ne2' := And.left (And.right ne')); (have ne3' := And.right (And.right ne'))))
  | refine LCt.CompRestT.zero ?_))
  (k_with "CompRest" => (with_unfolding_all first
  | (refine comp_int ?_; intro t9' I' oI' C' oC' D' m' h' tk' E' hC' hx' F' N' off' ne1' ne2' ne3'; (try dsimp only [List.nil_append, List.cons_append] at N'))
  | (refine LCg.CompRest.succ ?_; intro v' I' oI' C' oC' D' m' h' tk' E' hv' hC' hx' F' N' off' ne'; (first | lcg_open hv' | (obtain ⟨t9', hv9'⟩ := hv'; subst hv9')); ((have ne1' := And.left ne'); (have ne2' := And.left (And.right ne')); (have ne3' := And.right (And.right ne'))))
  | refine LCg.CompRest.zero ?_))
  (k_with "CompEnd" => (k_dflt (refine' comp_end (by k_asm) (by k_asm) (by kl_room) (by kl_room) (by kl_room) (by ki_room) (by ki_room) (by ki_room) (by first | exact True.intro | exact Or.inr ⟨_, by kl_some, rfl, _, rfl⟩ | kl_some) ?_; k_whole)))
  trivial
set_option maxRecDepth 100000 in
set_option maxHeartbeats 8000000 in
theorem terminator_ctr {tm : Tok} {prog : Program} {w : World} {src : Addr} {a b : Int} {t u : Tok} {n : Nat} {news : List (Addr × Obj)} (hb : Bnd b) (off : Off src news) :
    Ctr prog w 197 24 240 [.ref src, .int 5 tm] ((src, srcObj a b t u n) :: news) (Drawn src n news fun tl r => ∃ d l, DatIn tl r (.list [d, .list l]) ∧ TermA d l) := by
  refine ctr_intro ?_
  intro mean mg mb dp un gd cn cs ca ccd cl outer A₀ base h₀ L m hp sg sd st so Q E B F X N T hck hd hu hret
  refine wpAny_call ?_
  k_dflt ktr_enter
  refine gen_toks (sg := sg) (sd := sd) (so := so) ?_
  intro tk0
  repeat' ((fail_if_success (with_reducible show wpAny _ _ (exec (Stmt.If _ _ _ _) _) _ _ _)); first | (k_unfold; (try dsimp only)) | (k_end; wrow_close) | walk1 | (dsimp only; walk1) | (leave1; walk_say "STEP leave1"; try dsimp only) | fail "no step")
  rename _ < (7 : Int) => hw1
  have hw2 := split7 (by with_reducible assumption) hw1
  rcases hw2 with hw2 | hw2 | hw2 | hw2 | hw2 | hw2 | hw2 <;> subst hw2
  · k_steps
    refine' drawn_fin hret (by k_asm) (by k_asm) (by kl_room) (by units_room1) (by with_reducible assumption) (by dictfold_kept) ?_
    exact ⟨_, _, by kqd_in, .ret⟩
  all_goals k_steps
  all_goals (refine' drawn_fin hret (by k_asm) (by k_asm) (by kl_room) (by units_room1) (by with_reducible assumption) (by dictfold_kept) ?_)
  · exact ⟨_, _, by kqd_in, .drop _ (by with_reducible assumption)⟩
  · exact ⟨_, _, by kqd_in, .call _ _ _ _ _ (by with_reducible assumption) (by with_reducible assumption) (by with_reducible assumption)⟩
  · exact ⟨_, _, by kqd_in, .call _ _ _ _ _ (by with_reducible assumption) (by with_reducible assumption) (by with_reducible assumption)⟩
  · exact ⟨_, _, by kqd_in, .switch _ _ (by with_reducible assumption)⟩
  · exact ⟨_, _, by kqd_in, .assert _ _ (by with_reducible assumption)⟩
  · exact ⟨_, _, by kqd_in, .goto⟩
  · exact ⟨_, _, by kqd_in, .panic⟩
  · exact ⟨_, _, by kqd_in, .unreachable⟩
end
section
theorem lines_D6 : True := by
  k_with_none
  (k_with "FinE" => ((unfold LCg.FinE); intro D' h' tk' F' N' o1'; (replace o1' := off1_off o1'); (try simp only [List.nil_append, List.cons_append] at N'); (try dsimp only)))
  (k_with "UnrEnd" => (k_dflt (refine' unr_end (by k_asm) (by k_asm) (by kl_room) (by ki_room) ?_; k_whole)))
  (k_with "subscriptTail Name Constant ref int" => (k_here; (with_reducible show wpAny _ _ (subscriptTail _ _ (Value.ref _) (Value.int _ _)) _ _ _); k_dflt (first
  | (refine' led_item (by k_asm) (by kl_some) (by decide) (by decide) (by rfl) ?_ (by with_unfolding_all rfl); k_whole)
  | (refine' led_itemT (by k_asm) (by kl_some) (by decide) (by decide) (by rfl) ?_ (by with_unfolding_all rfl); k_whole))))
  (k_with "ite" => (k_closed; first | (refine ite_no (by with_unfolding_all rfl) ?_) | (refine ite_yes (by with_unfolding_all rfl) ?_)))
  (k_with "newList" => (k_here; k_dflt (refine' led_newListX (by k_asm) (by k_asm) (by exact Nat.le_of_ble_eq_true rfl) ?_; k_whole); intro l' h' F' N' l1; (try k_sweep)))
  (k_with "newTuple" => (k_here; k_dflt (refine' led_newTupleX (by k_asm) (by k_asm) (by exact Nat.le_of_ble_eq_true rfl) ?_; k_whole); intro l' h' F' N' l1; (try k_sweep)))
  (k_with "FinE" => ((unfold LCg.FinE); intro D' h' tk' F' N' o1'; (replace o1' := off1_off o1'); (try simp only [List.nil_append, List.cons_append] at N'); (try dsimp only)))
  (k_with "eval Constant str" => (k_here; k_dflt (refine' ev_str ?_; k_whole); intro t9' k9'))
  (k_with "eval Constant int" => (k_here; k_dflt (refine' ev_int ?_; k_whole); intro t9' k9'))
  (k_with "eval Tuple" => (k_here; k_dflt (first | ((with_reducible show wpAny _ _ (eval (Expr.Tuple [Expr.Constant (Const.str _) _ _] _ _) _) _ _ _); with_reducible refine' ev_t_s (by k_asm) (by k_asm) ?_; k_whole; intro t0' l' h' tk' F' N' l1; (try k_sweep)) | ((with_reducible show wpAny _ _ (eval (Expr.Tuple [Expr.Constant (Const.str _) _ _, Expr.Constant (Const.str _) _ _] _ _) _) _ _ _); with_reducible refine' ev_t_ss (by k_asm) (by k_asm) ?_; k_whole; intro t0' t1' l' h' tk' F' N' l1; (try k_sweep)) | ((with_reducible show wpAny _ _ (eval (Expr.Tuple [Expr.Constant (Const.str _) _ _, Expr.Constant (Const.int _) _ _] _ _) _) _ _ _); with_reducible refine' ev_t_si (by k_asm) (by k_asm) ?_; k_whole; intro t0' t1' l' h' tk' F' N' l1; (try k_sweep)))))
  (k_with "eval List" => (k_here; k_dflt (first | ((with_reducible show wpAny _ _ (eval (Expr.List [Expr.Constant (Const.str _) _ _, Expr.Constant (Const.str _) _ _] _) _) _ _ _); with_reducible refine' ev_l_ss (by k_asm) (by k_asm) ?_; k_whole; intro t0' t1' l' h' tk' F' N' l1; (try k_sweep)) | ((with_reducible show wpAny _ _ (eval (Expr.List [Expr.Constant (Const.str _) _ _, Expr.Constant (Const.str _) _ _, Expr.Constant (Const.str _) _ _] _) _) _ _ _); with_reducible refine' ev_l_sss (by k_asm) (by k_asm) ?_; k_whole; intro t0' t1' t2' l' h' tk' F' N' l1; (try k_sweep)))))
  trivial
set_option maxRecDepth 100000 in
set_option maxHeartbeats 1000000 in
theorem pool_ctr {prog : Program} {w : World} {sc : Addr} {vs : List Value} {ns : List Int} {k : Int} {tk : Tok} {news : List (Addr × Obj)} (hi : IntsAre vs ns) (hlay : PyData.layable0 (.list (ns.map .int)) = true) (hk : k = 0 ∨ k = 1) :
  ∀ (mean : ExcName → Option Value) (mg mb : Str → Option Value) (dp un : Nat) (gd : Option (List Code)) (cn : Str) (cs : Scope) (a : Addr) (ccd : Value) (cl : List (Str × Addr)) (outer : List Env) (A₀ : Around) (base h₀ : Heap) (L : Addr) (m : Str → Option Value) (s : Shared) (Q E : Value → Shared → Prop),
    base.IsList sc vs.toArray → Below A₀ base outer h₀ → Fr h₀ L s.heap m → (hd.heap_1 w.params).In h₀ → News h₀ L s.heap news → Top hd.view_39 (looseW hd.view_39 []) mean mg mb h₀ → cs.kind = .function → dp + 4 < recursionLimit → un + 40 < cLine →
    (∀ D a b t u h' tk', Bnd b → Fr h₀ L h' m → News h₀ L h' ((D, srcObj a b t u 0) :: news) → (∀ p ∈ news, p.1 < D) → Q (.ref D) { s with heap := h', toks := tk' }) →
    wpAny (model prog w) (ktrTop dp un gd cn cs L a ccd cl outer) (call (.ref 145) [.ref sc, .int k tk]) Q E s := by
  intro mean mg mb dp un gd cn cs ca ccd cl outer A₀ base h₀ L m s Q E hl B F X N T hck hd hu hret
  rcases hk with hk | hk <;> subst hk
  all_goals (
    refine wpAny_call ?_
    k_dflt ktr_enter
    rename Below _ _ (_ :: _) _ => B2
    k_lift B2
    k_steps)
  all_goals exact hret _ _ _ _ _ _ _ ⟨(fmod_in (by decide)).1, (fmod_in (by decide)).2⟩ (by k_asm) (by k_asm) (allLt_mem (by with_reducible assumption))
theorem pool_use {prog : Program} {w : World} {sc : Addr} {vs : List Value} {ns : List Int} {k : Int} {tk : Tok} {news : List (Addr × Obj)} {mean : ExcName → Option Value} {mg mb : Str → Option Value} {dp un : Nat} {gd : Option (List Code)} {cn : Str} {cs : Scope} {a : Addr} {ccd : Value} {cl : List (Str × Addr)} {outer : List Env} {A₀ : Around} {base h₀ : Heap} {L : Addr} {m : Str → Option Value} {s : Shared} {Q E : Value → Shared → Prop}
    (B : Below A₀ base outer h₀) (F : Fr h₀ L s.heap m) (X : (hd.heap_1 w.params).In h₀) (N : News h₀ L s.heap news) (T : Top hd.view_39 (looseW hd.view_39 []) mean mg mb h₀) (hl : base.IsList sc vs.toArray) (hi : IntsAre vs ns) (hlay : PyData.layable0 (.list (ns.map .int)) = true) (hk : k = 0 ∨ k = 1) (hck : cs.kind = .function) (hd : dp + 4 < recursionLimit) (hu : un + 40 < cLine)
    (hret : ∀ D a b t u h' tk', Bnd b → Fr h₀ L h' m → News h₀ L h' ((D, srcObj a b t u 0) :: news) → (∀ p ∈ news, p.1 < D) → Q (.ref D) { s with heap := h', toks := tk' }) :
    wpAny (model prog w) (ktrTop dp un gd cn cs L a ccd cl outer) (call (.ref 145) [.ref sc, .int k tk]) Q E s :=
  pool_ctr hi hlay hk _ _ _ _ _ _ _ _ _ _ _ _ _ _ _ _ _ _ _ _ hl B F X N T hck hd hu hret
end
section
theorem lines_T1 : True := by
  k_with_none
  (k_with "FinE" => ((unfold LCg.FinE); intro D' h' tk' F' N' o1'; (replace o1' := off1_off o1'); (try simp only [List.nil_append, List.cons_append] at N'); (try dsimp only)))
  (k_with "UnrEnd" => (k_dflt (refine' unr_end (by k_asm) (by k_asm) (by kl_room) (by ki_room) ?_; k_whole)))
  (k_with "subscriptTail Name Constant ref int" => (k_here; (with_reducible show wpAny _ _ (subscriptTail _ _ (Value.ref _) (Value.int _ _)) _ _ _); k_dflt (first
  | (refine' led_item (by k_asm) (by kl_some) (by decide) (by decide) (by rfl) ?_ (by with_unfolding_all rfl); k_whole)
  | (refine' led_itemT (by k_asm) (by kl_some) (by decide) (by decide) (by rfl) ?_ (by with_unfolding_all rfl); k_whole))))
  (k_with "ite" => (k_closed; first | (refine ite_no (by with_unfolding_all rfl) ?_) | (refine ite_yes (by with_unfolding_all rfl) ?_)))
  (k_with "newList" => (k_here; k_dflt (refine' led_newListX (by k_asm) (by k_asm) (by exact Nat.le_of_ble_eq_true rfl) ?_; k_whole); intro l' h' F' N' l1; (try k_sweep)))
  (k_with "newTuple" => (k_here; k_dflt (refine' led_newTupleX (by k_asm) (by k_asm) (by exact Nat.le_of_ble_eq_true rfl) ?_; k_whole); intro l' h' F' N' l1; (try k_sweep)))
  (k_with "FinE" => ((unfold LCg.FinE); intro D' h' tk' F' N' o1'; (replace o1' := off1_off o1'); (try simp only [List.nil_append, List.cons_append] at N'); (try dsimp only)))
  (k_with "eval Constant str" => (k_here; k_dflt (refine' ev_str ?_; k_whole); intro t9' k9'))
  (k_with "eval Constant int" => (k_here; k_dflt (refine' ev_int ?_; k_whole); intro t9' k9'))
  (k_with "eval Tuple" => (k_here; k_dflt (first | ((with_reducible show wpAny _ _ (eval (Expr.Tuple [Expr.Constant (Const.str _) _ _] _ _) _) _ _ _); with_reducible refine' ev_t_s (by k_asm) (by k_asm) ?_; k_whole; intro t0' l' h' tk' F' N' l1; (try k_sweep)) | ((with_reducible show wpAny _ _ (eval (Expr.Tuple [Expr.Constant (Const.str _) _ _, Expr.Constant (Const.str _) _ _] _ _) _) _ _ _); with_reducible refine' ev_t_ss (by k_asm) (by k_asm) ?_; k_whole; intro t0' t1' l' h' tk' F' N' l1; (try k_sweep)) | ((with_reducible show wpAny _ _ (eval (Expr.Tuple [Expr.Constant (Const.str _) _ _, Expr.Constant (Const.int _) _ _] _ _) _) _ _ _); with_reducible refine' ev_t_si (by k_asm) (by k_asm) ?_; k_whole; intro t0' t1' l' h' tk' F' N' l1; (try k_sweep)))))
  (k_with "eval List" => (k_here; k_dflt (first | ((with_reducible show wpAny _ _ (eval (Expr.List [Expr.Constant (Const.str _) _ _, Expr.Constant (Const.str _) _ _] _) _) _ _ _); with_reducible refine' ev_l_ss (by k_asm) (by k_asm) ?_; k_whole; intro t0' t1' l' h' tk' F' N' l1; (try k_sweep)) | ((with_reducible show wpAny _ _ (eval (Expr.List [Expr.Constant (Const.str _) _ _, Expr.Constant (Const.str _) _ _, Expr.Constant (Const.str _) _ _] _) _) _ _ _); with_reducible refine' ev_l_sss (by k_asm) (by k_asm) ?_; k_whole; intro t0' t1' t2' l' h' tk' F' N' l1; (try k_sweep)))))
  (k_with "subscriptTail Name Name ref int" => (k_here; (with_reducible show wpAny _ _ (subscriptTail _ _ (Value.ref _) (Value.int _ _)) _ _ _); k_dflt (refine' led_item (by k_asm) (by kl_some) (by decide) (by decide) (by rfl) ?_ (by with_unfolding_all rfl); k_whole)))
  (k_with "subscriptTail Attribute Name ref int" => (k_here; (with_reducible show wpAny _ _ (subscriptTail _ _ (Value.ref _) (Value.int _ _)) _ _ _); k_dflt (refine' led_item (by k_asm) (by kl_some) (by decide) (by decide) (by rfl) ?_ (by with_unfolding_all rfl); k_whole)))
  (k_with "call builtin:len" => (k_here; (with_reducible show wpAny _ _ (call (Value.builtin _) [Value.ref _]) _ _ _); k_dflt (refine' led_lenE (by k_asm) (by kl_some) (by exact Nat.le_of_ble_eq_true rfl) (by ((simp only [List.length_cons, List.length_nil, Nat.zero_add, Nat.reduceAdd]); exact rfl)) ?_; k_whole); intro t' k'))
  (k_with "assign Tuple" => (k_here; (with_reducible show wpAny _ _ (assign (Expr.Tuple _ _ _) _ (Value.ref _)) _ _ _); k_dflt (first
  | (refine' unpackN_ (by k_asm) (by k_asm) (by with_reducible assumption) (by exact rfl) (by exact rfl) (by exact rfl) ?_; k_whole)
  | (refine' unpack_tup (by k_asm) (by k_asm) (by exact rfl) (by kl_some) (by exact rfl) (by exact rfl) ?_; k_whole)
  | (refine' unpack_list (by k_asm) (by k_asm) (by exact rfl) (by kl_some) (by exact rfl) (by exact rfl) ?_; k_whole)); intro h' F' N'; (try k_sweep)))
  (k_with "eval Name" => (k_here; (with_reducible show wpAny _ _ (eval (Expr.Name _ _) (envOf _ _ _ _ _)) _ _ _); k_dflt (refine' ld (by k_asm) (by exact rfl) ?_; k_whole)))
  (k_with "eval Name" => (k_here; (with_reducible show wpAny _ _ (eval (Expr.Name _ _) (envOfC _ _ _ _ _)) _ _ _); k_dflt (refine' nameX_L (by k_asm) (by exact rfl) ?_ (by rfl) (by rfl); k_whole)))
  (k_with "eval Name" => (k_here; (with_reducible show wpAny _ _ (eval (Expr.Name (Str.ofString "many") _) (envOfC _ _ _ _ _)) _ _ _); (with_reducible rename LawM _ _ _ _ => lm9); k_dflt (refine' nameX_L (by k_asm) (by exact lm9.many) ?_ (by rfl) (by rfl); k_whole)))
  (k_with "eval Name" => (k_here; (with_reducible show wpAny _ _ (eval (Expr.Name (Str.ofString "rows") _) (envOfC _ _ _ _ _)) _ _ _); (with_reducible rename LawM _ _ _ _ => lm9); k_dflt (refine' nameX_L (by k_asm) (by exact lm9.rows) ?_ (by rfl) (by rfl); k_whole)))
  (k_with "eval Name" => (k_here; (with_reducible show wpAny _ _ (eval (Expr.Name (Str.ofString "script") _) (envOfC _ _ _ _ _)) _ _ _); (with_reducible rename LawM _ _ _ _ => lm9); k_dflt (refine' nameX_L (by k_asm) (by exact lm9.script) ?_ (by rfl) (by rfl); k_whole)))
  (k_with "call ref" => (k_here; (with_reducible show wpAny _ _ (call (Value.ref 192) _ _) _ _ _); k_dflt (
    refine' Ctr.useR (by k_asm) (by k_asm) (by k_asm) (by k_asm) (by k_asm) (by kl_room) (by first | exact rfl | with_reducible assumption) (by ktr_room) (by ktr_units) (statement_ctr (by with_reducible assumption) (by ki_room)) ?_;
    intro a9 b9 t9 u9 tl9 d9 l9 q9 n9' v9 q9' vs9 n9'' h9 tk9 hb9 ha9 rd9 hm9 hv9 hm9' hvs9 hz9 F9 N9; (try k_sweep))))
  (k_with "call ref" => (k_here; (with_reducible show wpAny _ _ (call (Value.ref 197) _ _) _ _ _); k_dflt (
    refine' Ctr.useR (by k_asm) (by k_asm) (by k_asm) (by k_asm) (by k_asm) (by kl_room) (by first | exact rfl | with_reducible assumption) (by ktr_room) (by ktr_units) (terminator_ctr (by with_reducible assumption) (by ki_room)) ?_;
    intro a9 b9 t9 u9 tl9 d9 l9 q9 n9' v9 q9' vs9 n9'' h9 tk9 hb9 ha9 rd9 hm9 hv9 hm9' hvs9 hz9 F9 N9; (try k_sweep))))
  (k_with "call ref" => (k_here; (with_reducible show wpAny _ _ (call (Value.ref 145) _ _) _ _ _); k_dflt (
    refine' pool_use (by k_asm) (by k_asm) (by k_asm) (by k_asm) (by k_asm) (by with_reducible assumption) (by with_reducible assumption) (by with_reducible assumption) (by with_reducible assumption) (by first | exact rfl | with_reducible assumption) (by ktr_room) (by ktr_units) ?_;
    intro D9 a9 b9 t9 u9 h9 tk9 hb9 F9 N9 l9; (try k_lt l9); (try k_sweep))))
  (k_with "call ref" => (k_here; (with_reducible show wpAny _ _ (call (Value.ref 61) _ _) _ _ _); k_dflt (
    refine' Ctr.useG (by k_asm) (by k_asm) (by k_asm) (by k_asm) (by k_asm) (by first | exact rfl | with_reducible assumption) (by ktr_room) (by ktr_units) (ofst_ctr (by with_reducible assumption) (by kt_l_size) (by with_reducible assumption)) ?_;
    intro tl9 q9 vs9 m9 h9 tk9 ha9 hm9 hv9 hz9 F9 N9; (try k_sweep))))
  (k_with "call ref" => (k_here; (with_reducible show wpAny _ _ (call (Value.ref 66) _ _) _ _ _); k_dflt (
    refine' Ctr.useG (by k_asm) (by k_asm) (by k_asm) (by k_asm) (by k_asm) (by first | exact rfl | with_reducible assumption) (by ktr_room) (by ktr_units) (ofterm_ctr (by with_reducible assumption) (by kt_l_size) (by with_reducible assumption)) ?_;
    intro tl9 q9 vs9 m9 h9 tk9 ha9 hm9 hv9 hz9 F9 N9; (try k_sweep))))
  (k_with "exec For Tuple Call cons nil" => (k_here; (rename Fr _ _ _ _ => lF'); (with_reducible rename PassesOwn _ _ _ _ => pE'); (with_unfolding_all refine' For_turns lF' ?_ (by intro _; rfl) pE'; k_whole)))
  (k_with "call type:enumerate" => (k_here; (with_reducible show wpAny _ _ (call (Value.type _) [Value.ref _]) (fun xv s₁ => wpAny _ _ (pyIter xv) (fun it s₂ => TurnsAt _ _ _ _ _ _ _ _ _ it s₂) _ s₁) _ _); k_dflt (refine' turns_enum2 (by exact rfl) (by k_asm) (by k_asm) (by kl_some) ?_; k_whole); intro i' j' l1 l2 l3))
  (k_with "UnrEndW" => (k_dflt (refine' unrw_end2 (by k_asm) (by k_asm) (by kl_room) (by kl_room) (by ki_room) (by ki_room) (by repeat' (first | exact True.intro | refine' And.intro ?_ ?_ | kl_some)) ?_; k_whole)))
  (k_with "CompSrc" => (k_here; k_dflt (first
  | (refine LCg.CompSrc.ledger (by rfl) (by k_asm) (by k_asm) (by kl_some) (Nat.le_trans (m := 1000) (Nat.le_of_ble_eq_true rfl) line1000) ?_; intro g'; lcg_lit)
  | (refine LCg.CompSrc.range (by rfl) (by k_asm) (by k_asm) (by with_reducible assumption) (by first | decide | rfl) (by first | rfl | decide) (Nat.le_trans (m := 1000) (Nat.le_of_ble_eq_true rfl) line1000) ?_; intro g'; lcg_lit))))
  (k_with "FinA" => ((unfold LCg.FinA); intro D' h' tk' F' N' o1'; (replace o1' := off1_off o1'); (try simp only [List.nil_append, List.cons_append] at N'); (try dsimp only)))
  (k_with "SrcTup" => (k_here; k_dflt (refine' SrcTup.intro (by exact rfl) (by k_asm) (by k_asm) (by kl_some) (by exact Nat.le_of_ble_eq_true rfl) ?_; k_whole); intro g'))
  (k_with "CompRestT" => (with_unfolding_all first
  | (refine compT_int ?_; intro t9' I' oI' C' oC' D' m' h' tk' E' hC' hx' F' N' off' ne1' ne2' ne3'; (try dsimp only [List.nil_append, List.cons_append] at N'))
  | (refine LCt.CompRestT.succ ?_; intro v' I' oI' C' oC' D' m' h' tk' E' hv' hC' hx' F' N' off' ne'; (first | lcg_open hv' | (obtain ⟨t9', hv9'⟩ := hv'; subst hv9')); ((have ne1' := And.left ne'); (have ne2' := And.left (And.right ne')); (have ne3' := And.right (And.right ne'))))
  | refine LCt.CompRestT.zero ?_))
  (k_with "CompRest" => (with_unfolding_all first
  | (refine comp_int ?_; intro t9' I' oI' C' oC' D' m' h' tk' E' hC' hx' F' N' off' ne1' ne2' ne3'; (try dsimp only [List.nil_append, List.cons_append] at N'))
  | (refine LCg.CompRest.succ ?_; intro v' I' oI' C' oC' D' m' h' tk' E' hv' hC' hx' F' N' off' ne'; (first | lcg_open hv' | (obtain ⟨t9', hv9'⟩ := hv'; subst hv9')); ((have ne1' := And.left ne'); (have ne2' := And.left (And.right ne')); (have ne3' := And.right (And.right ne'))))
  | refine LCg.CompRest.zero ?_))
  (k_with "CompEnd" => (k_dflt (refine' comp_end (by k_asm) (by k_asm) (by kl_room) (by kl_room) (by kl_room) (by ki_room) (by ki_room) (by ki_room) (by first | exact True.intro | exact Or.inr ⟨_, by kl_some, rfl, _, rfl⟩ | kl_some) ?_; k_whole)))
  (k_with "eval ListComp" => (k_here; k_dflt (refine listComp_firsts (F₀ := by k_asm) (by with_unfolding_all rfl) (by decide) (by rfl) (by decide) (by rfl) (by rfl) (by decide) (by decide) ?_)))
  (k_with "SrcPairs" => (k_here; k_dflt (refine' SrcPairs.intro (by exact rfl) (by k_asm) (by k_asm) (by kl_some) (by exact Nat.le_of_ble_eq_true rfl) (by repeat' (first | exact Pairs.nil | (refine' Pairs.cons (by kl_some) ?_))) ?_; k_whole); intro D' h' tk' F' N' o1'; (try k_sweep)))
  (k_with "compareOp NotEq ref ref" => (k_here; (with_reducible show wpAny _ _ (compareOp CmpOp.NotEq (Value.ref _) (Value.ref _)) _ _ _); k_dflt (refine' led_ne (by k_asm) (by kl_some) (by with_reducible assumption) (by kt_l_size) (by kl_some) (by with_reducible assumption) (by kt_l_size) (by first | exact kOk_stA (by with_reducible assumption) | exact kOk_termA (by with_reducible assumption)) (by ke_room) ?_; k_whole)))
  trivial
set_option maxRecDepth 100000 in
set_option maxHeartbeats 4000000 in
theorem turn_ctr {prog : Program} {w : World} {mean : ExcName → Option Value} {mg mb : Str → Option Value} {fa sc rowsA r0 : Addr} {ccd : Value} {h₀ : Heap} {L I : Addr} {m : Str → Option Value} {vs : List Value} {ns : List Int} {k : Int} {tk tm : Tok} {it oc : Obj} {x : Option Value} {n : Nat} {s : Shared} {rest : (Str → Option Value) → List (Addr × Obj) → Prop} {Q : Flow → Shared → Prop} {E : Value → Shared → Prop}
    (hi : IntsAre vs ns) (hlay : PyData.layable0 (.list (ns.map .int)) = true) (hk : k = 0 ∨ k = 1) (hl : h₀.IsList sc vs.toArray) (K0 : Below callerA h₀ [] h₀) (X : (hd.heap_1 w.params).In h₀) (T : Top hd.view_39 (looseW hd.view_39 []) mean mg mb h₀)
    (lm : LawM m sc rowsA tm) (F : Fr h₀ L s.heap (fun y => if y = Str.ofString "k" then some (.int k tk) else m y)) (N : News h₀ L s.heap [(I, it), (L + 1, oc), (rowsA, listOf #[.ref r0, .ref r0, .ref r0, .ref r0, .ref r0] n)])
    (hoc : oc.data = .cell x) (hI1 : @Ne Nat (L + 1) I) (hI2 : @Ne Nat rowsA I) (hI3 : @Ne Nat rowsA (L + 1))
    (hE : PassesOwn (model prog w) (callerA.deeper (envOfC (Str.ofString "law") lawScope L fa ccd)) (envOfC (Str.ofString "law") lawScope L fa ccd) E)
    (hrest : ∀ m' oc' x', LawM m' sc rowsA tm → oc'.data = .cell x' → rest m' [(L + 1, oc'), (rowsA, listOf #[.ref r0, .ref r0, .ref r0, .ref r0, .ref r0] n)]) :
    wpAny (model prog w) (callerA.deeper (envOfC (Str.ofString "law") lawScope L fa ccd)) (execs lawTurn (envOfC (Str.ofString "law") lawScope L fa ccd)) (UnrPost h₀ L s I it rest Q) E s := by
  have hb : lawTurn = lawTurn := rfl
  conv at hb => rhs; whnf
  have hs : lawScope = lawScope := rfl
  conv at hs => rhs; whnf
  rw [hs] at hE
  rw [hb, hs]
  clear hb hs
  obtain ⟨hp, sg, sd, st, so⟩ := s
  replace F : Fr h₀ L hp _ := F
  replace N : News h₀ L hp _ := N
  repeat' ((fail_if_success (with_reducible show UnrPost _ _ _ _ _ _ _ _ _)); first | (k_unfold; (try dsimp only)) | (k_end; wrow_close) | walk1 | (dsimp only; walk1) | (leave1; walk_say "STEP leave1"; try dsimp only) | fail "no step")
  dsimp only [UnrPost]
  refine' turn_fin ?kF ?kN ?kI ?kc ?kr hI1 hI2 (hrest _ _ _ ?km ?ko)
  case kF => k_asm
  case kN => k_asm
  case kI => kl_some
  case kc => kl_some
  case kr => kl_some
  case km => rename LawM _ _ _ _ => lm9; exact ⟨lm9.script, lm9.many, lm9.rows⟩
  case ko => first | with_reducible assumption | exact rfl
end
section
section
variable {prog : Program} {w : World} {mean : ExcName → Option Value} {mg mb : Str → Option Value} {fa sc rowsA r0 : Addr} {ccd : Value} {h₀ : Heap} {L I : Addr} {vs : List Value} {ns : List Int} {tm : Tok} {nr nn : Nat} {s : Shared} {Q : Flow → Shared → Prop} {E : Value → Shared → Prop}
/-- the turns that are left, from the short ledger -/
theorem law_rest (hi : IntsAre vs ns) (hlay : PyData.layable0 (.list (ns.map .int)) = true) (hl : h₀.IsList sc vs.toArray) (K0 : Below callerA h₀ [] h₀) (X : (hd.heap_1 w.params).In h₀) (T : Top hd.view_39 (looseW hd.view_39 []) mean mg mb h₀)
    (hI1 : @Ne Nat (L + 1) I) (hI2 : @Ne Nat rowsA I) (hI3 : @Ne Nat rowsA (L + 1))
    (hE : PassesOwn (model prog w) (callerA.deeper (envOfC (Str.ofString "law") lawScope L fa ccd)) (envOfC (Str.ofString "law") lawScope L fa ccd) E)
    (fin : ∀ m' h' tk' led, LawM m' sc rowsA tm → Fr h₀ L h' m' → News h₀ L h' led → Q .next { s with heap := h', toks := tk' }) :
    ∀ (j i : Nat) (m : Str → Option Value) (oc : Obj) (x : Option Value), i + j ≤ 2 → LawM m sc rowsA tm → oc.data = .cell x →
      RangeRest prog w (callerA.deeper (envOfC (Str.ofString "law") lawScope L fa ccd)) E h₀ (envOfC (Str.ofString "law") lawScope L fa ccd) (Str.ofString "k") lawTurn Q s I 0 nn j i m [(L + 1, oc), (rowsA, listOf #[.ref r0, .ref r0, .ref r0, .ref r0, .ref r0] nr)]
  | 0, _, m, _, _, _, lm, _ => fun h' tk' F N => fin m h' tk' _ lm F N
  | j + 1, i, m, oc, x, hj, lm, hoc => fun t h' tk' F N =>
    turn_ctr (k := 0 + (i : Int)) (s := { s with heap := h', toks := tk' }) hi hlay (by omega) hl K0 X T lm F N hoc hI1 hI2 hI3 hE
      fun m' oc' x' lm' hoc' => law_rest hi hlay hl K0 X T hI1 hI2 hI3 hE fin j (i + 1) m' oc' x' (by omega) lm' hoc'
/-- the whole loop, from any ledger that holds the law's cell and the rows -/
theorem law_rr {news : List (Addr × Obj)} {m : Str → Option Value} {oc : Obj} {x : Option Value} {n : Nat} (hi : IntsAre vs ns) (hlay : PyData.layable0 (.list (ns.map .int)) = true) (hl : h₀.IsList sc vs.toArray) (K0 : Below callerA h₀ [] h₀) (X : (hd.heap_1 w.params).In h₀) (T : Top hd.view_39 (looseW hd.view_39 []) mean mg mb h₀)
    (lt : AllLt I news) (hc : (L + 1, oc) ∈ news) (hr : (rowsA, listOf #[.ref r0, .ref r0, .ref r0, .ref r0, .ref r0] nr) ∈ news) (hoc : oc.data = .cell x) (lm : LawM m sc rowsA tm) (hn : n = 1 ∨ n = 2)
    (hE : PassesOwn (model prog w) (callerA.deeper (envOfC (Str.ofString "law") lawScope L fa ccd)) (envOfC (Str.ofString "law") lawScope L fa ccd) E)
    (fin : ∀ m' h' tk' led, LawM m' sc rowsA tm → Fr h₀ L h' m' → News h₀ L h' led → Q .next { s with heap := h', toks := tk' }) :
    RangeRest prog w (callerA.deeper (envOfC (Str.ofString "law") lawScope L fa ccd)) E h₀ (envOfC (Str.ofString "law") lawScope L fa ccd) (Str.ofString "k") lawTurn Q s I 0 n n 0 m news := by
  have hI1 : @Ne Nat (L + 1) I := Nat.ne_of_lt (allLt_mem lt _ hc)
  have hI2 : @Ne Nat rowsA I := Nat.ne_of_lt (allLt_mem lt _ hr)
  have key : ∀ j, j + 1 = n → RangeRest prog w (callerA.deeper (envOfC (Str.ofString "law") lawScope L fa ccd)) E h₀ (envOfC (Str.ofString "law") lawScope L fa ccd) (Str.ofString "k") lawTurn Q s I 0 n (j + 1) 0 m news := fun j hj t h' tk' F N => by
    have hI3 : @Ne Nat rowsA (L + 1) := by
      intro e
      have h1 := (N _ (List.mem_cons_of_mem _ hr)).1
      have h2 := (N _ (List.mem_cons_of_mem _ hc)).1
      rw [e] at h1
      have h3 : oc = listOf #[.ref r0, .ref r0, .ref r0, .ref r0, .ref r0] nr := Option.some.inj (h2.symm.trans h1)
      rw [h3] at hoc
      cases hoc
    refine turn_ctr (k := 0 + ((0 : Nat) : Int)) (r0 := r0) (n := nr) (s := { s with heap := h', toks := tk' }) hi hlay (by omega) hl K0 X T lm F (fun (p : Addr × Obj) hp => N p ?_) hoc hI1 hI2 hI3 hE
      fun m' oc' x' lm' hoc' => law_rest hi hlay hl K0 X T hI1 hI2 hI3 hE fin j (0 + 1) m' oc' x' (by omega) lm' hoc'
    rcases List.mem_cons.mp hp with h | hp
    · rw [h]; exact List.mem_cons_self
    rcases List.mem_cons.mp hp with h | hp
    · rw [h]; exact List.mem_cons_of_mem _ hc
    rcases List.mem_cons.mp hp with h | hp
    · rw [h]; exact List.mem_cons_of_mem _ hr
    · exact nomatch hp
  rcases hn with h | h
  · have := key 0 h.symm; rw [h] at this ⊢; exact this
  · have := key 1 h.symm; rw [h] at this ⊢; exact this
/-- the law's loop over its one or two turns -/
theorem law_iter {r : Addr} {b₀ : Int} {t₀ u₀ v₀ : Tok} {news : List (Addr × Obj)} {m : Str → Option Value} {oc : Obj} {x : Option Value} (hrg : IsRange s.heap r 0 b₀ 1 t₀ u₀ v₀) (hb : b₀ = 1 ∨ b₀ = 2) (F : Fr h₀ L s.heap m) (N : News h₀ L s.heap news) (lm : LawM m sc rowsA tm)
    (hi : IntsAre vs ns) (hlay : PyData.layable0 (.list (ns.map .int)) = true) (hl : h₀.IsList sc vs.toArray) (K0 : Below callerA h₀ [] h₀) (X : (hd.heap_1 w.params).In h₀) (T : Top hd.view_39 (looseW hd.view_39 []) mean mg mb h₀)
    (hc : (L + 1, oc) ∈ news) (hr : (rowsA, listOf #[.ref r0, .ref r0, .ref r0, .ref r0, .ref r0] nr) ∈ news) (hoc : oc.data = .cell x)
    (hE : PassesOwn (model prog w) (callerA.deeper (envOfC (Str.ofString "law") lawScope L fa ccd)) (envOfC (Str.ofString "law") lawScope L fa ccd) E)
    (fin : ∀ m' h' tk' led, LawM m' sc rowsA tm → Fr h₀ L h' m' → News h₀ L h' led → Q .next { s with heap := h', toks := tk' }) :
    wpAny (model prog w) (callerA.deeper (envOfC (Str.ofString "law") lawScope L fa ccd)) (pyIter (.ref r)) (fun it s₂ => LoopAtV prog w (callerA.deeper (envOfC (Str.ofString "law") lawScope L fa ccd)) h₀ (envOfC (Str.ofString "law") lawScope L fa ccd) (Str.ofString "k") lawTurn Q E it s₂) E s := by
  rcases hb with h | h <;> subst h
  · exact iter_rangeUnr (n := 1) rfl hrg rfl rfl F N fun I hI => law_rr hi hlay hl K0 X T (allLt_of hI) hc hr hoc lm (.inl rfl) hE fin
  · exact iter_rangeUnr (n := 2) rfl hrg rfl rfl F N fun I hI => law_rr hi hlay hl K0 X T (allLt_of hI) hc hr hoc lm (.inr rfl) hE fin
theorem b_one_two (z : Int) : (if (if z < 2 then z else 2) > 1 then if z < 2 then z else 2 else 1) = 1 ∨ (if (if z < 2 then z else 2) > 1 then if z < 2 then z else 2 else 1) = 2 := by
  (repeat' split) <;> omega
end
end
section
theorem lines_L1 : True := by
  k_with_none
  (k_with "FinE" => ((unfold LCg.FinE); intro D' h' tk' F' N' o1'; (replace o1' := off1_off o1'); (try simp only [List.nil_append, List.cons_append] at N'); (try dsimp only)))
  (k_with "UnrEnd" => (k_dflt (refine' unr_end (by k_asm) (by k_asm) (by kl_room) (by ki_room) ?_; k_whole)))
  (k_with "subscriptTail Name Constant ref int" => (k_here; (with_reducible show wpAny _ _ (subscriptTail _ _ (Value.ref _) (Value.int _ _)) _ _ _); k_dflt (first
  | (refine' led_item (by k_asm) (by kl_some) (by decide) (by decide) (by rfl) ?_ (by with_unfolding_all rfl); k_whole)
  | (refine' led_itemT (by k_asm) (by kl_some) (by decide) (by decide) (by rfl) ?_ (by with_unfolding_all rfl); k_whole))))
  (k_with "ite" => (k_closed; first | (refine ite_no (by with_unfolding_all rfl) ?_) | (refine ite_yes (by with_unfolding_all rfl) ?_)))
  (k_with "newList" => (k_here; k_dflt (refine' led_newListX (by k_asm) (by k_asm) (by exact Nat.le_of_ble_eq_true rfl) ?_; k_whole); intro l' h' F' N' l1; (try k_sweep)))
  (k_with "newTuple" => (k_here; k_dflt (refine' led_newTupleX (by k_asm) (by k_asm) (by exact Nat.le_of_ble_eq_true rfl) ?_; k_whole); intro l' h' F' N' l1; (try k_sweep)))
  (k_with "FinE" => ((unfold LCg.FinE); intro D' h' tk' F' N' o1'; (replace o1' := off1_off o1'); (try simp only [List.nil_append, List.cons_append] at N'); (try dsimp only)))
  (k_with "eval Constant str" => (k_here; k_dflt (refine' ev_str ?_; k_whole); intro t9' k9'))
  (k_with "eval Constant int" => (k_here; k_dflt (refine' ev_int ?_; k_whole); intro t9' k9'))
  (k_with "eval Tuple" => (k_here; k_dflt (first | ((with_reducible show wpAny _ _ (eval (Expr.Tuple [Expr.Constant (Const.str _) _ _] _ _) _) _ _ _); with_reducible refine' ev_t_s (by k_asm) (by k_asm) ?_; k_whole; intro t0' l' h' tk' F' N' l1; (try k_sweep)) | ((with_reducible show wpAny _ _ (eval (Expr.Tuple [Expr.Constant (Const.str _) _ _, Expr.Constant (Const.str _) _ _] _ _) _) _ _ _); with_reducible refine' ev_t_ss (by k_asm) (by k_asm) ?_; k_whole; intro t0' t1' l' h' tk' F' N' l1; (try k_sweep)) | ((with_reducible show wpAny _ _ (eval (Expr.Tuple [Expr.Constant (Const.str _) _ _, Expr.Constant (Const.int _) _ _] _ _) _) _ _ _); with_reducible refine' ev_t_si (by k_asm) (by k_asm) ?_; k_whole; intro t0' t1' l' h' tk' F' N' l1; (try k_sweep)))))
  (k_with "eval List" => (k_here; k_dflt (first | ((with_reducible show wpAny _ _ (eval (Expr.List [Expr.Constant (Const.str _) _ _, Expr.Constant (Const.str _) _ _] _) _) _ _ _); with_reducible refine' ev_l_ss (by k_asm) (by k_asm) ?_; k_whole; intro t0' t1' l' h' tk' F' N' l1; (try k_sweep)) | ((with_reducible show wpAny _ _ (eval (Expr.List [Expr.Constant (Const.str _) _ _, Expr.Constant (Const.str _) _ _, Expr.Constant (Const.str _) _ _] _) _) _ _ _); with_reducible refine' ev_l_sss (by k_asm) (by k_asm) ?_; k_whole; intro t0' t1' t2' l' h' tk' F' N' l1; (try k_sweep)))))
  (k_with "subscriptTail Name Name ref int" => (k_here; (with_reducible show wpAny _ _ (subscriptTail _ _ (Value.ref _) (Value.int _ _)) _ _ _); k_dflt (refine' led_item (by k_asm) (by kl_some) (by decide) (by decide) (by rfl) ?_ (by with_unfolding_all rfl); k_whole)))
  (k_with "subscriptTail Attribute Name ref int" => (k_here; (with_reducible show wpAny _ _ (subscriptTail _ _ (Value.ref _) (Value.int _ _)) _ _ _); k_dflt (refine' led_item (by k_asm) (by kl_some) (by decide) (by decide) (by rfl) ?_ (by with_unfolding_all rfl); k_whole)))
  (k_with "call builtin:len" => (k_here; (with_reducible show wpAny _ _ (call (Value.builtin _) [Value.ref _]) _ _ _); k_dflt (refine' led_lenE (by k_asm) (by kl_some) (by exact Nat.le_of_ble_eq_true rfl) (by ((simp only [List.length_cons, List.length_nil, Nat.zero_add, Nat.reduceAdd]); exact rfl)) ?_; k_whole); intro t' k'))
  (k_with "assign Tuple" => (k_here; (with_reducible show wpAny _ _ (assign (Expr.Tuple _ _ _) _ (Value.ref _)) _ _ _); k_dflt (first
  | (refine' unpackN_ (by k_asm) (by k_asm) (by with_reducible assumption) (by exact rfl) (by exact rfl) (by exact rfl) ?_; k_whole)
  | (refine' unpack_tup (by k_asm) (by k_asm) (by exact rfl) (by kl_some) (by exact rfl) (by exact rfl) ?_; k_whole)
  | (refine' unpack_list (by k_asm) (by k_asm) (by exact rfl) (by kl_some) (by exact rfl) (by exact rfl) ?_; k_whole)); intro h' F' N'; (try k_sweep)))
  (k_with "eval Name" => (k_here; (with_reducible show wpAny _ _ (eval (Expr.Name _ _) (envOf _ _ _ _ _)) _ _ _); k_dflt (refine' ld (by k_asm) (by exact rfl) ?_; k_whole)))
  (k_with "call ref" => (k_here; (with_reducible show wpAny _ _ (call (Value.ref 66) _ _) _ _ _); k_dflt (
    refine' Ctr.useA (by k_asm) (by k_asm) (by k_asm) (by k_asm) (by k_asm) (by first | exact rfl | with_reducible assumption) (by ktr_room) (by ktr_units) (ofret_ctr (by kl_some)) ?_;
    intro r9 n9 h9 tk9 F9 N9 ho9;
    obtain ⟨tl9, _, ha9, sub9, hs9, q9, vs9, m9, e9, hm9, hv9, hz9⟩ := ho9; subst e9; have rw9 := rows4_of hv9 (up_app hs9); cases rw9; (try k_sweep))))
  (k_with "CompSrc" => (k_here; k_dflt (first
  | (refine LCg.CompSrc.ledger (by rfl) (by k_asm) (by k_asm) (by kl_some) (Nat.le_trans (m := 1000) (Nat.le_of_ble_eq_true rfl) line1000) ?_; intro g'; lcg_lit)
  | (refine LCg.CompSrc.range (by rfl) (by k_asm) (by k_asm) (by with_reducible assumption) (by first | decide | rfl) (by first | rfl | decide) (Nat.le_trans (m := 1000) (Nat.le_of_ble_eq_true rfl) line1000) ?_; intro g'; lcg_lit))))
  (k_with "FinA" => ((unfold LCg.FinA); intro D' h' tk' F' N' o1'; (replace o1' := off1_off o1'); (try simp only [List.nil_append, List.cons_append] at N'); (try dsimp only)))
  (k_with "SrcTup" => (k_here; k_dflt (refine' SrcTup.intro (by exact rfl) (by k_asm) (by k_asm) (by kl_some) (by exact Nat.le_of_ble_eq_true rfl) ?_; k_whole); intro g'))
  (k_with "CompRestT" => (with_unfolding_all first
  | (refine compT_int ?_; intro t9' I' oI' C' oC' D' m' h' tk' E' hC' hx' F' N' off' ne1' ne2' ne3'; (try dsimp only [List.nil_append, List.cons_append] at N'))
  | (refine LCt.CompRestT.succ ?_; intro v' I' oI' C' oC' D' m' h' tk' E' hv' hC' hx' F' N' off' ne'; (first | lcg_open hv' | (obtain ⟨t9', hv9'⟩ := hv'; subst hv9')); ((have ne1' := And.left ne'); (have ne2' := And.left (And.right ne')); (have ne3' := And.right (And.right ne'))))
  | refine LCt.CompRestT.zero ?_))
  (k_with "CompRest" => (with_unfolding_all first
  | (refine comp_int ?_; intro t9' I' oI' C' oC' D' m' h' tk' E' hC' hx' F' N' off' ne1' ne2' ne3'; (try dsimp only [List.nil_append, List.cons_append] at N'))
  | (refine LCg.CompRest.succ ?_; intro v' I' oI' C' oC' D' m' h' tk' E' hv' hC' hx' F' N' off' ne'; (first | lcg_open hv' | (obtain ⟨t9', hv9'⟩ := hv'; subst hv9')); ((have ne1' := And.left ne'); (have ne2' := And.left (And.right ne')); (have ne3' := And.right (And.right ne'))))
  | refine LCg.CompRest.zero ?_))
  (k_with "CompEnd" => (k_dflt (refine' comp_end (by k_asm) (by k_asm) (by kl_room) (by kl_room) (by kl_room) (by ki_room) (by ki_room) (by ki_room) (by first | exact True.intro | exact Or.inr ⟨_, by kl_some, rfl, _, rfl⟩ | kl_some) ?_; k_whole)))
  (k_with "eval ListComp" => (k_here; lcg_look; k_dflt (refine LCg.ListComp_U (F₀ := by k_asm) (by with_unfolding_all rfl) (by decide) (by rfl) (by decide) (by rfl) ?_)))
  trivial
 local macro_rules | `(tactic| k_qdec) => `(tactic| decide +kernel)
set_option maxRecDepth 100000 in
set_option maxHeartbeats 4000000 in
theorem t : PySem.Challenge.rw_ot0005_01.Holds := by
  refine hd ?_
  w_strict (
   k_go0; (all_goals try k_fold)
   repeat' ((fail_if_success (with_reducible show wpAny _ _ (pyIter (Value.ref _)) _ _ _)); first | (k_unfold; (try dsimp only)) | (k_end; wrow_close) | walk1 | (dsimp only; walk1) | (leave1; walk_say "STEP leave1"; try dsimp only) | fail "no step")
   refine' law_iter ?kr ?kb ?kF ?kN ?kl ?ki ?ky ?kh ?k0 ?kX ?kT ?kc ?kw ?ko ?kE ?kf
   case kr => with_reducible assumption
   case kb => first | exact b_one_two _ | ((repeat' split) <;> omega)
   case kF => k_asm
   case kN => k_asm
   case kl => exact ⟨rfl, rfl, rfl⟩
   case ki => with_reducible assumption
   case ky => with_reducible assumption
   case kh => assumption
   case k0 => assumption
   case kX => assumption
   case kT => assumption
   case kc => (repeat' (first | exact List.mem_cons_self | refine List.mem_cons_of_mem _ ?_ | refine List.mem_append.mpr (Or.inr ?_)))
   case kw => (repeat' (first | exact List.mem_cons_self | refine List.mem_cons_of_mem _ ?_ | refine List.mem_append.mpr (Or.inr ?_)))
   case ko => first | exact rfl | assumption
   case kE => passes_own
   case kf =>
    intro m' h' tk' led lm' F' N'
    k_steps)
end
end Mine
theorem PySem.Challenge.cw_ot0005_01_holds : PySem.Challenge.rw_ot0005_01.Holds :=
  Mine.t
