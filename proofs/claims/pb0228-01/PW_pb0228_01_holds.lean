import PyProof.Rows.All
import Wide.All
import OpenK.AllK
import Wide.FinOn
import Lean
import PySem.Challenge.RW_pb0228_01
set_option Elab.async false
set_option genInjectivity false
set_option genSizeOf false
set_option maxRecDepth 100000
set_option maxHeartbeats 8000000
set_option linter.unusedVariables false
set_option linter.unusedSimpArgs false
section
open PySem PySem.W PyProof.Rows
namespace PB
open_top pbhd for PySem.Challenge.rw_pb0228_01
end PB
end
section
open PySem PySem.W PyProof.Rows
namespace PB
abbrev P0 : Program := PySem.Challenge.rw_pb0228_01.row.prog
def lawStmt : Stmt := PySem.Challenge.pw_pb0228_01.main.body.getLast?.getD (.Pass default)
def lawBody : List Stmt := match lawStmt with | .FunctionDef _ _ b .. => b | _ => []
def lawScope : Scope := match lawStmt with | .FunctionDef (scope := s) .. => s | _ => default
def forStmt : Stmt := (lawBody[5]?).getD (.Pass default)
def turnBody : List Stmt := match forStmt with | .For (body := b) .. => b | _ => []
def lawEnv (L fa cdv : Addr) : Env := envOf (Str.ofString "law") lawScope L fa (Value.ref cdv)
def lawA (L fa cdv : Addr) : Around := callerA.deeper (lawEnv L fa cdv)

theorem upd_head {d : Addr} {o o' : Obj} {r : List (Addr × Obj)} (h : ∀ p ∈ r, p.1 ≠ d) : Upd d o o' ((d, o) :: r) ((d, o') :: r) := .head h

section
variable {prog : Program} {w : World} {A : Around} {E : Value → Shared → Prop} {s : Shared} {h₀ : Heap} {L D : Addr} {m : Str → Option Value} {news news' : List (Addr × Obj)}
/-- store into the second place of a list of two -/
theorem set_two {x y v : Value} {n : Nat} {t : Tok} {Q : Unit → Shared → Prop} (F : Fr h₀ L s.heap m) (N : News h₀ L s.heap news) (U : Upd D (listOf #[x, y] n) (listOf #[x, v] n) news news')
    (h : ∀ h', Fr h₀ L h' m → News h₀ L h' news' → Q () { s with heap := h' }) :
    wpAny (model prog w) A (setItem (.ref D) (.int 1 t) v) Q E s := by
  obtain ⟨pre, post, rfl, rfl, a, b⟩ := U.split
  have z := N (D, listOf #[x, y] n) (List.mem_append.mpr (.inr (.head _)))
  refine ki_setAt z.1 (by decide) (by decide) (show (1 : Int) < ((2 : Nat) : Int) by decide) (h _ (F.change (Heap.SameBut.update ..) z.2.1 z.2.2) (ki_turn _ N a b ?_ ?_))
  · rfl
  · rfl
end
local macro_rules | `(tactic| walk_at "setItem ref int") => `(tactic| (k_here; (with_reducible show wpAny _ _ (setItem (Value.ref _) (Value.int 1 _) _) _ _ _); k_dflt (refine' set_two ?k1 ?k2 ?k3 ?_; (case k1 => k_asm); (case k2 => k_asm); (case k3 => k_upd); k_whole); intro h' F' N'; (try k_sweep)))
local macro_rules | `(tactic| k_all) => `(tactic| with_reducible assumption)


theorem draw_call {w : World} {s₀ s : Shared} {mg mb : Str → Option Value} {x : Addr} {ob : Obj} {h₀ : Heap} {L fa cdv tp cs : Addr} {m : Str → Option Value} {R : List (Addr × Obj)} {ws : List Value} {ns : List Int} {at' many : Int} {ta tm : Tok} {n c : Nat}
    {E : Value → Shared → Prop} {Q : Value → Shared → Prop}
    (X : (pbhd.heap_39 w.params).In h₀) (T : Top pbhd.view_39 (looseW pbhd.view_39 [Str.ofString "LedgerError"]) (ExcName.means s₀.heap) mg mb h₀) (M : BMod h₀ mainGlobals mg x ob)
    (B : Below callerA h₀ [] h₀)
    (F : Fr h₀ L s.heap m) (N : News h₀ L s.heap ((tp, listOf #[.ref cs, .int at' ta] n) :: (cs, listOf ws.toArray c) :: R)) (hR : ∀ p ∈ R, p.1 ≠ tp) (hne : @Ne Nat cs tp)
    (hi : IntsAre ws ns) (h0 : 0 < ns.length) (hlen : ns.length ≤ 63) (ha : 0 ≤ at') (hb : at' ≤ 400) (hm : 0 < many) (hm2 : many ≤ 1000)
    (h : ∀ h' tk t t' v, Fr h₀ L h' m → News h₀ L h' ((tp, listOf #[.ref cs, .int (at' + 1) t'] n) :: (cs, listOf ws.toArray c) :: R) → 0 ≤ v → v < many → Q (.int v t) { s with heap := h', toks := tk }) :
    wpAny (model P0 w) (lawA L fa cdv) (call (.ref 195) [.ref tp, .int many tm] []) Q E s := by
  w_top off
  have hfill : (PySem.Challenge.rw_pb0228_01, pbhd.heap_39) = (PySem.Challenge.rw_pb0228_01, pbhd.heap_39) := by k_fill; rfl
  clear hfill
  unfold lawA
  refine wpAny_call ?_
  k_enter
  k_steps
  rename Fr _ _ _ _ => kF
  rename News _ _ _ _ => kN
  exact h _ _ _ _ _ kF kN (Int.fmod_nonneg_of_pos _ hm) (Int.fmod_lt_of_pos _ hm)

theorem draw_callU {w : World} {s₀ s : Shared} {mg mb : Str → Option Value} {x : Addr} {ob : Obj} {h₀ : Heap} {L fa cdv tp cs : Addr} {m : Str → Option Value} {news : List (Addr × Obj)} {g : Obj → List (Addr × Obj)} {ws : List Value} {ns : List Int} {at' many : Int} {ta tm : Tok} {n c : Nat}
    {E : Value → Shared → Prop} {Q : Value → Shared → Prop}
    (X : (pbhd.heap_39 w.params).In h₀) (T : Top pbhd.view_39 (looseW pbhd.view_39 [Str.ofString "LedgerError"]) (ExcName.means s₀.heap) mg mb h₀) (M : BMod h₀ mainGlobals mg x ob)
    (B : Below callerA h₀ [] h₀)
    (F : Fr h₀ L s.heap m) (N : News h₀ L s.heap news) (U : UpdF tp (listOf #[.ref cs, .int at' ta] n) news g) (hc : (cs, listOf ws.toArray c) ∈ news) (hne : @Ne Nat cs tp)
    (hi : IntsAre ws ns) (h0 : 0 < ns.length) (hlen : ns.length ≤ 63) (ha : 0 ≤ at') (hb : at' ≤ 400) (hm : 0 < many) (hm2 : many ≤ 1000)
    (h : ∀ h' tk t t' v, Fr h₀ L h' m → News h₀ L h' (g (listOf #[.ref cs, .int (at' + 1) t'] n)) → 0 ≤ v → v < many → Q (.int v t) { s with heap := h', toks := tk }) :
    wpAny (model P0 w) (lawA L fa cdv) (call (.ref 195) [.ref tp, .int many tm] []) Q E s := by
  obtain ⟨pre, post, rfl, hg, a, b⟩ := U.split
  refine draw_call (R := pre ++ post) (c := c) (n := n) (ta := ta) X T M B F (fun p hp => ?_) (fun p hp => ?_) hne hi h0 hlen ha hb hm hm2 fun h' tk t t' v F' N' v0 v1 => h h' tk t t' v F' (fun p hp => ?_) v0 v1
  · rcases List.mem_cons.mp hp with rfl | hp
    · exact N _ (by simp)
    rcases List.mem_cons.mp hp with rfl | hp
    · exact N _ hc
    · exact N _ (by simp only [List.mem_append, List.mem_cons] at hp ⊢; rcases hp with h | h; exact .inl h; exact .inr (.inr h))
  · rcases List.mem_append.mp hp with h | h
    · exact a _ h
    · exact b _ h
  · rw [hg] at hp
    refine N' p ?_
    simp only [List.mem_append, List.mem_cons] at hp ⊢
    rcases hp with h | h | h
    · exact .inr (.inr (.inl h))
    · exact .inl h
    · exact .inr (.inr (.inr h))
end PB
end
section
open PySem PySem.W PyProof.Rows PySem.Calls PySem.Spec PyProof.V
namespace PB
section
variable {prog : Program} {w : World} {A : Around} {E : Value → Shared → Prop} {s : Shared} {h₀ : Heap} {L D a : Addr} {m : Str → Option Value} {news news' : List (Addr × Obj)} {n : Nat} {vs : List Value} {v : Value}
/-- the last item of a list of any length -/
theorem last_sub {value slice : PySem.Expr} {u : Tok} {Q : Value → Shared → Prop} (N : News h₀ L s.heap news) (hm : (a, listOf (vs ++ [v]).toArray n) ∈ news) (h : Q v s) (hlen : vs.length < 100)
    (hs : subscripted slice false (.ref a) (.int (-1) u) = operate [.ref a, .int (-1) u] (getItem (.ref a) (.int (-1) u)) := by with_unfolding_all rfl) (hg : ∀ r, letTemporaryGo value (.ref a) r = pure () := by intro _; with_unfolding_all rfl) :
    wpAny (model prog w) A (subscriptTail value slice (.ref a) (.int (-1) u)) Q E s :=
  kim_back (l := vs ++ [v]) N hm rfl rfl (by decide) (by simp; omega) (by decide) (by
    have e : ((-1 : Int) + ((vs ++ [v]).length : Int)).toNat = vs.length := by simp; omega
    rw [e]; simp) h hs hg
theorem pop_last {Q : Value → Shared → Prop} (F : Fr h₀ L s.heap m) (N : News h₀ L s.heap news) (U : Upd D (listOf (vs ++ [v]).toArray n) (listOf vs.toArray (n + 1)) news news') (hlen : vs.length < 100)
    (h : ∀ h', Fr h₀ L h' m → News h₀ L h' news' → Q v { s with heap := h' }) : wpAny (model prog w) A (call (.builtin "list.pop") [.ref D]) Q E s :=
  kl_pop F N (p := vs) (y := v) (by simpa using kpa_last v vs) U (by rw [sizeLine_eq]; simp; omega) h
theorem append_last {x : Value} {Q : Value → Shared → Prop} (F : Fr h₀ L s.heap m) (N : News h₀ L s.heap news) (U : Upd D (listOf vs.toArray n) (listOf (vs ++ [x]).toArray (n + 1)) news news') (hlen : vs.length < 100)
    (h : ∀ h', Fr h₀ L h' m → News h₀ L h' news' → Q .none { s with heap := h' }) : wpAny (model prog w) A (call (.builtin "list.append") [.ref D, x]) Q E s := by
  refine append_K (its := vs.toArray) F N (by simpa using U) h (by rw [sizeLine_eq]; simp; omega)
theorem len_any {its : Array Value} {c k : Nat} {Q : Value → Shared → Prop} (N : News h₀ L s.heap news) (hm : (D, listOf its c) ∈ news) (hs : its.size = k) (hf : k < 2 ^ 62) (h : Q (.int (k : Nat) (s.toks + 1)) { s with toks := s.toks + 1 + 1 }) :
    wpAny (model prog w) A (call (.builtin "len") [.ref D]) Q E s := KM.len_K N hm hs hf h
end
end PB
end
section
open PySem PySem.W PyProof.Rows PySem.Calls PySem.Spec PyProof.V
namespace PB
abbrev ent (w : World) (x : String) (t : Tok) (v : Value) : DictEntry := ⟨PyData.keyHash w.params (Str.ofString x), .str (Str.ofString x) t, v⟩
abbrev tupObj (vs : Array Value) : Obj := { cls := .type "tuple", data := .seq vs }

/-- one frame of the machine and the row of the law's pile beside it -/
structure Row where
  (fa fd sd : Addr) (so : Obj) (pt pd : Addr) (po : Obj) (last behind : Int) (t1 t2 t3 t4 t5 t6 t7 : Tok) (c : List (Int × Int))
def Row.objs (w : World) (r : Row) : List (Addr × Obj) :=
  [(r.fa, instObj 100 r.fd), (r.fd, dictOf [ent w "last" r.t1 (.int r.last r.t2), ent w "behind" r.t3 (.int r.behind r.t4), ent w "slots" r.t5 (.ref r.sd)] 3), (r.sd, r.so),
   (r.pt, tupObj #[.int r.last r.t6, .int r.behind r.t7, .ref r.pd]), (r.pd, r.po)]
/-- a dict of ints -/
def Slots (w : World) (o : Obj) (c : List (Int × Int)) : Prop := ∃ kv, o.IsDictOf (intKind P0 w) kv ∧ FlatPairs PyData.int kv (kdfD c)
structure Row.Ok (w : World) (r : Row) : Prop where
  so : Slots w r.so r.c
  po : Slots w r.po r.c
  sd : (r.sd == sysModules) = false
  pd : (r.pd == sysModules) = false
  nd : (r.c.map (·.1)).Nodup
  keys : ∀ k ∈ r.c.map (·.1), 0 ≤ k ∧ k < 4

/-- what stays through the loop -/
structure Cx where
  (tp cs bg op cd cdd mc mcd sk fl pl : Addr) (n1 c1 : Nat) (ws : List Value) (ns : List Int) (b1 b2 b3 b4 c2 c3 m1 m2 m3 m4 m5 m6 m7 v6 v7 : Tok)
/-- what turns -/
structure Sx where
  (draws : Int) (ta : Tok) (place : Int) (tpl : Tok) (ne nf np : Nat) (rows : List Row)
def Cx.fixed (w : World) (x : Cx) (y : Sx) : List (Addr × Obj) :=
  [(x.tp, listOf #[.ref x.cs, .int y.draws y.ta] x.n1), (x.cs, listOf x.ws.toArray x.c1), (x.bg, tupObj #[.int 0 x.b1, .int 5 x.b2, .int 9 x.b3, .int 14 x.b4]),
   (x.cd, instObj 184 x.cdd), (x.cdd, dictOf [ent w "ops" x.c2 (.ref x.op), ent w "begins" x.c3 (.ref x.bg)] 2), (x.mc, instObj 128 x.mcd),
   (x.mcd, dictOf [ent w "code" x.m1 (.ref x.cd), ent w "deeds" x.m2 .none, ent w "place" x.m3 (.int y.place y.tpl), ent w "stack" x.m4 (.ref x.sk), ent w "frames" x.m5 (.ref x.fl), ent w "key" x.m6 (.str (Str.ofString "") x.v6), ent w "word" x.m7 (.str (Str.ofString "") x.v7)] 7),
   (x.sk, listOf #[] y.ne), (x.fl, listOf (y.rows.map fun r => Value.ref r.fa).toArray y.nf), (x.pl, listOf (y.rows.map fun r => Value.ref r.pt).toArray y.np)]
def rowsL (w : World) (rows : List Row) : List (Addr × Obj) := rows.flatMap (Row.objs w)
def Cx.led (w : World) (x : Cx) (y : Sx) : List (Addr × Obj) := x.fixed w y ++ rowsL w y.rows
structure Cx.Ok (x : Cx) : Prop where
  o1 : @LT.lt Nat _ x.cs x.tp
  o2 : @LT.lt Nat _ x.tp x.bg
  o3 : @LT.lt Nat _ x.bg x.cdd
  o4 : @LT.lt Nat _ x.cdd x.cd
  o5 : @LT.lt Nat _ x.cd x.mcd
  o6 : @LT.lt Nat _ x.mcd x.mc
  o7 : @LT.lt Nat _ x.mc x.sk
  o8 : @LT.lt Nat _ x.sk x.fl
  o9 : @LT.lt Nat _ x.fl x.pl
  hws : IntsAre x.ws x.ns
  pos : 0 < x.ns.length
  len : x.ns.length ≤ 63
def Off (x : Cx) (a : Addr) : Prop := @LT.lt Nat _ x.sk a ∧ @Ne Nat a x.fl ∧ @Ne Nat a x.pl
structure Sx.Ok (w : World) (x : Cx) (own : List (Addr × Obj)) (y : Sx) : Prop where
  rows : ∀ r ∈ y.rows, r.Ok w
  nd : ((rowsL w y.rows).map (·.1)).Nodup
  off : ∀ p ∈ rowsL w y.rows, Off x p.1
  offO : ∀ p ∈ own, Off x p.1
  apart : ∀ p ∈ rowsL w y.rows, ∀ q ∈ own, p.1 ≠ q.1
  len : y.rows.length ≤ 21
  head : y.rows.head?.map (·.last) = some (-1)
  at0 : 0 ≤ y.draws

theorem Row.objs_fst (w : World) (r : Row) : (r.objs w).map (·.1) = [r.fa, r.fd, r.sd, r.pt, r.pd] := rfl
theorem rowsL_snoc (w : World) (i : List Row) (r : Row) : rowsL w (i ++ [r]) = rowsL w i ++ r.objs w := by simp [rowsL]

/-- the rows' end taken apart -/
theorem snoc_of {rows : List Row} (h : rows.head?.map (·.last) = some (-1)) : ∃ i t, rows = i ++ [t] := by
  cases rows with
  | nil => simp at h
  | cons a r => exact ⟨_, _, (List.dropLast_concat_getLast (l := a :: r) (by simp)).symm⟩

structure Apart5 (x : Cx) (t : Row) : Prop where
  p1 : @LT.lt Nat _ x.sk t.fa
  p2 : @LT.lt Nat _ x.sk t.fd
  p3 : @LT.lt Nat _ x.sk t.sd
  p4 : @LT.lt Nat _ x.sk t.pt
  p5 : @LT.lt Nat _ x.sk t.pd
  q1 : @Ne Nat t.fa x.fl
  q2 : @Ne Nat t.fd x.fl
  q3 : @Ne Nat t.sd x.fl
  q4 : @Ne Nat t.pt x.fl
  q5 : @Ne Nat t.pd x.fl
  r1 : @Ne Nat t.fa x.pl
  r2 : @Ne Nat t.fd x.pl
  r3 : @Ne Nat t.sd x.pl
  r4 : @Ne Nat t.pt x.pl
  r5 : @Ne Nat t.pd x.pl
  s1 : @Ne Nat t.fa t.sd
  s2 : @Ne Nat t.fd t.sd
  s4 : @Ne Nat t.pt t.sd
  s5 : @Ne Nat t.pd t.sd
  s6 : @Ne Nat t.fa t.pd
  s7 : @Ne Nat t.fd t.pd
  s8 : @Ne Nat t.pt t.pd
structure ApartR (x : Cx) (t : Row) (R : List (Addr × Obj)) : Prop where
  u1 : ∀ p ∈ R, p.1 ≠ x.tp
  u2 : ∀ p ∈ R, p.1 ≠ x.mcd
  u3 : ∀ p ∈ R, p.1 ≠ x.sk
  u4 : ∀ p ∈ R, p.1 ≠ x.fl
  u5 : ∀ p ∈ R, p.1 ≠ x.pl
  u6 : ∀ p ∈ R, p.1 ≠ t.sd
  u7 : ∀ p ∈ R, p.1 ≠ t.pd
theorem Sx.Ok.apart5 {w : World} {x : Cx} {own : List (Addr × Obj)} {y : Sx} {i : List Row} {t : Row} (h : y.Ok w x own) (e : y.rows = i ++ [t]) : Apart5 x t := by
  have hnd := h.nd
  rw [e, rowsL_snoc, List.map_append, Row.objs_fst] at hnd
  have hnd2 := (List.nodup_append.mp hnd).2.1
  simp only [List.nodup_cons, List.mem_cons, List.not_mem_nil, or_false, not_or] at hnd2
  have off : ∀ p ∈ t.objs w, Off x p.1 := fun p hp => h.off p (by rw [e, rowsL_snoc]; exact List.mem_append_right _ hp)
  have a1 := off (t.fa, _) (.head _)
  have a2 := off (t.fd, _) (.tail _ (.head _))
  have a3 := off (t.sd, _) (.tail _ (.tail _ (.head _)))
  have a4 := off (t.pt, _) (.tail _ (.tail _ (.tail _ (.head _))))
  have a5 := off (t.pd, _) (.tail _ (.tail _ (.tail _ (.tail _ (.head _)))))
  obtain ⟨⟨n12, n13, n14, n15⟩, ⟨n23, n24, n25⟩, ⟨n34, n35⟩, n45, _⟩ := hnd2
  exact ⟨a1.1, a2.1, a3.1, a4.1, a5.1, a1.2.1, a2.2.1, a3.2.1, a4.2.1, a5.2.1, a1.2.2, a2.2.2, a3.2.2, a4.2.2, a5.2.2, n13, n23, Ne.symm n34, Ne.symm n35, n15, n25, n45⟩
theorem Sx.Ok.apartR {w : World} {x : Cx} {own : List (Addr × Obj)} {y : Sx} {i : List Row} {t : Row} (hx : x.Ok) (h : y.Ok w x own) (e : y.rows = i ++ [t]) : ApartR x t (rowsL w i ++ own) := by
  have off : ∀ p ∈ rowsL w i ++ own, Off x p.1 := fun p hp => by
    rcases List.mem_append.mp hp with hp | hp
    · exact h.off p (by rw [e, rowsL_snoc]; exact List.mem_append_left _ hp)
    · exact h.offO p hp
  have hnd := h.nd
  rw [e, rowsL_snoc, List.map_append] at hnd
  have dis := (List.nodup_append.mp hnd).2.2
  have top : ∀ q ∈ t.objs w, ∀ p ∈ rowsL w i ++ own, p.1 ≠ q.1 := fun q hq p hp => by
    rcases List.mem_append.mp hp with hp | hp
    · exact dis _ (List.mem_map.mpr ⟨p, hp, rfl⟩) _ (List.mem_map.mpr ⟨q, hq, rfl⟩)
    · exact Ne.symm (h.apart q (by rw [e, rowsL_snoc]; exact List.mem_append_right _ hq) p hp)
  have o1 := hx.o1; have o2 := hx.o2; have o3 := hx.o3; have o4 := hx.o4; have o5 := hx.o5; have o6 := hx.o6; have o7 := hx.o7
  refine ⟨fun p hp => ?_, fun p hp => ?_, fun p hp => ?_, fun p hp => (off p hp).2.1, fun p hp => (off p hp).2.2, fun p hp => top _ (.tail _ (.tail _ (.head _))) p hp, fun p hp => top _ (.tail _ (.tail _ (.tail _ (.tail _ (.head _))))) p hp⟩
  all_goals
    have z := (off p hp).1
    intro e
    rw [e] at z
    omega
end PB
end
section
open PySem PySem.W PyProof.Rows PySem.Calls PySem.Spec PyProof.V
namespace PB
/-- the ledger with the last row written out -/
def Cx.openL (w : World) (x : Cx) (y : Sx) (fs ps : List Value) (t : Row) (R : List (Addr × Obj)) : List (Addr × Obj) :=
  (x.tp, listOf #[.ref x.cs, .int y.draws y.ta] x.n1) :: (x.cs, listOf x.ws.toArray x.c1) :: (x.bg, tupObj #[.int 0 x.b1, .int 5 x.b2, .int 9 x.b3, .int 14 x.b4]) ::
   (x.cd, instObj 184 x.cdd) :: (x.cdd, dictOf [ent w "ops" x.c2 (.ref x.op), ent w "begins" x.c3 (.ref x.bg)] 2) :: (x.mc, instObj 128 x.mcd) ::
   (x.mcd, dictOf [ent w "code" x.m1 (.ref x.cd), ent w "deeds" x.m2 .none, ent w "place" x.m3 (.int y.place y.tpl), ent w "stack" x.m4 (.ref x.sk), ent w "frames" x.m5 (.ref x.fl), ent w "key" x.m6 (.str (Str.ofString "") x.v6), ent w "word" x.m7 (.str (Str.ofString "") x.v7)] 7) ::
   (x.sk, listOf #[] y.ne) :: (x.fl, listOf (fs ++ [Value.ref t.fa]).toArray y.nf) :: (x.pl, listOf (ps ++ [Value.ref t.pt]).toArray y.np) ::
   (t.fa, instObj 100 t.fd) :: (t.fd, dictOf [ent w "last" t.t1 (.int t.last t.t2), ent w "behind" t.t3 (.int t.behind t.t4), ent w "slots" t.t5 (.ref t.sd)] 3) :: (t.sd, t.so) ::
   (t.pt, tupObj #[.int t.last t.t6, .int t.behind t.t7, .ref t.pd]) :: (t.pd, t.po) :: R
theorem open_led {w : World} {x : Cx} {y : Sx} {own : List (Addr × Obj)} {i : List Row} {t : Row} {h₀ h : Heap} {L : Addr} (e : y.rows = i ++ [t]) (N : News h₀ L h (x.led w y ++ own)) :
    News h₀ L h (x.openL w y (i.map fun r => Value.ref r.fa) (i.map fun r => Value.ref r.pt) t (rowsL w i ++ own)) := by
  refine kst_newsOf N ?_
  unfold Cx.led Cx.fixed Cx.openL
  rw [e, rowsL_snoc]
  simp only [List.map_append, List.map_cons, List.map_nil]
  iterate 10 (refine List.forall_mem_cons.mpr ⟨List.mem_append_left _ (List.mem_append_left _ (by k_mem)), ?_⟩)
  unfold Row.objs
  iterate 5 (refine List.forall_mem_cons.mpr ⟨List.mem_append_left _ (List.mem_append_right _ (List.mem_append_right _ (by k_mem))), ?_⟩)
  intro p hp
  rcases List.mem_append.mp hp with hp | hp
  · exact List.mem_append_left _ (List.mem_append_right _ (List.mem_append_left _ hp))
  · exact List.mem_append_right _ hp
/-- the law's names that the loop does not turn -/
structure Loc (x : Cx) (deep : Bool) (m : Str → Option Value) : Prop where
  n1 : m (Str.ofString "is_deep") = some (.bool deep)
  n2 : m (Str.ofString "pile") = some (.ref x.pl)
  n3 : m (Str.ofString "machine") = some (.ref x.mc)
  n4 : m (Str.ofString "begins") = some (.ref x.bg)
  n5 : m (Str.ofString "tape") = some (.ref x.tp)
theorem fr_names {m : Str → Option Value} {h₀ h : Heap} {L : Addr} {ps : List (Str × Value)} (e : ∀ p ∈ ps, m p.1 = some p.2) (F : Fr h₀ L h m) : Fr h₀ L h (kstB m ps) := by
  have e : kstB m ps = m := funext fun z => kstB_eq e fun _ => rfl
  rw [e]; exact F
theorem Loc.fr {x : Cx} {deep : Bool} {m : Str → Option Value} {h₀ h : Heap} {L : Addr} {ps : List (Str × Value)} (l : Loc x deep m) (F : Fr h₀ L h m) (e : ∀ p ∈ ps, m p.1 = some p.2) :
    Fr h₀ L h (kstB m (ps ++ [(Str.ofString "is_deep", .bool deep), (Str.ofString "pile", .ref x.pl), (Str.ofString "machine", .ref x.mc), (Str.ofString "begins", .ref x.bg), (Str.ofString "tape", .ref x.tp)])) := by
  refine fr_names (fun p hp => ?_) F
  rcases List.mem_append.mp hp with hp | hp
  · exact e p hp
  · simp only [List.mem_cons, List.not_mem_nil, or_false] at hp
    rcases hp with rfl | rfl | rfl | rfl | rfl
    · exact l.n1
    · exact l.n2
    · exact l.n3
    · exact l.n4
    · exact l.n5
theorem mem_three {m : Str → Option Value} {a b c : Str} {u v w : Value} (h1 : m a = some u) (h2 : m b = some v) (h3 : m c = some w) : ∀ p ∈ [(a, u), (b, v), (c, w)], m p.1 = some p.2 := by
  intro p hp
  simp only [List.mem_cons, List.not_mem_nil, or_false] at hp
  rcases hp with rfl | rfl | rfl <;> assumption
def ifTest (s : Stmt) : List Stmt := match s with | .If (body := b) .. => b | _ => []
def ifElse (s : Stmt) : List Stmt := match s with | .If (orelse := b) .. => b | _ => []
def s4 : Stmt := (turnBody[3]?).getD (.Pass default)
def perfBody : List Stmt := ifTest s4
def elif1 : Stmt := ((ifElse s4)[0]?).getD (.Pass default)
def leaveBody : List Stmt := ifTest elif1
def elif2 : Stmt := ((ifElse elif1)[0]?).getD (.Pass default)
def countBody : List Stmt := ifTest elif2
def lessBody : List Stmt := ifElse elif2
end PB
end
section
open PySem PySem.W PyProof.Rows PySem.Calls PySem.Spec PyProof.V
namespace PB
theorem has_of_look {c : List (Int × Int)} {k : Int} (h : 0 < kdfLook c k 0) : kdfHas c k = true := by
  cases e : kdfHas c k with
  | true => rfl
  | false =>
    rw [kdfLook_is, kpr_look_none (by rw [← kdfHas_is]; exact e)] at h
    exact absurd h (Int.lt_irrefl 0)
theorem put_nodup {c : List (Int × Int)} (h : (c.map (·.1)).Nodup) (k v : Int) : ((kdfPut c k v).map (·.1)).Nodup := kpr_nodup h k v
theorem put_keys {c : List (Int × Int)} (h : ∀ k ∈ c.map (·.1), 0 ≤ k ∧ k < 4) {k : Int} (k0 : 0 ≤ k) (k1 : k < 4) (v : Int) : ∀ j ∈ (kdfPut c k v).map (·.1), 0 ≤ j ∧ j < 4 := by
  intro j hj
  cases e : kdfHas c k with
  | true =>
    rw [kdfPut_is, kpr_keys_old (by rw [← kdfHas_is]; exact e)] at hj
    exact h j hj
  | false =>
    rw [kdfPut_is, kpr_keys_new (by rw [← kdfHas_is]; exact e)] at hj
    rcases List.mem_append.mp hj with hj | hj
    · exact h j hj
    · rw [List.mem_singleton.mp hj]; exact ⟨k0, k1⟩
theorem small_nodup : ∀ (n : Nat) (l : List Int), l.Nodup → (∀ k ∈ l, 0 ≤ k ∧ k < n) → l.length ≤ n
  | 0, l, _, h => by
    cases l with
    | nil => exact Nat.le_refl 0
    | cons a r => have := h a (.head _); omega
  | n + 1, l, hn, h => by
    by_cases hm : (n : Int) ∈ l
    · have h1 := small_nodup n (l.erase (n : Int)) (hn.erase _) (fun k hk => by
        have h2 := (List.Nodup.mem_erase_iff hn).mp hk
        have h3 := h k h2.2
        have h4 := h2.1
        omega)
      rw [List.length_erase_of_mem hm] at h1
      omega
    · have := small_nodup n l hn (fun k hk => by
        have h3 := h k hk
        have : k ≠ n := fun e => hm (e ▸ hk)
        omega)
      omega
theorem Row.Ok.small {w : World} {r : Row} (h : r.Ok w) : r.c.length ≤ 4 := by
  have := small_nodup 4 _ h.nd h.keys
  simpa using this

section
variable {w : World} {x : Cx} {y y' : Sx} {own : List (Addr × Obj)} {i : List Row} {t t' : Row}
theorem Sx.Ok.same (h : y.Ok w x own) (e : y'.rows = y.rows) (ed : 0 ≤ y'.draws) : y'.Ok w x own :=
  ⟨e ▸ h.rows, e ▸ h.nd, e ▸ h.off, h.offO, e ▸ h.apart, e ▸ h.len, e ▸ h.head, ed⟩
theorem rowsL_left {p : Addr × Obj} (hp : p ∈ rowsL w i) : p ∈ rowsL w (i ++ [t]) := by rw [rowsL_snoc]; exact List.mem_append_left _ hp
theorem Sx.Ok.pop (h : y.Ok w x own) (e : y.rows = i ++ [t]) (ht : 0 ≤ t.last) (e' : y'.rows = i) (ed : 0 ≤ y'.draws) : y'.Ok w x own := by
  have hnd := h.nd
  rw [e, rowsL_snoc, List.map_append] at hnd
  refine ⟨fun r hr => h.rows r (by rw [e]; rw [e'] at hr; exact List.mem_append_left _ hr), by rw [e']; exact (List.nodup_append.mp hnd).1, fun p hp => h.off p (by rw [e]; rw [e'] at hp; exact rowsL_left hp), h.offO,
    fun p hp => h.apart p (by rw [e]; rw [e'] at hp; exact rowsL_left hp), ?_, ?_, ed⟩
  · have := h.len
    rw [e] at this
    rw [e']
    simp at this
    omega
  · have := h.head
    rw [e] at this
    rw [e']
    cases i with
    | nil => simp at this; omega
    | cons a r => simpa using this
theorem Sx.Ok.turn (h : y.Ok w x own) (e : y.rows = i ++ [t]) (e' : y'.rows = i ++ [t']) (hk : t'.Ok w) (ea : (t'.objs w).map (·.1) = (t.objs w).map (·.1)) (el : t'.last = t.last) (ed : 0 ≤ y'.draws) : y'.Ok w x own := by
  have hnd := h.nd
  rw [e, rowsL_snoc, List.map_append, ← ea, ← List.map_append, ← rowsL_snoc, ← e'] at hnd
  have back : ∀ p ∈ rowsL w y'.rows, ∃ q ∈ rowsL w y.rows, q.1 = p.1 := fun p hp => by
    rw [e', rowsL_snoc] at hp
    rw [e, rowsL_snoc]
    rcases List.mem_append.mp hp with hp | hp
    · exact ⟨p, List.mem_append_left _ hp, rfl⟩
    · have : p.1 ∈ (t.objs w).map (·.1) := ea ▸ List.mem_map.mpr ⟨p, hp, rfl⟩
      obtain ⟨q, hq, e⟩ := List.mem_map.mp this
      exact ⟨q, List.mem_append_right _ hq, e⟩
  refine ⟨fun r hr => ?_, hnd, fun p hp => ?_, h.offO, fun p hp q hq => ?_, ?_, ?_, ed⟩
  · rw [e'] at hr
    rcases List.mem_append.mp hr with hr | hr
    · exact h.rows r (by rw [e]; exact List.mem_append_left _ hr)
    · rw [List.mem_singleton.mp hr]; exact hk
  · obtain ⟨q, hq, e⟩ := back p hp
    exact e ▸ h.off q hq
  · obtain ⟨q', hq', e⟩ := back p hp
    exact e ▸ h.apart q' hq' q hq
  · have := h.len
    rw [e] at this
    rw [e']
    simpa using this
  · have := h.head
    rw [e] at this
    rw [e']
    cases i with
    | nil => simpa [el] using this
    | cons a r => simpa using this
theorem Sx.Ok.push (h : y.Ok w x own) (e' : y'.rows = y.rows ++ [t']) (hk : t'.Ok w) (nd : ((t'.objs w).map (·.1)).Nodup) (new : ∀ p ∈ t'.objs w, Off x p.1 ∧ (∀ q ∈ rowsL w y.rows, q.1 ≠ p.1) ∧ ∀ q ∈ own, q.1 ≠ p.1) (hl : y.rows.length < 21) (ed : 0 ≤ y'.draws) : y'.Ok w x own := by
  refine ⟨fun r hr => ?_, ?_, fun p hp => ?_, h.offO, fun p hp q hq => ?_, ?_, ?_, ed⟩
  · rw [e'] at hr
    rcases List.mem_append.mp hr with hr | hr
    · exact h.rows r hr
    · rw [List.mem_singleton.mp hr]; exact hk
  · rw [e', rowsL_snoc, List.map_append]
    refine List.nodup_append.mpr ⟨h.nd, nd, fun a ha b hb => ?_⟩
    obtain ⟨q, hq, rfl⟩ := List.mem_map.mp ha
    obtain ⟨p, hp, rfl⟩ := List.mem_map.mp hb
    exact (new p hp).2.1 q hq
  · rw [e', rowsL_snoc] at hp
    rcases List.mem_append.mp hp with hp | hp
    · exact h.off p hp
    · exact (new p hp).1
  · rw [e', rowsL_snoc] at hp
    rcases List.mem_append.mp hp with hp | hp
    · exact h.apart p hp q hq
    · exact Ne.symm ((new p hp).2.2 q hq)
  · rw [e']; simp; omega
  · rw [e']
    cases hr : y.rows with
    | nil => have := h.head; rw [hr] at this; simp at this
    | cons a r => have := h.head; rw [hr] at this; simpa using this
end
end PB
end
section
open PySem PySem.W PyProof.Rows PySem.Calls PySem.Spec PyProof.V
namespace PB
section
namespace Cx.Ok
variable {x : Cx}
theorem cs_tp (h : x.Ok) : @LT.lt Nat _ x.cs x.tp := h.o1
theorem cs_bg (h : x.Ok) : @LT.lt Nat _ x.cs x.bg := Nat.lt_trans h.cs_tp h.o2
theorem cs_cdd (h : x.Ok) : @LT.lt Nat _ x.cs x.cdd := Nat.lt_trans h.cs_bg h.o3
theorem cs_cd (h : x.Ok) : @LT.lt Nat _ x.cs x.cd := Nat.lt_trans h.cs_cdd h.o4
theorem cs_mcd (h : x.Ok) : @LT.lt Nat _ x.cs x.mcd := Nat.lt_trans h.cs_cd h.o5
theorem cs_mc (h : x.Ok) : @LT.lt Nat _ x.cs x.mc := Nat.lt_trans h.cs_mcd h.o6
theorem cs_sk (h : x.Ok) : @LT.lt Nat _ x.cs x.sk := Nat.lt_trans h.cs_mc h.o7
theorem cs_fl (h : x.Ok) : @LT.lt Nat _ x.cs x.fl := Nat.lt_trans h.cs_sk h.o8
theorem cs_pl (h : x.Ok) : @LT.lt Nat _ x.cs x.pl := Nat.lt_trans h.cs_fl h.o9
theorem tp_bg (h : x.Ok) : @LT.lt Nat _ x.tp x.bg := h.o2
theorem tp_cdd (h : x.Ok) : @LT.lt Nat _ x.tp x.cdd := Nat.lt_trans h.tp_bg h.o3
theorem tp_cd (h : x.Ok) : @LT.lt Nat _ x.tp x.cd := Nat.lt_trans h.tp_cdd h.o4
theorem tp_mcd (h : x.Ok) : @LT.lt Nat _ x.tp x.mcd := Nat.lt_trans h.tp_cd h.o5
theorem tp_mc (h : x.Ok) : @LT.lt Nat _ x.tp x.mc := Nat.lt_trans h.tp_mcd h.o6
theorem tp_sk (h : x.Ok) : @LT.lt Nat _ x.tp x.sk := Nat.lt_trans h.tp_mc h.o7
theorem tp_fl (h : x.Ok) : @LT.lt Nat _ x.tp x.fl := Nat.lt_trans h.tp_sk h.o8
theorem tp_pl (h : x.Ok) : @LT.lt Nat _ x.tp x.pl := Nat.lt_trans h.tp_fl h.o9
theorem bg_cdd (h : x.Ok) : @LT.lt Nat _ x.bg x.cdd := h.o3
theorem bg_cd (h : x.Ok) : @LT.lt Nat _ x.bg x.cd := Nat.lt_trans h.bg_cdd h.o4
theorem bg_mcd (h : x.Ok) : @LT.lt Nat _ x.bg x.mcd := Nat.lt_trans h.bg_cd h.o5
theorem bg_mc (h : x.Ok) : @LT.lt Nat _ x.bg x.mc := Nat.lt_trans h.bg_mcd h.o6
theorem bg_sk (h : x.Ok) : @LT.lt Nat _ x.bg x.sk := Nat.lt_trans h.bg_mc h.o7
theorem bg_fl (h : x.Ok) : @LT.lt Nat _ x.bg x.fl := Nat.lt_trans h.bg_sk h.o8
theorem bg_pl (h : x.Ok) : @LT.lt Nat _ x.bg x.pl := Nat.lt_trans h.bg_fl h.o9
theorem cdd_cd (h : x.Ok) : @LT.lt Nat _ x.cdd x.cd := h.o4
theorem cdd_mcd (h : x.Ok) : @LT.lt Nat _ x.cdd x.mcd := Nat.lt_trans h.cdd_cd h.o5
theorem cdd_mc (h : x.Ok) : @LT.lt Nat _ x.cdd x.mc := Nat.lt_trans h.cdd_mcd h.o6
theorem cdd_sk (h : x.Ok) : @LT.lt Nat _ x.cdd x.sk := Nat.lt_trans h.cdd_mc h.o7
theorem cdd_fl (h : x.Ok) : @LT.lt Nat _ x.cdd x.fl := Nat.lt_trans h.cdd_sk h.o8
theorem cdd_pl (h : x.Ok) : @LT.lt Nat _ x.cdd x.pl := Nat.lt_trans h.cdd_fl h.o9
theorem cd_mcd (h : x.Ok) : @LT.lt Nat _ x.cd x.mcd := h.o5
theorem cd_mc (h : x.Ok) : @LT.lt Nat _ x.cd x.mc := Nat.lt_trans h.cd_mcd h.o6
theorem cd_sk (h : x.Ok) : @LT.lt Nat _ x.cd x.sk := Nat.lt_trans h.cd_mc h.o7
theorem cd_fl (h : x.Ok) : @LT.lt Nat _ x.cd x.fl := Nat.lt_trans h.cd_sk h.o8
theorem cd_pl (h : x.Ok) : @LT.lt Nat _ x.cd x.pl := Nat.lt_trans h.cd_fl h.o9
theorem mcd_mc (h : x.Ok) : @LT.lt Nat _ x.mcd x.mc := h.o6
theorem mcd_sk (h : x.Ok) : @LT.lt Nat _ x.mcd x.sk := Nat.lt_trans h.mcd_mc h.o7
theorem mcd_fl (h : x.Ok) : @LT.lt Nat _ x.mcd x.fl := Nat.lt_trans h.mcd_sk h.o8
theorem mcd_pl (h : x.Ok) : @LT.lt Nat _ x.mcd x.pl := Nat.lt_trans h.mcd_fl h.o9
theorem mc_sk (h : x.Ok) : @LT.lt Nat _ x.mc x.sk := h.o7
theorem mc_fl (h : x.Ok) : @LT.lt Nat _ x.mc x.fl := Nat.lt_trans h.mc_sk h.o8
theorem mc_pl (h : x.Ok) : @LT.lt Nat _ x.mc x.pl := Nat.lt_trans h.mc_fl h.o9
theorem sk_fl (h : x.Ok) : @LT.lt Nat _ x.sk x.fl := h.o8
theorem sk_pl (h : x.Ok) : @LT.lt Nat _ x.sk x.pl := Nat.lt_trans h.sk_fl h.o9
theorem fl_pl (h : x.Ok) : @LT.lt Nat _ x.fl x.pl := h.o9
end Cx.Ok
end
def LtN (a b : Nat) : Prop := a < b
theorem ltN_of {a b : Nat} (h : a < b) : LtN a b := h
theorem ltN_out {a b : Nat} (h : LtN a b) : a < b := h
theorem ltN_ne {a b : Nat} (h : LtN a b) : a ≠ b := Nat.ne_of_lt h
def AllLtN (d : Nat) : List (Addr × Obj) → Prop
  | [] => True
  | p :: r => LtN p.1 d ∧ AllLtN d r
theorem allLtN_of {d : Addr} : ∀ {l : List (Addr × Obj)}, (∀ p ∈ l, p.1 < d) → AllLtN d l
  | [], _ => trivial
  | p :: _, h => ⟨h p (.head _), allLtN_of fun q hq => h q (.tail _ hq)⟩
theorem allLt_all {d : Addr} {R : List (Addr × Obj)} : AllLtN d R → ∀ p ∈ R, p.1 < d := by
  induction R with
  | nil => intro _ p hp; exact absurd hp List.not_mem_nil
  | cons q r ih =>
    intro h p hp
    rcases List.mem_cons.mp hp with e | hp
    · rw [e]; exact h.1
    · exact ih h.2 p hp
theorem allLt_ne {d : Addr} {R : List (Addr × Obj)} (h : AllLtN d R) : ∀ p ∈ R, p.1 ≠ d := fun p hp => Nat.ne_of_lt (allLt_all h p hp)
theorem allLtN_mem {d a : Addr} {o : Obj} {R : List (Addr × Obj)} (h : AllLtN d R) (hm : (a, o) ∈ R) : @LT.lt Nat _ a d := allLt_all h _ hm
theorem tok_new {α : Type} {M : Model} {A : Around} {p : Sem α} {Q : α → Shared → Prop} {E : Value → Shared → Prop} {h : Heap} {g : Array GenState} {d : Drawn} {t : Nat} {os : OsState} (H : ∀ t, wpAny M A p Q E ⟨h, g, d, t, os⟩) : wpAny M A p Q E ⟨h, g, d, t + 1 + 1 + 1 + 1 + 1, os⟩ := H _
end PB
end
section
open PySem PySem.W PyProof.Rows PySem.Calls PySem.Spec PyProof.V
namespace PB
theorem execs_append (b : List Stmt) (env : Env) : ∀ a : List Stmt, execs (a ++ b) env = (execs a env >>= fun f => match f with | .next => execs b env | f => pure f)
  | [] => by
    show execs b env = ((pure Flow.next : Sem Flow) >>= fun f => match f with | .next => execs b env | f => pure f)
    rw [pure_bind]
  | st :: a => by
    rw [List.cons_append, execs_cons, execs_cons, bind_assoc]
    congr 1
    funext f
    cases f <;> first | exact execs_append b env a | rw [pure_bind]
theorem execs_app {M : Model} {A : Around} {E : Value → Shared → Prop} {env : Env} {a b : List Stmt} {Q : Flow → Shared → Prop} {s : Shared}
    (h : wpAny M A (execs a env) (fun f s' => match f with | .next => wpAny M A (execs b env) Q E s' | f => Q f s') E s) : wpAny M A (execs (a ++ b) env) Q E s := by
  rw [execs_append]
  refine wpAny_bind (wpAny_mono h (fun f s' hf => ?_) fun _ _ e => e)
  cases f <;> first | exact hf | exact wpAny_pure hf
theorem execs_one {M : Model} {A : Around} {E : Value → Shared → Prop} {env : Env} {st : Stmt} {Q : Flow → Shared → Prop} {s : Shared} (h : wpAny M A (exec st env) Q E s) : wpAny M A (execs [st] env) Q E s := by
  refine wpAny_execs_cons (wpAny_mono h (fun f s' hf => ?_) fun _ _ e => e)
  cases f <;> first | exact wpAny_execs_nil hf | exact hf
end PB
end
section
open PySem PySem.W PyProof.Rows PySem.Calls PySem.Spec PyProof.V
open Sem (wp)
namespace PB
abbrev bmX (A : Addr) : List Value := [.ref A, .type "Exception", .type "BaseException", .type "object"]
abbrev excO (C t : Addr) (d : Option Addr) : Obj := { cls := .ref C, dict := d, data := .fields #[.ref t, .none, .none, .none, .bool false, .none] }
section
variable {M : Model} {A : Around} {E : Value → Shared → Prop} {h : Heap} {g : Array GenState} {d : Drawn} {t : Nat} {os : OsState}
variable {nm q : Str} {C D N : Addr} {bs : List Value} {hdct : Bool} {sn : List Str} {sub : List Value} {ab : Bool} {col : Option Bool} {dd : Option Addr} {k0 k1 k2 k3 k5 : Option Value}
theorem hasX (X : String) : (Value.ref C :: bmX D).contains (.type X) = [Value.type "Exception", .type "BaseException", .type "object"].contains (.type X) := by
  rw [List.contains_cons, bmX, List.contains_cons]; rfl
theorem check_newX {rest : List Value} {Q : Unit → Shared → Prop} (hC : h.get? C = some (excClassObj nm q C N bs (bmX D) hdct sn sub ab col dd k0 k1 k2 k3 k5 "Exception.__new__"))
    (hq : Q () ⟨h, g, d, t, os⟩) : wpAny M A (checkBuiltinCall "Exception.__new__" ⟨.ref C :: rest, []⟩) Q E ⟨h, g, d, t, os⟩ := by
  have F := PySem.F.excBase_Exception
  have hcont : (Value.ref C :: bmX D).contains (.type "Exception") = true := by rw [hasX]; rfl
  have hstar := F.noStar
  simp only [checkBuiltinCall, F.newKind, F.newSplit, F.newRow]
  repeat (first | refine wpAny_loadPart_at hC ?_ | (refine wpAny_isSubtype_exc hC ?_; rw [hcont]) | refine wpAny_staticBase_exc hC ?_ | refine wpAny_madeBy_exc hC ?_ | simp only [bne_self_eq_false, Bool.false_eq_true, if_false] | wp_step)
  exact hq
end
section
variable {prog : Program} {w : World} {A : Around} {R : Result → Shared → Prop} {h : Heap} {g : Array GenState} {d : Drawn} {t : Nat} {os : OsState}
variable {nm q : Str} {C D N : Addr} {bs : List Value} {hdct : Bool} {sn : List Str} {sub : List Value} {ab : Bool} {col : Option Bool} {dd : Option Addr} {k0 k1 k2 k3 k5 : Option Value}
theorem newX {rest : List Value} (hC : h.get? C = some (excClassObj nm q C N bs (bmX D) hdct sn sub ab col dd k0 k1 k2 k3 k5 "Exception.__new__"))
    (hq : R (.ok (.ret (.ref (h.objs.size + 1)))) ⟨(h.push { cls := .type "tuple", data := .seq rest.toArray }).push (excO C h.objs.size none), g, d, t, os⟩) (hrest : rest.length ≤ sizeLine) :
    codeAny (model prog w) A (.builtin "Exception.__new__" ⟨.ref C :: rest, []⟩) R ⟨h, g, d, t, os⟩ := by
  have F := PySem.F.excBase_Exception
  have hends := F.ends
  have hcB : (Value.ref C :: bmX D).contains (.type "Exception") = true := by rw [hasX]; rfl
  have hcA : (Value.ref C :: bmX D).contains (.type "AttributeError") = false := by rw [hasX]; rfl
  have hcN : (Value.ref C :: bmX D).contains (.type "NameError") = false := by rw [hasX]; rfl
  refine codeAny_builtinAt F.entry ?_
  unfold Builtin.«BaseException.__new__»
  refine PySem.wpAt_bind ?_
  show PySem.wpAt _ _ _ (stack >>= _) _ _ _
  refine PySem.wpAt_bind (PySem.wpAt_stack fun p below => PySem.wpAt_of_wpAny ?_)
  wp_walk
  refine PySem.wpAt_of_wpAny ?_
  rw [F.owner]
  repeat (first | with_reducible refine wpAny_madeHere_exc F.canon hC ?_ | with_reducible refine wpAny_loadPart_at hC ?_ | (with_reducible refine wpAny_isSubtype_exc hC ?_; first | rw [hcB] | rw [hcA] | rw [hcN]) | wp_step)
  show R _ _
  rw [Heap.size_push]
  exact hq
theorem tcallX {rest : List Value} {fI : Addr} {Q : PySem.Fin → Shared → Prop} {E : Value → Shared → Prop}
    (hC : h.get? C = some (excClassObj nm q C N bs (bmX D) hdct sn sub ab col dd k0 k1 k2 k3 k5 "Exception.__new__"))
    (hi : Looks (model prog w) h (typeLookup (.ref C) "__init__") (some (.ref fI))) (hb : ∀ self, Looks (model prog w) h (bindSpecial (.ref fI) self) (.ref fI, [self])) (hrest : rest.length ≤ sizeLine)
    (hq : wpAny (model prog w) A (call (.ref fI) (.ref (h.objs.size + 1) :: rest)) (fun r s' => r = .none ∧ Q (.done (.ret (.ref (h.objs.size + 1)))) s') E
      ⟨(h.push { cls := .type "tuple", data := .seq rest.toArray }).push (excO C h.objs.size none), g, d, t, os⟩) :
    wpAny (model prog w) A (Builtin.«type.__call__» ⟨.ref C :: rest, []⟩) Q E ⟨h, g, d, t, os⟩ := by
  have F := PySem.F.excBase_Exception
  repeat (first | with_reducible refine wpAny_loadPart_at hC ?_ | with_reducible refine wpAny_madeBy_exc hC ?_ | wp_step)
  refine codeAny_call_builtin_code (Code.quiet_builtin _ F.quiet) (check_newX hC ?_)
  refine newX hC ?_ hrest
  show wpAny _ _ _ _ _ _
  have up : ∀ b o, h.get? b = some o → ((h.push { cls := .type "tuple", data := .seq rest.toArray }).push (excO C h.objs.size none)).get? b = some o := fun b o e => Heap.get?_push_of_some _ (Heap.get?_push_of_some _ e)
  have hC₁ := up _ _ hC
  have hget : ((h.push { cls := .type "tuple", data := .seq rest.toArray }).push (excO C h.objs.size none)).get? (h.objs.size + 1) = some (excO C h.objs.size none) := by heap_get
  have hcC : (Value.ref C :: bmX D).contains (.ref C) = true := by simp
  unfold isInstance
  repeat (first | with_reducible refine wpAny_loadPart_at hget ?_ | (with_reducible refine wpAny_isSubtype_exc hC₁ ?_; rw [hcC]) | wp_step)
  show wpAny _ _ (typeLookup (.ref C) _) _ _ _
  refine (hi.keeps up).here ?_
  refine wpAny_holding (wpAny_bind (((hb _).keeps up).here (wpAny_bind (wpAny_mono hq (fun r s' hr => ?_) fun _ _ x => x))))
  obtain ⟨rfl, hQ⟩ := hr
  wp_walk
  exact hQ
theorem call_excX {rest : List Value} {fI : Addr} {Q : Value → Shared → Prop} {E : Value → Shared → Prop}
    (hC : h.get? C = some (excClassObj nm q C N bs (bmX D) hdct sn sub ab col dd k0 k1 k2 k3 k5 "Exception.__new__"))
    (hi : Looks (model prog w) h (typeLookup (.ref C) "__init__") (some (.ref fI))) (hb : ∀ self, Looks (model prog w) h (bindSpecial (.ref fI) self) (.ref fI, [self])) (hrest : rest.length ≤ sizeLine)
    (hq : wpAny (model prog w) (A.under (.builtin "type.__call__" ⟨.ref C :: rest, []⟩)) (call (.ref fI) (.ref (h.objs.size + 1) :: rest)) (fun r s' => r = .none ∧ Q (.ref (h.objs.size + 1)) s') E
      ⟨(h.push { cls := .type "tuple", data := .seq rest.toArray }).push (excO C h.objs.size none), g, d, t, os⟩) :
    wpAny (model prog w) A (call (.ref C) rest) Q E ⟨h, g, d, t, os⟩ := by
  have f1 := tc_lookup
  have f2 := tc_bind (.ref C)
  have hT : (⟨h, g, d, t, os⟩ : Shared).TypeIs (.ref C) "type" := ⟨_, hC, rfl⟩
  refine wpAny_call (codeAny_of_tree ?_)
  show wpAny _ _ (callAny (.ref C) _) _ _ _
  repeat (any_goals (first | assumption | with_reducible refine wpAny_loadPart_at hC ?_ | wp_step))
  refine ⟨rfl, ?_⟩
  exact codeAny_call_builtin_at (Code.quiet_builtin _ (by decide +kernel)) entry_typeCall (wpAny_check_type_call_sub hC (tcallX hC hi hb hrest hq))
end
def clsOf : Data → Option ClassData
  | .cls cd => some cd
  | _ => none
theorem clsOf_eq {d : Data} {cd : ClassData} (h : clsOf d = some cd) : d = .cls cd := by
  cases d <;> first | (cases h; rfl) | nomatch h
theorem six {α : Type} (l : List α) (h : l.length = 6) : ∃ a b c d e f, l = [a, b, c, d, e, f] := by
  rcases l with _ | ⟨a, _ | ⟨b, _ | ⟨c, _ | ⟨d, _ | ⟨e, _ | ⟨f, _ | ⟨g, l⟩⟩⟩⟩⟩⟩⟩
  all_goals first | exact ⟨_, _, _, _, _, _, rfl⟩ | exact absurd h (by simp)
/-- the class of the law's own exception stands in the written part -/
def exOk (K : Frag) (C D : Addr) : Bool := (K.lookup C).elim false fun o => (clsOf o.data).elim false fun cd =>
  o.cls == .type "type" && cd.mro == .ref C :: bmX D && !cd.hasDel && cd.hasDict && o.slots.size == 6 && o.slots[4]? == some (some (.builtin "Exception.__new__"))
def IsExc (h : Heap) (C D : Addr) : Prop := ∃ nm q N bs sn sub ab col dd k0 k1 k2 k3 k5, h.get? C = some (excClassObj nm q C N bs (bmX D) true sn sub ab col dd k0 k1 k2 k3 k5 "Exception.__new__")
theorem exLook {K : Frag} {C D : Addr} (q : exOk K C D = true) : ∃ nm q N bs sn sub ab col dd k0 k1 k2 k3 k5, K.lookup C = some (excClassObj nm q C N bs (bmX D) true sn sub ab col dd k0 k1 k2 k3 k5 "Exception.__new__") := by
  unfold exOk at q
  cases ho : K.lookup C with
  | none => rw [ho] at q; cases q
  | some o =>
    rw [ho] at q
    obtain ⟨c, dd, dt, sl⟩ := o
    simp only [Option.elim] at q
    cases hd : clsOf dt with
    | none => rw [hd] at q; cases q
    | some cd =>
      rw [hd] at q
      simp only [Bool.and_eq_true, beq_iff_eq, Bool.not_eq_true'] at q
      obtain ⟨⟨⟨⟨⟨rfl, hm⟩, hdel⟩, hdc⟩, hsz⟩, h4⟩ := q
      rw [clsOf_eq hd]
      obtain ⟨nm, bs, mro, ns, qn, hd, sn, sub, ab, col, del⟩ := cd
      dsimp only at hm hdel hdc
      subst hm hdel hdc
      obtain ⟨l⟩ := sl
      obtain ⟨k0, k1, k2, k3, k4, k5, rfl⟩ := six l hsz
      obtain rfl : k4 = some (.builtin "Exception.__new__") := Option.some.inj h4
      exact ⟨nm, qn, ns, bs, sn, sub, ab, col, dd, k0, k1, k2, k3, k5, rfl⟩
theorem exObj {K : Frag} {h : Heap} {C D : Addr} (X : K.In h) (q : exOk K C D = true) : IsExc h C D := by
  obtain ⟨nm, qn, ns, bs, sn, sub, ab, col, dd, k0, k1, k2, k3, k5, e⟩ := exLook q
  exact ⟨nm, qn, ns, bs, sn, sub, ab, col, dd, k0, k1, k2, k3, k5, X _ _ e⟩
section
variable {prog : Program} {w : World} {A : Around} {E : Value → Shared → Prop} {s : Shared} {K : Frag} {h₀ : Heap} {L : Addr} {m : Str → Option Value} {news : List (Addr × Obj)} {Q : Value → Shared → Prop} {C D fI : Addr}
theorem exc_call {rest : List Value} (F : Fr h₀ L s.heap m) (X₀ : K.In h₀) (N : News h₀ L s.heap news) (hx : exOk K C D = true) (hi : findIn K (.ref C) "__init__" = some (some (.ref fI))) (hf : isFn K (.ref fI) = true) (hrest : rest.length ≤ 100)
    (h : ∀ e t h', Fr h₀ L h' m → News h₀ L h' ((e, excO C t none) :: (t, { cls := .type "tuple", data := .seq rest.toArray }) :: news) → (∀ p ∈ news, p.1 < t) → t < e → (∀ p ∈ news, p.1 < e) →
      codeAny (model prog w) (A.under (.builtin "type.__call__" ⟨.ref C :: rest, []⟩)) (.call (.ref fI) ⟨.ref e :: rest, []⟩) (InitBack e fun r s' => match r with | .ok (.ret v) => Q v s' | .ok _ => False | .error e => E e s') { s with heap := h' }) :
    wpAny (model prog w) A (call (.ref C) rest) Q E s := by
  obtain ⟨hh, g, d, t, os⟩ := s
  have X := X₀.keeps F.keep
  obtain ⟨nm, q, N₁, bs, sn, sub, ab, col, dd, k0, k1, k2, k3, k5, hC⟩ := exObj X hx
  refine call_excX hC (looks_findIn X hi) (fun self => bind_fn X self (beq_iff_eq.mp hf)) (by rw [sizeLine_eq]; omega) (wpAny_call ?_)
  have N' := (N.push F { cls := .type "tuple", data := .seq rest.toArray }).push (F.push _) (excO C hh.objs.size none)
  rw [Heap.size_push] at N'
  refine codeAny_mono (h _ hh.objs.size _ ((F.push _).push _) N' (fun p hp => Heap.lt_size (N p hp).1) (Nat.lt_succ_self _) fun p hp => Nat.lt_succ_of_lt (Heap.lt_size (N p hp).1)) fun r s' z => ?_
  rcases r with e | (v | _ | _ | _) <;> first | exact z | exact z.elim
end
theorem exCls {K : Frag} {C D : Addr} (q : exOk K C D = true) : ∃ cd, clsIn K C = some cd ∧ cd.mro = .ref C :: bmX D ∧ cd.hasDict = true := by
  obtain ⟨nm, qn, ns, bs, sn, sub, ab, col, dd, k0, k1, k2, k3, k5, e⟩ := exLook q
  unfold clsIn
  rw [e]
  exact ⟨_, rfl, rfl, rfl⟩
section
open Builtin Builtin.ObjectAttr
variable {prog : Program} {w : World} {A : Around} {s : Shared} {K : Frag} {h₀ : Heap} {L : Addr} {m : Str → Option Value} {news : List (Addr × Obj)} {C D x : Addr} {R : Result → Shared → Prop} {E : Value → Shared → Prop}
theorem osa_openX {ox : Obj} {od : Option Obj} {name : Str} {tk : Tok} {v : Value} (X : K.In s.heap) (I : InstAt s.heap x ox C od) (hx : exOk K C D = true) (ht : findIn K (.ref C) name = some none)
    (h : wpAny (model prog w) A.in1 (storeInOwnDict (.ref x) (.ref C) (.str name tk) name v false)
      (fun fin s' => match fin with | .done f => R (.ok f) s' | .again c' => c'.quiet = true ∧ codeAny (model prog w) A c' R s') (fun e s' => R (.error e) s') s) :
    codeAny (model prog w) A (.call (.builtin "object.__setattr__") ⟨[.ref x, .str name tk, v], []⟩) R s := by
  have SF := PySem.F.store_object
  obtain ⟨cd, hc, hm, hd⟩ := exCls hx
  have sub : Looks (model prog w) s.heap (isInstance (.ref x) (.type "object")) true := I.type.andThen (looks_mroIn X (by unfold mroIn; rw [hc, Option.bind_some, hm, if_neg (by simp), hasX]; rfl))
  refine codeAny_call_builtin SF.slot.plain SF.entry (@check_slot (model prog w) _ _ s "object.__setattr__" "object" "__setattr__" (.ref x) [.str name tk, v] [] _ SF.kind SF.split sub (SF.args (.ref x) (.str name tk) v) ?_)
  have hm' : Looks (model prog w) s.heap (mroOf (.ref C)) (.ref C :: bmX D) := (looks_clsIn X hc).andThen (by rw [hm]; exact .now)
  rw [osa_eq, refuse_eq]
  refine wpAny_bind (wpAny_bind (I.type.here (wpAny_bind (hm'.here ?_))))
  rw [refuseLoop_ref, bmX, refuseLoop_ref, PySem.F.store_Exception.passes]
  exact wpAny_pure (wpAny_bind (I.type.here (wpAny_bind ((looks_findIn X ht).here (wpAny_bind (wpAny_pure h))))))
theorem stD {dx : Addr} {name : Str} {tk : Tok} {v : Value} {pre post : List (Addr × Obj)} {es es' : List DictEntry} {n n' : Nat} {Q : PySem.Fin → Shared → Prop} (F : Fr h₀ L s.heap m) (N : News h₀ L s.heap (pre ++ (dx, dictOf es n) :: post))
    (hl : (getL name es).isSome = true) (h1 : ∀ p ∈ pre, p.1 ≠ dx) (h2 : ∀ p ∈ post, p.1 ≠ dx)
    (e : (putL name (PyData.keyHash w.params name) (.str name s.toks) v es, putN name es n) = (es', n')) (hz : es'.length ≤ 1000)
    (h : ∀ h', Fr h₀ L h' m → News h₀ L h' (pre ++ (dx, dictOf es' n') :: post) → Q (.done (.ret .none)) { s with heap := h', toks := s.toks + 1 }) :
    wpAny (model prog w) A (storeInDict dx (.str name tk) name v) Q E s := by
  obtain ⟨e1, e2⟩ := Prod.mk.inj e
  obtain ⟨U1, U2⟩ := news_upd (f := Obj.putName name (PyData.keyHash w.params name) (.str name s.toks) v) F N h1 h2 (o' := dictOf es' n') (by rw [putName_dict, e1, e2]) rfl
  have D := (N (dx, dictOf es n) (by simp)).1
  have D' := (U2 (dx, dictOf es' n') (by simp)).1
  unfold storeInDict
  refine wpAny_bind (wpAny_pure (wpAny_bind ?_))
  unfold nsSet
  refine wpAny_bind (wpAny_bind (wpAny_askSetting (wpAny_pure (wpAny_bind (wpAny_mkText (wpAny_bind (wpAny_loadPart D ?_)))))))
  have c : (!es.toArray.any (·.key.isStr name) && es.toArray.any (·.refKey)) = false := by
    rw [← Array.any_toList, ← Array.any_toList]
    unfold getL at hl
    split at hl
    · rename_i en he
      rw [List.any_eq_true.mpr ⟨en, List.mem_of_find?_eq_some he, List.find?_some he⟩]; rfl
    · split at hl
      · cases hl
      · rename_i z; rw [Bool.not_eq_true] at z; simp only at z ⊢; rw [z, Bool.and_false]
  dsimp only
  rw [aRefKeyMayBeTheName_at, c]
  refine wpAny_updatePart D ?_
  refine wpAny_bind (wpAny_lookBehind D' (pastItsLine_dict (by rw [List.size_toArray, sizeLine_eq]; omega)) ?_)
  exact wpAny_pure (h _ U1 U2)
theorem exc_set1 {t : Addr} {name : Str} {v : Value} {Q : Unit → Shared → Prop} {es' : List DictEntry} {n' : Nat} {pre post : List (Addr × Obj)} (F : Fr h₀ L s.heap m) (X₀ : K.In h₀) (N : News h₀ L s.heap (pre ++ (x, excO C t none) :: post)) (hx : exOk K C D = true)
    (hs : findIn K (.ref C) "__setattr__" = some (some (.builtin "object.__setattr__"))) (ht : findIn K (.ref C) name = some none) (h1 : ∀ p ∈ pre, p.1 ≠ x) (h2 : ∀ p ∈ post, p.1 ≠ x)
    (e : (putL name (PyData.keyHash w.params name) (.str name (s.toks + 1)) v [], putN name [] 0) = (es', n'))  (hz : es'.length ≤ 1000)
    (h : ∀ d h', Fr h₀ L h' m → News h₀ L h' ((d, dictOf es' n') :: (pre ++ (x, excO C t (some d)) :: post)) → (∀ p ∈ pre, p.1 < d) → (∀ p ∈ post, p.1 < d) → x < d → Q () { s with heap := h', toks := s.toks + 2 }) :
    wpAny (model prog w) A (setAttr (.ref x) name v) Q E s := by
  obtain ⟨hp, g, dr, tk, os⟩ := s
  have X : K.In hp := X₀.keeps F.keep
  obtain ⟨cd, hc, hm, hd⟩ := exCls hx
  have P := N (x, excO C t none) (by simp)
  have I : InstAt hp x (excO C t none) C none := ⟨P.1, rfl, rfl, trivial⟩
  refine set_plain (s := ⟨hp, g, dr, tk, os⟩) X I hs (osa_openX (s := ⟨hp, g, dr, tk + 1, os⟩) X I hx ht ?_)
  unfold storeInOwnDict
  refine wpAny_bind (wpAny_pure (wpAny_bind ?_))
  show wpAny _ _ (instanceDict x true) _ _ _
  have Np := N.push F (dictOf [] 0)
  have hlt : ∀ p ∈ pre ++ (x, excO C t none) :: post, p.1 < hp.objs.size := fun p hp => Heap.lt_size (N p hp).1
  have hxlt : x < hp.objs.size := hlt (x, excO C t none) (by simp)
  obtain ⟨U1, U2⟩ := news_upd (f := fun o => { o with dict := some hp.objs.size }) (pre := (hp.objs.size, dictOf [] 0) :: pre) (d := x) (o := excO C t none) (o' := excO C t (some hp.objs.size)) (post := post) (F.push _) Np
    (fun p hp => by
      rcases List.mem_cons.mp hp with rfl | hp
      · exact Nat.ne_of_gt hxlt
      · exact h1 p hp) h2 rfl rfl
  have Pp := Np (x, excO C t none) (by simp)
  unfold instanceDict
  refine wpAny_bind (wpAny_loadPart P.1 (wpAny_bind ((looks_clsIn X hc).here ?_)))
  rw [hd]
  rw [if_neg (by decide)]
  dsimp only
  rw [if_neg (by simp [typeHasDict])]
  refine wpAny_bind (wpAny_alloc' ?_)
  refine wpAny_bind (wpAny_update' Pp.1 ?_)
  refine wpAny_pure ?_
  exact stD (s := ⟨_, g, dr, tk + 1, os⟩) (pre := []) U1 U2 rfl (fun _ hp => nomatch hp) (fun p hp => Nat.ne_of_lt (by
    rcases List.mem_append.mp hp with q | q
    · exact hlt p (List.mem_append_left _ q)
    · rcases List.mem_cons.mp q with rfl | q
      · exact hxlt
      · exact hlt p (List.mem_append_right _ (.tail _ q)))) e hz fun h' F' N' => h _ h' F' N' (fun p q => hlt p (List.mem_append_left _ q)) (fun p q => hlt p (List.mem_append_right _ (.tail _ q))) hxlt
theorem exc_set2 {t dx : Addr} {name : Str} {v : Value} {Q : Unit → Shared → Prop} {es es' : List DictEntry} {n n' : Nat} {news' : List (Addr × Obj)} (F : Fr h₀ L s.heap m) (X₀ : K.In h₀) (N : News h₀ L s.heap news) (hm : (x, excO C t (some dx)) ∈ news) (hmd : (dx, dictOf es n) ∈ news) (hx : exOk K C D = true)
    (hs : findIn K (.ref C) "__setattr__" = some (some (.builtin "object.__setattr__"))) (ht : findIn K (.ref C) name = some none) (hl : (getL name es).isSome = true)
    (e : (putL name (PyData.keyHash w.params name) (.str name (s.toks + 1)) v es, putN name es n) = (es', n')) (U : Upd dx (dictOf es n) (dictOf es' n') news news') (hz : es'.length ≤ 1000)
    (h : ∀ h', Fr h₀ L h' m → News h₀ L h' news' → Q () { s with heap := h', toks := s.toks + 2 }) :
    wpAny (model prog w) A (setAttr (.ref x) name v) Q E s := by
  obtain ⟨pre, post, rfl, rfl, h1, h2⟩ := U.split
  obtain ⟨hp, g, dr, tk, os⟩ := s
  have X : K.In hp := X₀.keeps F.keep
  obtain ⟨cd, hc, hm', hd⟩ := exCls hx
  have P := N _ hm
  have Pd := N (dx, dictOf es n) (by simp)
  have I : InstAt hp x (excO C t (some dx)) C (some (dictOf es n)) := ⟨P.1, rfl, rfl, Pd.1⟩
  refine set_plain (s := ⟨hp, g, dr, tk, os⟩) X I hs (osa_openX (s := ⟨hp, g, dr, tk + 1, os⟩) X I hx ht ?_)
  unfold storeInOwnDict
  refine wpAny_bind (wpAny_pure (wpAny_bind ?_))
  show wpAny _ _ (instanceDict x true) _ _ _
  unfold instanceDict
  refine wpAny_bind (wpAny_loadPart P.1 (wpAny_bind ((looks_clsIn X hc).here ?_)))
  rw [hd]
  rw [if_neg (by decide)]
  refine wpAny_pure ?_
  exact stD (s := ⟨_, g, dr, tk + 1, os⟩) F N hl h1 h2 e hz fun h' F' N' => h h' F' N'
theorem exc_init {t : Addr} {rest : List Value} {Q : Value → Shared → Prop} {gg : Obj → List (Addr × Obj)} (F : Fr h₀ L s.heap m) (X₀ : K.In h₀) (N : News h₀ L s.heap news) (hx : exOk K C D = true) (U : UpdF x (excO C t none) news gg) (hrest : rest.length ≤ 100)
    (h : ∀ t' h', Fr h₀ L h' m → News h₀ L h' ((t', { cls := .type "tuple", data := .seq rest.toArray }) :: gg (excO C t' none)) → (∀ p ∈ news, p.1 < t') → Q .none { s with heap := h' }) :
    wpAny (model prog w) A (call (.builtin "Exception.__init__") (.ref x :: rest)) Q E s := by
  obtain ⟨pre, post, rfl, hg, h1, h2⟩ := U.split
  obtain ⟨hp, g, dr, tk, os⟩ := s
  have X : K.In hp := X₀.keeps F.keep
  have FB := PySem.F.excBase_Exception
  obtain ⟨nm, q, N₁, bs, sn, sub, ab, col, dd, k0, k1, k2, k3, k5, hC⟩ := exObj X hx
  have P := (N (x, excO C t none) (by simp)).1
  have hcB : (Value.ref C :: bmX D).contains (.type "Exception") = true := by rw [hasX]; rfl
  have hck : ∀ (A' : Around) (Q' : Unit → Shared → Prop) (E' : Value → Shared → Prop), Q' () ⟨hp, g, dr, tk, os⟩ → wpAny (model prog w) A' (checkBuiltinCall "Exception.__init__" ⟨.ref x :: rest, []⟩) Q' E' ⟨hp, g, dr, tk, os⟩ := by
    intro A' Q' E' hq
    have hshort := FB.noStar
    simp only [checkBuiltinCall, FB.initKind, FB.initSplit, FB.initRow]
    repeat (first | (with_reducible refine wpAny_loadPart_at P ?_) | with_reducible refine wpAny_loadPart_at hC ?_ | (with_reducible refine wpAny_isSubtype_exc hC ?_; rw [hcB]) | wp_step)
    refine wpAny_onRaise ?_
    rw [show ∀ (a b : String) (n : Nat), Bind.check ⟨.positional, "*", "Exception", .self, [⟨"args", .varPos, false⟩]⟩ a b n (List.map (fun x => x.fst) ({ pos := Value.ref x :: rest } : Args).kw) = pure () from
      fun a b n => check_star_args _ _ _ _ _ _]
    exact wpAny_pure hq
  refine wpAny_call (codeAny_call_builtin FB.init.plain FB.initEntry (hck _ _ _ ?_))
  have hsz : rest.length ≤ sizeLine := by rw [sizeLine_eq]; omega
  wp_walk
  have Np := N.push F ({ cls := .type "tuple", data := .seq rest.toArray } : Obj)
  have hlt : ∀ p ∈ pre ++ (x, excO C t none) :: post, p.1 < hp.objs.size := fun p hp => Heap.lt_size (N p hp).1
  obtain ⟨U1, U2⟩ := news_upd (f := Obj.mapFields fun z => z.setIfInBounds 0 (Value.ref hp.objs.size)) (pre := (hp.objs.size, { cls := .type "tuple", data := .seq rest.toArray }) :: pre) (d := x) (o := excO C t none) (o' := excO C hp.objs.size none) (post := post) (F.push _) Np
    (fun p hq => by
      rcases List.mem_cons.mp hq with rfl | hq
      · exact Nat.ne_of_gt (hlt (x, excO C t none) (by simp))
      · exact h1 p hq) h2 rfl rfl
  exact h _ _ U1 (by rw [hg]; exact U2) hlt
end
section
variable {prog : Program} {w : World} {A : Around} {s : Shared} {K : Frag} {h₀ : Heap} {L : Addr} {m : Str → Option Value} {news : List (Addr × Obj)} {C D x : Addr} {E : Value → Shared → Prop}
theorem exc_setF {t : Addr} {name : Str} {v : Value} {Q : Unit → Shared → Prop} {es' : List DictEntry} {n' : Nat} {gg : Obj → List (Addr × Obj)} (F : Fr h₀ L s.heap m) (X₀ : K.In h₀) (N : News h₀ L s.heap news) (hx : exOk K C D = true) (U : UpdF x (excO C t none) news gg)
    (hs : findIn K (.ref C) "__setattr__" = some (some (.builtin "object.__setattr__"))) (ht : findIn K (.ref C) name = some none)
    (e : (putL name (PyData.keyHash w.params name) (.str name (s.toks + 1)) v [], putN name [] 0) = (es', n'))  (hz : es'.length ≤ 1000)
    (h : ∀ d h', Fr h₀ L h' m → News h₀ L h' ((d, dictOf es' n') :: gg (excO C t (some d))) → (∀ p ∈ news, p.1 < d) → Q () { s with heap := h', toks := s.toks + 2 }) :
    wpAny (model prog w) A (setAttr (.ref x) name v) Q E s := by
  obtain ⟨pre, post, rfl, hg, h1, h2⟩ := U.split
  refine exc_set1 F X₀ N hx hs ht h1 h2 e hz fun d h' F' N' l1 l2 l3 => h d h' F' (by rw [hg]; exact N') fun p hp => ?_
  rcases List.mem_append.mp hp with q | q
  · exact l1 p q
  · rcases List.mem_cons.mp q with rfl | q
    · exact l3
    · exact l2 p q

def RaisableX (C D : Addr) (E : Value → Shared → Prop) (v : Value) (s₁ : Shared) : Prop :=
  ∃ a d t, v = .ref a ∧ IsExc s₁.heap C D ∧ s₁.heap.get? a = some (excO C t d) ∧ E (.ref a) s₁
theorem raisableX_of {a t : Addr} {d : Option Addr} (X₀ : K.In h₀) (F : Fr h₀ L s.heap m) (N : News h₀ L s.heap news) (hm : (a, excO C t d) ∈ news) (hx : exOk K C D = true) (h : E (.ref a) s) : RaisableX C D E (.ref a) s :=
  ⟨a, d, t, rfl, exObj (X₀.keeps F.keep) hx, (N _ hm).1, h⟩
theorem raiseX {M : Model} {env : Env} {e : Expr} {pos : Pos} {Q : Flow → Shared → Prop} (hh : A.handled = none)
    (h : wpAny M A (eval e env) (RaisableX C D E) E s) : wpAny M A (exec (.Raise (some e) none pos) env) Q E s := by
  have hcB : (Value.ref C :: bmX D).contains (.type "BaseException") = true := by rw [hasX]; rfl
  show wpAny M A (do standAt pos; raiseStmt env (some (do let v ← eval e env; standAt pos; pure v)) none) Q E s
  refine wpAny_bind (wpAny_standAt ?_)
  unfold raiseStmt
  dsimp only
  refine wpAny_bind (wpAny_bind (wpAny_mono h (fun v s₁ h₁ => wpAny_bind (wpAny_standAt (wpAny_pure ?_))) fun _ _ x => x))
  obtain ⟨a, d, t, rfl, ⟨nm, q, N₁, bs, sn, sub, ab, col, dd, k0, k1, k2, k3, k5, hC⟩, he, hE⟩ := h₁
  obtain ⟨hp, g, dr, tk, os⟩ := s₁
  repeat (first | with_reducible refine wpAny_loadPart_at he ?_ | with_reducible refine wpAny_loadPart_at hC ?_ | (with_reducible refine wpAny_isSubtype_exc hC ?_; rw [hcB]) | wp_step)
  exact wpAny_raiseNew_none hh hE
end

/-- one entry of the ledger left out -/
inductive Del (e : Addr) (o : Obj) : List (Addr × Obj) → List (Addr × Obj) → Prop
  | head {r} : (∀ p ∈ r, p.1 ≠ e) → Del e o ((e, o) :: r) r
  | tail {p r r'} : p.1 ≠ e → Del e o r r' → Del e o (p :: r) (p :: r')
theorem Del.sub {e : Addr} {o : Obj} : ∀ {l l' : List (Addr × Obj)}, Del e o l l' → (e, o) ∈ l ∧ ∀ q ∈ l', q ∈ l ∧ q.1 ≠ e
  | _, _, .head h => ⟨.head _, fun q hq => ⟨.tail _ hq, h q hq⟩⟩
  | _, _, .tail h r => ⟨.tail _ r.sub.1, fun q hq => by
      rcases List.mem_cons.mp hq with rfl | hq
      · exact ⟨.head _, h⟩
      · exact ⟨.tail _ (r.sub.2 q hq).1, (r.sub.2 q hq).2⟩⟩
section
variable {M : Model} {A : Around} {E : Value → Shared → Prop} {s' : Shared} {base g : Heap} {outer : List Env} {L a e t : Addr} {m : Str → Option Value} {name : Str} {scope : Scope} {cd : Value} {Q : Unit → Shared → Prop} {news news' : List (Addr × Obj)} {C : Addr} {d : Option Addr}
theorem leaveX (K : Below A base outer g) (F : Fr g L s'.heap m) (N : News g L s'.heap news) (U : Del e (excO C t d) news news')
    (hQ : ∀ h', RaisedN base outer e (.ref C) news' h' → g.UpToSlots h' → Q () { s' with heap := h' }) (hk : scope.kind = .function := by rfl) :
    wpAny M (A.deeper (envOf name scope L a cd)) (leaving (envOf name scope L a cd) (.ref e)) Q E s' := by
  have K' := K.push (name := name) (a := a) (cd := cd) F hk
  obtain ⟨hm, hsub⟩ := U.sub
  have P := N _ hm
  have hin : ∀ env ∈ (envOf name scope L a cd :: outer), ∀ b, env.frame = some b → b ∈ e :: (envOf name scope L a cd :: outer).filterMap (·.frame) := fun env he b hb => .tail _ (List.mem_filterMap.mpr ⟨env, he, hb⟩)
  have hbe : base.get? e = none := fresh_of_stays K.stays P.2.2
  have st : base.StaysIn (hideAll s'.heap (e :: (envOf name scope L a cd :: outer).filterMap (·.frame))) := fun b o q => hideAll_get _ (K'.stays b o q) fun hm => by
    rcases List.mem_cons.mp hm with rfl | hm
    · rw [hbe] at q; cases q
    · rw [(K'.frames.mem hm).1] at q; cases q
  have hl : ∀ q ∈ news', (hideAll s'.heap (e :: (envOf name scope L a cd :: outer).filterMap (·.frame))).get? q.1 = some q.2 ∧ base.get? q.1 = none := fun q hq => by
    obtain ⟨hq1, hq2⟩ := hsub q hq
    refine ⟨hideAll_get _ (N q hq1).1 fun hm => ?_, fresh_of_stays K.stays (N q hq1).2.2⟩
    rcases List.mem_cons.mp hm with hm | hm
    · exact hq2 hm
    obtain ⟨env, he, hf⟩ := List.mem_filterMap.mp hm
    rcases List.mem_cons.mp he with rfl | he
    · exact (N q hq1).2.1 (Option.some.inj hf).symm
    · obtain ⟨o, ho, _⟩ := (K.frames.mem (List.mem_filterMap.mpr ⟨env, he, hf⟩)).2
      rw [(N q hq1).2.2] at ho; cases ho
  have hen : (hideAll s'.heap (e :: (envOf name scope L a cd :: outer).filterMap (·.frame))).get? e = none := hideAll_none _ (.head _)
  refine wpAny_leaving_firstW (a0 := .ref t) K'.stack (funFrames_hide K'.frames hin) rfl P.1 (fun b o hb => of_hideAll _ hb) hen rfl rfl rfl fun h' hL => ?_
  obtain ⟨k1, ⟨_, _, k2⟩, k3, k4⟩ := hL
  exact hQ h' ⟨_, .ref t, st, hl, k1, hen, k2, k3⟩ ((Heap.UpToSlots.of_keeps F.keep).trans k4)
end
section
variable {prog : Program} {w : World} {A₀ : Around} {E : Value → Shared → Prop} {s' : Shared} {h₀ h : Heap} {outer : List Env} {L a e : Addr} {m : Str → Option Value} {name : Str} {scope : Scope} {cd : Value}
  {b₀ : Stmt} {suite : List Stmt} {pos np : Pos} {rest : List ExceptHandler} {Q : Flow → Shared → Prop} {news : List (Addr × Obj)} {KF : Frag} {C D : Addr}
  {p : Program} {loose : List Str} {mg mb : Str → Option Value} {x : Str}
theorem caughtX (K : Below A₀ h₀ outer h₀) (F : Fr h₀ L h m) (hsm : h.UpToSlots s'.heap) (R : RaisedN h₀ (envOf name scope L a cd :: outer) e (.ref C) news s'.heap)
    (X : KF.In h₀) (T : TopRead p loose mg mb h₀) (ex : nsIn KF mainGlobals x = some (some (.ref C))) (q : exOk KF C D = true)
    (k : ∀ h', Fr h₀ L h' m → News h₀ L h' news →
      wpAny (model prog w) ((A₀.deeper (envOf name scope L a cd)).mark (some (.ref e))) (execs (b₀ :: suite) (envOf name scope L a cd)) Q E { s' with heap := h' })
    (hk : scope.kind = .function := by rfl) (hx : (envOf name scope L a cd).kindOf x = some .globalImplicit := by rfl) (hd : (x == ("__debug__" : Str)) = false := by decide)
    (hE : PassesOwnAt (model prog w) ((A₀.deeper (envOf name scope L a cd)).mark (some (.ref e))) (A₀.deeper (envOf name scope L a cd)) (envOf name scope L a cd) E := by passes_own) :
    wpAny (model prog w) (A₀.deeper (envOf name scope L a cd)) (noteFrame (.ref e) (envOf name scope L a cd))
      (fun _ s₂ => wpAny (model prog w) (A₀.deeper (envOf name scope L a cd)) (setFlight (.ref e) none) (fun _ s₃ =>
        wpAny (model prog w) (A₀.deeper (envOf name scope L a cd)) (handleBy (.ref e) (envOf name scope L a cd) (.ExceptHandler (some (.Name x np)) none (b₀ :: suite) pos :: rest)) Q E s₃) E s₂) E s' := by
  obtain ⟨B, a0, hB, hl, hfl⟩ := R
  have hL : B.get? L = none := by
    obtain ⟨_, ⟨L', _, hf, hn', _⟩, _⟩ := hfl.2.2.1
    obtain rfl : L = L' := Option.some.inj hf
    exact hn'
  refine wpAny_looks_onW (Around.frames_deeper K.stack) rfl hfl fun h₄ hheld₄ hsm₄ => ?_
  refine wpAny_landsW hheld₄ fun h₅ hheld hsm₅' => ?_
  have hsm₅ := hsm₄.trans hsm₅'
  have hheld' := flyingW_base hB hheld
  have F₅ := F.of_stays hheld'.1 (hsm.trans hsm₅)
  obtain ⟨ob, hob, hobc⟩ := hheld'.there
  refine wpAny_handleBy_cons (codeAny_handlers_test (name_K F₅ X T ex ?_ hk hx hd)) (by intro q; cases q)
  obtain ⟨nm, qn, N₁, bs, sn, sub, ab, col, dd, k0, k1, k2, k3, k5, hC⟩ := exObj (X.keeps F₅.keep) q
  refine wpAny_excMatches_sub_self hC hob hobc (by rw [bmX, List.contains_cons]; rfl) (codeAny_handlers_suite ?_)
  refine lands_againW hheld fun h₆ hfl₆ hsm₆ => ?_
  have F₆ := F.of_stays (flyingW_base hB hfl₆).1 ((hsm.trans hsm₅).trans hsm₆)
  exact wpAny_passesOwnAt hE (k h₆ F₆ fun q hq => ⟨hfl₆.1 _ _ (hl q hq).1, (fun z => by have := (hl q hq).1; rw [z, hL] at this; cases this), (hl q hq).2⟩)
end
end PB
end
section
open PySem PySem.W PyProof.Rows PySem.Calls PySem.Spec PyProof.V
namespace PB

local macro_rules | `(tactic| k_steps) => `(tactic| repeat' (first | (k_unfold; (try dsimp only)) | (k_end; wrow_close) | (with_reducible refine tok_new ?_; intro tk) | walk1 | (dsimp only; walk1) | (leave1; try dsimp only) | fail "no step"))
local macro_rules | `(tactic| k_all) => `(tactic| with_reducible assumption)
local macro_rules | `(tactic| k_ne) => `(tactic| first | with_reducible assumption | with_reducible exact Ne.symm (by with_reducible assumption) | with_reducible exact ltN_ne (by with_reducible assumption) | with_reducible exact Ne.symm (ltN_ne (by with_reducible assumption)) | (refine neN ?_; (try dsimp only); omega))
local macro_rules | `(tactic| k_lt $h:ident) => `(tactic| (replace $h := allLtN_of $h; simp only [AllLtN, and_true] at $h:ident; repeat (have lq := And.left $h; replace $h := And.right $h)))
local macro_rules | `(tactic| k_lt2 $h:ident) => `(tactic| replace $h := ltN_of $h)
local macro_rules | `(tactic| k_mem) => `(tactic| first | exact List.Mem.head _ | (refine' List.Mem.tail _ ?_; k_mem) | with_reducible assumption | assumption)
local macro_rules | `(tactic| k_all) => `(tactic| first | (refine' allLt_ne ?_; with_reducible assumption))
local macro_rules | `(tactic| walk_at "setItem ref int") => `(tactic| (k_here; (with_reducible show wpAny _ _ (setItem (Value.ref _) (Value.int 1 _) _) _ _ _); k_dflt (refine' set_two ?k1 ?k2 ?k3 ?_; (case k1 => k_asm); (case k2 => k_asm); (case k3 => k_upd); k_whole); intro h' F' N'; (try k_sweep)))
local macro_rules | `(tactic| walk_at "call ref") => `(tactic| (k_here; (with_reducible show wpAny _ (Around.deeper callerA _) (call (Value.ref 195) _ _) _ _ _); k_dflt (refine' draw_callU ?k1 ?k2 ?k3 ?k4 ?k5 ?k6 ?k7 ?k8 ?k9 ?k10 ?k11 ?k12 ?k13 ?k14 ?k15 ?k16 ?_; (case k1 => k_asm); (case k2 => k_asm); (case k3 => k_asm); (case k4 => k_asm); (case k5 => k_asm); (case k6 => k_asm); (case k7 => k_updF); (case k8 => k_mem); (case k9 => k_ne); (case k10 => k_asm); (case k11 => k_asm); (case k12 => k_asm); (case k13 => first | k_asm | omega); (case k14 => first | exact Int.le_trans (by assumption) (by decide) | omega); (case k15 => decide); (case k16 => decide); k_whole; intro h' tk' t' t2' v' F' N' dlo' dhi'; (try dsimp only at N'); (try k_sweep))))
local macro_rules | `(tactic| walk_at "subscriptTail") => `(tactic| (k_here; (with_reducible show wpAny _ _ (subscriptTail _ _ (Value.ref _) (Value.int (-1) _)) _ _ _); k_dflt (refine' last_sub ?k1 ?k2 ?_ ?k3 ?k4 ?k5; (case k1 => k_asm); (case k2 => k_mem); (case k3 => simp only [List.length_map]; omega); (case k4 => with_unfolding_all rfl); (case k5 => (intro _; with_unfolding_all rfl)); k_whole)))
local macro_rules | `(tactic| walk_at "call builtin:list.pop") => `(tactic| (k_here; (with_reducible show wpAny _ _ (call (Value.builtin _) [Value.ref _]) _ _ _); k_dflt (refine' pop_last ?k1 ?k2 ?k3 ?k4 ?_; (case k1 => k_asm); (case k2 => k_asm); (case k3 => k_upd); (case k4 => simp only [List.length_map]; omega); k_whole); intro h' F' N'; (try k_sweep)))
local macro_rules | `(tactic| walk_at "call builtin:list.append") => `(tactic| (k_here; (with_reducible show wpAny _ _ (call (Value.builtin _) [Value.ref _, _]) _ _ _); k_dflt (refine' append_last ?k1 ?k2 ?k3 ?k4 ?_; (case k1 => k_asm); (case k2 => k_asm); (case k3 => k_upd); (case k4 => (simp only [List.length_map, List.length_append, List.length_singleton]; omega)); k_whole); intro h' F' N'; (try k_sweep)))
local macro_rules | `(tactic| walk_at "setItem ref int") => `(tactic| (k_here; (with_reducible show wpAny _ _ (setItem (Value.ref _) (Value.int _ _) (Value.int _ _)) _ _ _); k_dflt (refine' kdf_setItem ?k1 ?k2 ?k3 ?k4 ?k5 ?k6 ?_; (case k1 => k_asm); (case k2 => k_asm); (case k3 => k_updF); (case k4 => k_asm); (case k5 => k_asm); (case k6 => k_asm)); intro h' o' kvs' F' N' hd' hf'; (try dsimp only at N'); (try k_sweep)))
local macro_rules | `(tactic| walk_at "subscriptTail") => `(tactic| (k_here; (with_reducible show wpAny _ _ (subscriptTail _ _ (Value.ref _) (Value.int _ _)) _ _ _); k_dflt (refine kdf_item (by k_tabat) (has_of_look (by assumption)) ?_); intro _))
local macro_rules | `(tactic| walk_at "call builtin:len") => `(tactic| (k_here; (with_reducible show wpAny _ _ (call (Value.builtin "len") [Value.ref _]) _ _ _); k_dflt (refine' len_any ?k1 ?k2 ?k3 ?k4 ?_; (case k1 => k_asm); (case k2 => k_mem); (case k3 => (simp only [List.size_toArray, List.length_append, List.length_map, List.length_cons, List.length_nil]; rfl)); (case k4 => omega); k_whole)))
theorem open_leave {w : World} {x : Cx} {y : Sx} {own : List (Addr × Obj)} {i : List Row} {t : Row} {h₀ h : Heap} {L : Addr} (hx : x.Ok) (hy : y.Ok w x own) (e : y.rows = i ++ [t]) (N : News h₀ L h (x.led w y ++ own)) :
    ∃ R : List (Addr × Obj), News h₀ L h ((x.mcd, dictOf [ent w "code" x.m1 (.ref x.cd), ent w "deeds" x.m2 .none, ent w "place" x.m3 (.int y.place y.tpl), ent w "stack" x.m4 (.ref x.sk), ent w "frames" x.m5 (.ref x.fl), ent w "key" x.m6 (.str (Str.ofString "") x.v6), ent w "word" x.m7 (.str (Str.ofString "") x.v7)] 7) :: (x.fl, listOf ((i.map fun r => Value.ref r.fa) ++ [Value.ref t.fa]).toArray y.nf) :: (x.pl, listOf ((i.map fun r => Value.ref r.pt) ++ [Value.ref t.pt]).toArray y.np) :: R) ∧ (∀ p ∈ rowsL w i ++ own, p ∈ R) ∧ (x.tp, listOf #[.ref x.cs, .int y.draws y.ta] x.n1) ∈ R ∧ (x.cs, listOf x.ws.toArray x.c1) ∈ R ∧ (x.bg, tupObj #[.int 0 x.b1, .int 5 x.b2, .int 9 x.b3, .int 14 x.b4]) ∈ R ∧ (x.cd, instObj 184 x.cdd) ∈ R ∧ (x.cdd, dictOf [ent w "ops" x.c2 (.ref x.op), ent w "begins" x.c3 (.ref x.bg)] 2) ∈ R ∧ (x.mc, instObj 128 x.mcd) ∈ R ∧ (x.sk, listOf #[] y.ne) ∈ R ∧ (t.fa, instObj 100 t.fd) ∈ R ∧ (t.fd, dictOf [ent w "last" t.t1 (.int t.last t.t2), ent w "behind" t.t3 (.int t.behind t.t4), ent w "slots" t.t5 (.ref t.sd)] 3) ∈ R ∧ (t.sd, t.so) ∈ R ∧ (t.pt, tupObj #[.int t.last t.t6, .int t.behind t.t7, .ref t.pd]) ∈ R ∧ (t.pd, t.po) ∈ R ∧ (∀ p ∈ R, p.1 ≠ x.mcd) ∧ (∀ p ∈ R, p.1 ≠ x.fl) ∧ (∀ p ∈ R, p.1 ≠ x.pl) := by
  have ⟨p1, p2, p3, p4, p5, q1, q2, q3, q4, q5, r1, r2, r3, r4, r5, s1, s2, s4, s5, s6, s7, s8⟩ := hy.apart5 e
  have ⟨u1, u2, u3, u4, u5, u6, u7⟩ := hy.apartR hx e
  have N := open_led e N
  have z0 := ltN_of hx.tp_mcd
  have z1 := ltN_of hx.cs_mcd
  have z2 := ltN_of hx.bg_mcd
  have z3 := ltN_of hx.cd_mcd
  have z4 := ltN_of hx.cdd_mcd
  have z5 := ltN_of hx.mcd_mc
  have z6 := ltN_of hx.mcd_sk
  have z7 := ltN_of (Nat.lt_trans hx.mcd_sk p1)
  have z8 := ltN_of (Nat.lt_trans hx.mcd_sk p2)
  have z9 := ltN_of (Nat.lt_trans hx.mcd_sk p3)
  have z10 := ltN_of (Nat.lt_trans hx.mcd_sk p4)
  have z11 := ltN_of (Nat.lt_trans hx.mcd_sk p5)
  have z12 := ltN_of hx.tp_fl
  have z13 := ltN_of hx.cs_fl
  have z14 := ltN_of hx.bg_fl
  have z15 := ltN_of hx.cd_fl
  have z16 := ltN_of hx.cdd_fl
  have z17 := ltN_of hx.mc_fl
  have z18 := ltN_of hx.sk_fl
  have z19 := ltN_of hx.tp_pl
  have z20 := ltN_of hx.cs_pl
  have z21 := ltN_of hx.bg_pl
  have z22 := ltN_of hx.cd_pl
  have z23 := ltN_of hx.cdd_pl
  have z24 := ltN_of hx.mc_pl
  have z25 := ltN_of hx.sk_pl
  generalize rowsL w i ++ own = R0 at *
  refine ⟨(x.tp, listOf #[.ref x.cs, .int y.draws y.ta] x.n1) :: (x.cs, listOf x.ws.toArray x.c1) :: (x.bg, tupObj #[.int 0 x.b1, .int 5 x.b2, .int 9 x.b3, .int 14 x.b4]) :: (x.cd, instObj 184 x.cdd) :: (x.cdd, dictOf [ent w "ops" x.c2 (.ref x.op), ent w "begins" x.c3 (.ref x.bg)] 2) :: (x.mc, instObj 128 x.mcd) :: (x.sk, listOf #[] y.ne) :: (t.fa, instObj 100 t.fd) :: (t.fd, dictOf [ent w "last" t.t1 (.int t.last t.t2), ent w "behind" t.t3 (.int t.behind t.t4), ent w "slots" t.t5 (.ref t.sd)] 3) :: (t.sd, t.so) :: (t.pt, tupObj #[.int t.last t.t6, .int t.behind t.t7, .ref t.pd]) :: (t.pd, t.po) :: R0, kst_newsOf N ?_, fun p hp => ?_, by k_mem, by k_mem, by k_mem, by k_mem, by k_mem, by k_mem, by k_mem, by k_mem, by k_mem, by k_mem, by k_mem, by k_mem, ?_, ?_, ?_⟩
  · unfold Cx.openL
    repeat (refine List.forall_mem_cons.mpr ⟨by k_mem, ?_⟩)
    intro p hp
    repeat (first | exact hp | refine List.Mem.tail _ ?_)
  · repeat (first | exact hp | refine List.Mem.tail _ ?_)
  all_goals k_all

theorem leave_ok {w : World} {s₀ s : Shared} {mg mb : Str → Option Value} {x0 : Addr} {ob : Obj} {h₀ : Heap} {L fa cdv : Addr} {m : Str → Option Value} {own : List (Addr × Obj)} {x : Cx} {y : Sx} {deep : Bool} {place index last : Int} {ti tl tp : Tok}
    {E : Value → Shared → Prop} {Q : Flow → Shared → Prop}
    (X : (pbhd.heap_39 w.params).In h₀) (T : Top pbhd.view_39 (looseW pbhd.view_39 [Str.ofString "LedgerError"]) (ExcName.means s₀.heap) mg mb h₀) (M : BMod h₀ mainGlobals mg x0 ob)
    (B : Below callerA h₀ [] h₀)
    (F : Fr h₀ L s.heap m) (lo : Loc x deep m) (lp : m (Str.ofString "place") = some (.int place tp)) (li : m (Str.ofString "index") = some (.int index ti)) (ll : m (Str.ofString "last") = some (.int last tl))
    (N : News h₀ L s.heap (x.led w y ++ own)) (hx : x.Ok) (hy : y.Ok w x own) (hpl : y.place = place) (i0 : 0 ≤ index) (i1 : index < 4) (l0 : 0 ≤ last) (l1 : last < 4) (hdr : y.draws ≤ 300)
    (h : ∀ h' tk m' y' due td, Fr h₀ L h' m' → Loc x deep m' → m' (Str.ofString "due") = some (.int due td) → News h₀ L h' (x.led w y' ++ own) → y'.Ok w x own → y'.place = due → y'.draws ≤ y.draws + 1 → Q .next { s with heap := h', toks := tk }) :
    wpAny (model P0 w) (lawA L fa cdv) (execs leaveBody (lawEnv L fa cdv)) Q E s := by
  w_top off
  have hfill : (PySem.Challenge.rw_pb0228_01, pbhd.heap_39) = (PySem.Challenge.rw_pb0228_01, pbhd.heap_39) := by k_fill; rfl
  clear hfill
  obtain ⟨hp, sg, sd, stk, sos⟩ := s
  dsimp only at F N h
  obtain ⟨i, t, e⟩ := snoc_of hy.head
  obtain ⟨R, N0, hR, n0, n1, n2, n3, n4, n5, n6, n7, n8, n9, n10, n11, v0, v1, v2⟩ := open_leave hx hy e N
  clear N
  have N := N0
  clear N0
  have hi := hx.hws
  have h0 := hx.pos
  have hlen := hx.len
  have z0 := ltN_of hx.mcd_fl
  have z1 := ltN_of hx.mcd_pl
  have z2 := ltN_of hx.fl_pl
  have hlen2 : i.length < 21 := by have := hy.len; rw [e] at this; simp at this; omega
  have hat := hy.at0
  have tok := hy.rows t (by rw [e]; simp)
  have hcl : t.c.length ≤ 16777216 := Nat.le_trans tok.small (by decide)
  have ⟨⟨kv, d1, d2⟩, ⟨kv', d3, d4⟩, d5, d6, d7, d8⟩ := tok
  have F := fr_names (ps := [(Str.ofString "place", .int place tp), (Str.ofString "index", .int index ti), (Str.ofString "machine", .ref x.mc), (Str.ofString "pile", .ref x.pl)]) (List.forall_mem_cons.mpr ⟨lp, List.forall_mem_cons.mpr ⟨li, List.forall_mem_cons.mpr ⟨lo.n3, List.forall_mem_cons.mpr ⟨lo.n2, List.forall_mem_nil _⟩⟩⟩⟩) F
  simp only [kstB] at F
  unfold lawA
  dsimp only [leaveBody, elif1, ifTest, ifElse, s4, turnBody, forStmt, lawBody, lawStmt, Challenge.pw_pb0228_01, List.getLast?, List.getLast, Option.getD, List.getElem?_cons_succ, List.getElem?_cons_zero]
  dsimp only [lawEnv, lawScope, lawStmt, Challenge.pw_pb0228_01, List.getLast?, List.getLast, Option.getD, List.getElem?_cons_succ, List.getElem?_cons_zero]
  k_steps
  all_goals (rename Fr _ _ _ _ => kF)
  all_goals (rename News _ _ _ _ => kN)
  · refine h _ _ _ { y with place := t.behind, tpl := t.t4, nf := y.nf + 1, np := y.np + 1, rows := i } _ _ kF ⟨lo.n1, rfl, rfl, lo.n4, lo.n5⟩ rfl ?_ (hy.pop e (by omega) rfl hy.at0) rfl (by show y.draws ≤ y.draws + 1; omega)
    refine kst_newsOf kN (List.forall_mem_append.mpr ⟨List.forall_mem_append.mpr ⟨?_, ?_⟩, ?_⟩)
    · unfold Cx.fixed
      repeat (refine List.forall_mem_cons.mpr ⟨by k_mem, ?_⟩)
      exact List.forall_mem_nil _
    · intro p hp
      have hp : p ∈ R := hR p (List.mem_append_left _ hp)
      repeat (first | exact hp | refine List.Mem.tail _ ?_)
    · intro p hp
      have hp : p ∈ R := hR p (List.mem_append_right _ hp)
      repeat (first | exact hp | refine List.Mem.tail _ ?_)
  · exfalso; omega
  · exfalso; omega
  · refine h _ _ _ y _ _ kF ⟨lo.n1, rfl, rfl, lo.n4, lo.n5⟩ rfl ?_ hy hpl (by omega)
    refine kst_newsOf kN (List.forall_mem_append.mpr ⟨List.forall_mem_append.mpr ⟨?_, ?_⟩, ?_⟩)
    · unfold Cx.fixed
      rw [e]
      simp only [List.map_append, List.map_cons, List.map_nil]
      repeat (refine List.forall_mem_cons.mpr ⟨by k_mem, ?_⟩)
      exact List.forall_mem_nil _
    · rw [e]
      rw [rowsL_snoc]
      refine List.forall_mem_append.mpr ⟨fun p hp => ?_, ?_⟩
      · have hp : p ∈ R := hR p (List.mem_append_left _ hp)
        repeat (first | exact hp | refine List.Mem.tail _ ?_)
      · unfold Row.objs
        repeat (refine List.forall_mem_cons.mpr ⟨by k_mem, ?_⟩)
        exact List.forall_mem_nil _
    · intro p hp
      have hp : p ∈ R := hR p (List.mem_append_right _ hp)
      repeat (first | exact hp | refine List.Mem.tail _ ?_)

end PB
end
section
open PySem PySem.W PyProof.Rows PySem.Calls PySem.Spec PyProof.V
namespace PB

local macro_rules | `(tactic| k_steps) => `(tactic| repeat' (first | (k_unfold; (try dsimp only)) | (k_end; wrow_close) | (with_reducible refine tok_new ?_; intro tk) | walk1 | (dsimp only; walk1) | (leave1; try dsimp only) | fail "no step"))
local macro_rules | `(tactic| k_all) => `(tactic| with_reducible assumption)
local macro_rules | `(tactic| k_ne) => `(tactic| first | with_reducible assumption | with_reducible exact Ne.symm (by with_reducible assumption) | with_reducible exact ltN_ne (by with_reducible assumption) | with_reducible exact Ne.symm (ltN_ne (by with_reducible assumption)) | (refine neN ?_; (try dsimp only); omega))
local macro_rules | `(tactic| k_lt $h:ident) => `(tactic| (replace $h := allLtN_of $h; simp only [AllLtN, and_true] at $h:ident; repeat (have lq := And.left $h; replace $h := And.right $h)))
local macro_rules | `(tactic| k_lt2 $h:ident) => `(tactic| replace $h := ltN_of $h)
local macro_rules | `(tactic| k_mem) => `(tactic| first | exact List.Mem.head _ | (refine' List.Mem.tail _ ?_; k_mem) | with_reducible assumption | assumption)
local macro_rules | `(tactic| k_all) => `(tactic| first | (refine' allLt_ne ?_; with_reducible assumption))
local macro_rules | `(tactic| walk_at "setItem ref int") => `(tactic| (k_here; (with_reducible show wpAny _ _ (setItem (Value.ref _) (Value.int 1 _) _) _ _ _); k_dflt (refine' set_two ?k1 ?k2 ?k3 ?_; (case k1 => k_asm); (case k2 => k_asm); (case k3 => k_upd); k_whole); intro h' F' N'; (try k_sweep)))
local macro_rules | `(tactic| walk_at "call ref") => `(tactic| (k_here; (with_reducible show wpAny _ (Around.deeper callerA _) (call (Value.ref 195) _ _) _ _ _); k_dflt (refine' draw_callU ?k1 ?k2 ?k3 ?k4 ?k5 ?k6 ?k7 ?k8 ?k9 ?k10 ?k11 ?k12 ?k13 ?k14 ?k15 ?k16 ?_; (case k1 => k_asm); (case k2 => k_asm); (case k3 => k_asm); (case k4 => k_asm); (case k5 => k_asm); (case k6 => k_asm); (case k7 => k_updF); (case k8 => k_mem); (case k9 => k_ne); (case k10 => k_asm); (case k11 => k_asm); (case k12 => k_asm); (case k13 => first | k_asm | omega); (case k14 => first | exact Int.le_trans (by assumption) (by decide) | omega); (case k15 => decide); (case k16 => decide); k_whole; intro h' tk' t' t2' v' F' N' dlo' dhi'; (try dsimp only at N'); (try k_sweep))))
local macro_rules | `(tactic| walk_at "subscriptTail") => `(tactic| (k_here; (with_reducible show wpAny _ _ (subscriptTail _ _ (Value.ref _) (Value.int (-1) _)) _ _ _); k_dflt (refine' last_sub ?k1 ?k2 ?_ ?k3 ?k4 ?k5; (case k1 => k_asm); (case k2 => k_mem); (case k3 => simp only [List.length_map]; omega); (case k4 => with_unfolding_all rfl); (case k5 => (intro _; with_unfolding_all rfl)); k_whole)))
local macro_rules | `(tactic| walk_at "call builtin:list.pop") => `(tactic| (k_here; (with_reducible show wpAny _ _ (call (Value.builtin _) [Value.ref _]) _ _ _); k_dflt (refine' pop_last ?k1 ?k2 ?k3 ?k4 ?_; (case k1 => k_asm); (case k2 => k_asm); (case k3 => k_upd); (case k4 => simp only [List.length_map]; omega); k_whole); intro h' F' N'; (try k_sweep)))
local macro_rules | `(tactic| walk_at "call builtin:list.append") => `(tactic| (k_here; (with_reducible show wpAny _ _ (call (Value.builtin _) [Value.ref _, _]) _ _ _); k_dflt (refine' append_last ?k1 ?k2 ?k3 ?k4 ?_; (case k1 => k_asm); (case k2 => k_asm); (case k3 => k_upd); (case k4 => (simp only [List.length_map, List.length_append, List.length_singleton]; omega)); k_whole); intro h' F' N'; (try k_sweep)))
local macro_rules | `(tactic| walk_at "setItem ref int") => `(tactic| (k_here; (with_reducible show wpAny _ _ (setItem (Value.ref _) (Value.int _ _) (Value.int _ _)) _ _ _); k_dflt (refine' kdf_setItem ?k1 ?k2 ?k3 ?k4 ?k5 ?k6 ?_; (case k1 => k_asm); (case k2 => k_asm); (case k3 => k_updF); (case k4 => k_asm); (case k5 => k_asm); (case k6 => k_asm)); intro h' o' kvs' F' N' hd' hf'; (try dsimp only at N'); (try k_sweep)))
local macro_rules | `(tactic| walk_at "subscriptTail") => `(tactic| (k_here; (with_reducible show wpAny _ _ (subscriptTail _ _ (Value.ref _) (Value.int _ _)) _ _ _); k_dflt (refine kdf_item (by k_tabat) (has_of_look (by assumption)) ?_); intro _))
local macro_rules | `(tactic| walk_at "call builtin:len") => `(tactic| (k_here; (with_reducible show wpAny _ _ (call (Value.builtin "len") [Value.ref _]) _ _ _); k_dflt (refine' len_any ?k1 ?k2 ?k3 ?k4 ?_; (case k1 => k_asm); (case k2 => k_mem); (case k3 => (simp only [List.size_toArray, List.length_append, List.length_map, List.length_cons, List.length_nil]; rfl)); (case k4 => omega); k_whole)))
theorem open_less {w : World} {x : Cx} {y : Sx} {own : List (Addr × Obj)} {i : List Row} {t : Row} {h₀ h : Heap} {L : Addr} (hx : x.Ok) (hy : y.Ok w x own) (e : y.rows = i ++ [t]) (N : News h₀ L h (x.led w y ++ own)) :
    ∃ R : List (Addr × Obj), News h₀ L h ((x.mcd, dictOf [ent w "code" x.m1 (.ref x.cd), ent w "deeds" x.m2 .none, ent w "place" x.m3 (.int y.place y.tpl), ent w "stack" x.m4 (.ref x.sk), ent w "frames" x.m5 (.ref x.fl), ent w "key" x.m6 (.str (Str.ofString "") x.v6), ent w "word" x.m7 (.str (Str.ofString "") x.v7)] 7) :: (t.sd, t.so) :: (t.pd, t.po) :: R) ∧ (∀ p ∈ rowsL w i ++ own, p ∈ R) ∧ (x.tp, listOf #[.ref x.cs, .int y.draws y.ta] x.n1) ∈ R ∧ (x.cs, listOf x.ws.toArray x.c1) ∈ R ∧ (x.bg, tupObj #[.int 0 x.b1, .int 5 x.b2, .int 9 x.b3, .int 14 x.b4]) ∈ R ∧ (x.cd, instObj 184 x.cdd) ∈ R ∧ (x.cdd, dictOf [ent w "ops" x.c2 (.ref x.op), ent w "begins" x.c3 (.ref x.bg)] 2) ∈ R ∧ (x.mc, instObj 128 x.mcd) ∈ R ∧ (x.sk, listOf #[] y.ne) ∈ R ∧ (x.fl, listOf ((i.map fun r => Value.ref r.fa) ++ [Value.ref t.fa]).toArray y.nf) ∈ R ∧ (x.pl, listOf ((i.map fun r => Value.ref r.pt) ++ [Value.ref t.pt]).toArray y.np) ∈ R ∧ (t.fa, instObj 100 t.fd) ∈ R ∧ (t.fd, dictOf [ent w "last" t.t1 (.int t.last t.t2), ent w "behind" t.t3 (.int t.behind t.t4), ent w "slots" t.t5 (.ref t.sd)] 3) ∈ R ∧ (t.pt, tupObj #[.int t.last t.t6, .int t.behind t.t7, .ref t.pd]) ∈ R ∧ (∀ p ∈ R, p.1 ≠ x.mcd) ∧ (∀ p ∈ R, p.1 ≠ t.sd) ∧ (∀ p ∈ R, p.1 ≠ t.pd) := by
  have ⟨p1, p2, p3, p4, p5, q1, q2, q3, q4, q5, r1, r2, r3, r4, r5, s1, s2, s4, s5, s6, s7, s8⟩ := hy.apart5 e
  have ⟨u1, u2, u3, u4, u5, u6, u7⟩ := hy.apartR hx e
  have N := open_led e N
  have z0 := ltN_of hx.tp_mcd
  have z1 := ltN_of hx.cs_mcd
  have z2 := ltN_of hx.bg_mcd
  have z3 := ltN_of hx.cd_mcd
  have z4 := ltN_of hx.cdd_mcd
  have z5 := ltN_of hx.mcd_mc
  have z6 := ltN_of hx.mcd_sk
  have z7 := ltN_of hx.mcd_fl
  have z8 := ltN_of hx.mcd_pl
  have z9 := ltN_of (Nat.lt_trans hx.mcd_sk p1)
  have z10 := ltN_of (Nat.lt_trans hx.mcd_sk p2)
  have z11 := ltN_of (Nat.lt_trans hx.mcd_sk p4)
  have z12 := ltN_of (Nat.lt_trans hx.tp_sk p3)
  have z13 := ltN_of (Nat.lt_trans hx.cs_sk p3)
  have z14 := ltN_of (Nat.lt_trans hx.bg_sk p3)
  have z15 := ltN_of (Nat.lt_trans hx.cd_sk p3)
  have z16 := ltN_of (Nat.lt_trans hx.cdd_sk p3)
  have z17 := ltN_of (Nat.lt_trans hx.mc_sk p3)
  have z18 := ltN_of p3
  have z19 := ltN_of (Nat.lt_trans hx.tp_sk p5)
  have z20 := ltN_of (Nat.lt_trans hx.cs_sk p5)
  have z21 := ltN_of (Nat.lt_trans hx.bg_sk p5)
  have z22 := ltN_of (Nat.lt_trans hx.cd_sk p5)
  have z23 := ltN_of (Nat.lt_trans hx.cdd_sk p5)
  have z24 := ltN_of (Nat.lt_trans hx.mc_sk p5)
  have z25 := ltN_of p5
  generalize rowsL w i ++ own = R0 at *
  refine ⟨(x.tp, listOf #[.ref x.cs, .int y.draws y.ta] x.n1) :: (x.cs, listOf x.ws.toArray x.c1) :: (x.bg, tupObj #[.int 0 x.b1, .int 5 x.b2, .int 9 x.b3, .int 14 x.b4]) :: (x.cd, instObj 184 x.cdd) :: (x.cdd, dictOf [ent w "ops" x.c2 (.ref x.op), ent w "begins" x.c3 (.ref x.bg)] 2) :: (x.mc, instObj 128 x.mcd) :: (x.sk, listOf #[] y.ne) :: (x.fl, listOf ((i.map fun r => Value.ref r.fa) ++ [Value.ref t.fa]).toArray y.nf) :: (x.pl, listOf ((i.map fun r => Value.ref r.pt) ++ [Value.ref t.pt]).toArray y.np) :: (t.fa, instObj 100 t.fd) :: (t.fd, dictOf [ent w "last" t.t1 (.int t.last t.t2), ent w "behind" t.t3 (.int t.behind t.t4), ent w "slots" t.t5 (.ref t.sd)] 3) :: (t.pt, tupObj #[.int t.last t.t6, .int t.behind t.t7, .ref t.pd]) :: R0, kst_newsOf N ?_, fun p hp => ?_, by k_mem, by k_mem, by k_mem, by k_mem, by k_mem, by k_mem, by k_mem, by k_mem, by k_mem, by k_mem, by k_mem, by k_mem, ?_, ?_, ?_⟩
  · unfold Cx.openL
    repeat (refine List.forall_mem_cons.mpr ⟨by k_mem, ?_⟩)
    intro p hp
    repeat (first | exact hp | refine List.Mem.tail _ ?_)
  · repeat (first | exact hp | refine List.Mem.tail _ ?_)
  all_goals k_all

theorem less_ok {w : World} {s₀ s : Shared} {mg mb : Str → Option Value} {x0 : Addr} {ob : Obj} {h₀ : Heap} {L fa cdv : Addr} {m : Str → Option Value} {own : List (Addr × Obj)} {x : Cx} {y : Sx} {deep : Bool} {place index last : Int} {ti tl tp : Tok}
    {E : Value → Shared → Prop} {Q : Flow → Shared → Prop}
    (X : (pbhd.heap_39 w.params).In h₀) (T : Top pbhd.view_39 (looseW pbhd.view_39 [Str.ofString "LedgerError"]) (ExcName.means s₀.heap) mg mb h₀) (M : BMod h₀ mainGlobals mg x0 ob)
    (B : Below callerA h₀ [] h₀)
    (F : Fr h₀ L s.heap m) (lo : Loc x deep m) (lp : m (Str.ofString "place") = some (.int place tp)) (li : m (Str.ofString "index") = some (.int index ti)) (ll : m (Str.ofString "last") = some (.int last tl))
    (N : News h₀ L s.heap (x.led w y ++ own)) (hx : x.Ok) (hy : y.Ok w x own) (hpl : y.place = place) (i0 : 0 ≤ index) (i1 : index < 4) (l0 : 0 ≤ last) (l1 : last < 4) (hdr : y.draws ≤ 300)
    (h : ∀ h' tk m' y' due td, Fr h₀ L h' m' → Loc x deep m' → m' (Str.ofString "due") = some (.int due td) → News h₀ L h' (x.led w y' ++ own) → y'.Ok w x own → y'.place = due → y'.draws ≤ y.draws + 1 → Q .next { s with heap := h', toks := tk }) :
    wpAny (model P0 w) (lawA L fa cdv) (execs lessBody (lawEnv L fa cdv)) Q E s := by
  w_top off
  have hfill : (PySem.Challenge.rw_pb0228_01, pbhd.heap_39) = (PySem.Challenge.rw_pb0228_01, pbhd.heap_39) := by k_fill; rfl
  clear hfill
  obtain ⟨hp, sg, sd, stk, sos⟩ := s
  dsimp only at F N h
  obtain ⟨i, t, e⟩ := snoc_of hy.head
  obtain ⟨R, N0, hR, n0, n1, n2, n3, n4, n5, n6, n7, n8, n9, n10, n11, v0, v1, v2⟩ := open_less hx hy e N
  clear N
  have N := N0
  clear N0
  have hi := hx.hws
  have h0 := hx.pos
  have hlen := hx.len
  have z0 := ltN_of (Nat.lt_trans hx.mcd_sk (hy.apart5 e).p3)
  have z1 := ltN_of (Nat.lt_trans hx.mcd_sk (hy.apart5 e).p5)
  have z2 := (hy.apart5 e).s5
  have hlen2 : i.length < 21 := by have := hy.len; rw [e] at this; simp at this; omega
  have hat := hy.at0
  have tok := hy.rows t (by rw [e]; simp)
  have hcl : t.c.length ≤ 16777216 := Nat.le_trans tok.small (by decide)
  have ⟨⟨kv, d1, d2⟩, ⟨kv', d3, d4⟩, d5, d6, d7, d8⟩ := tok
  have F := fr_names (ps := [(Str.ofString "place", .int place tp), (Str.ofString "index", .int index ti), (Str.ofString "last", .int last tl), (Str.ofString "machine", .ref x.mc), (Str.ofString "pile", .ref x.pl)]) (List.forall_mem_cons.mpr ⟨lp, List.forall_mem_cons.mpr ⟨li, List.forall_mem_cons.mpr ⟨ll, List.forall_mem_cons.mpr ⟨lo.n3, List.forall_mem_cons.mpr ⟨lo.n2, List.forall_mem_nil _⟩⟩⟩⟩⟩) F
  simp only [kstB] at F
  unfold lawA
  dsimp only [lessBody, elif2, elif1, ifTest, ifElse, s4, turnBody, forStmt, lawBody, lawStmt, Challenge.pw_pb0228_01, List.getLast?, List.getLast, Option.getD, List.getElem?_cons_succ, List.getElem?_cons_zero]
  dsimp only [lawEnv, lawScope, lawStmt, Challenge.pw_pb0228_01, List.getLast?, List.getLast, Option.getD, List.getElem?_cons_succ, List.getElem?_cons_zero]
  k_steps
  all_goals (rename Fr _ _ _ _ => kF)
  all_goals (rename News _ _ _ _ => kN)
  · refine h _ _ _ { y with rows := i ++ [{ t with so := ?so, po := ?po, c := kdfPut t.c index (kdfLook t.c index 0 - 1) }] } _ _ kF ⟨lo.n1, rfl, rfl, lo.n4, lo.n5⟩ rfl ?news (hy.turn e rfl ?ok rfl rfl hy.at0) hpl (by show y.draws ≤ y.draws + 1; omega)
    case news =>
      refine kst_newsOf kN (List.forall_mem_append.mpr ⟨List.forall_mem_append.mpr ⟨?_, ?_⟩, ?_⟩)
      · unfold Cx.fixed
        skip
        simp only [List.map_append, List.map_cons, List.map_nil]
        repeat (refine List.forall_mem_cons.mpr ⟨by k_mem, ?_⟩)
        exact List.forall_mem_nil _
      · skip
        rw [rowsL_snoc]
        refine List.forall_mem_append.mpr ⟨fun p hp => ?_, ?_⟩
        · have hp : p ∈ R := hR p (List.mem_append_left _ hp)
          repeat (first | exact hp | refine List.Mem.tail _ ?_)
        · unfold Row.objs
          repeat (refine List.forall_mem_cons.mpr ⟨by k_mem, ?_⟩)
          exact List.forall_mem_nil _
      · intro p hp
        have hp : p ∈ R := hR p (List.mem_append_right _ hp)
        repeat (first | exact hp | refine List.Mem.tail _ ?_)
    case ok => exact ⟨⟨_, by assumption, by assumption⟩, ⟨_, by assumption, by assumption⟩, d5, d6, put_nodup d7 _ _, put_keys d8 i0 i1 _⟩
  · refine h _ _ _ { y with place := 40 + last, tpl := ?tpl } _ _ kF ⟨lo.n1, rfl, rfl, lo.n4, lo.n5⟩ rfl ?news (hy.same rfl hy.at0) rfl (by show y.draws ≤ y.draws + 1; omega)
    case news =>
      refine kst_newsOf kN (List.forall_mem_append.mpr ⟨List.forall_mem_append.mpr ⟨?_, ?_⟩, ?_⟩)
      · unfold Cx.fixed
        rw [e]
        simp only [List.map_append, List.map_cons, List.map_nil]
        repeat (refine List.forall_mem_cons.mpr ⟨by k_mem, ?_⟩)
        exact List.forall_mem_nil _
      · rw [e]
        rw [rowsL_snoc]
        refine List.forall_mem_append.mpr ⟨fun p hp => ?_, ?_⟩
        · have hp : p ∈ R := hR p (List.mem_append_left _ hp)
          repeat (first | exact hp | refine List.Mem.tail _ ?_)
        · unfold Row.objs
          repeat (refine List.forall_mem_cons.mpr ⟨by k_mem, ?_⟩)
          exact List.forall_mem_nil _
      · intro p hp
        have hp : p ∈ R := hR p (List.mem_append_right _ hp)
        repeat (first | exact hp | refine List.Mem.tail _ ?_)

end PB
end
section
open PySem PySem.W PyProof.Rows PySem.Calls PySem.Spec PyProof.V
namespace PB

local macro_rules | `(tactic| k_steps) => `(tactic| repeat' (first | (k_unfold; (try dsimp only)) | (k_end; wrow_close) | (with_reducible refine tok_new ?_; intro tk) | walk1 | (dsimp only; walk1) | (leave1; try dsimp only) | fail "no step"))
local macro_rules | `(tactic| k_all) => `(tactic| with_reducible assumption)
local macro_rules | `(tactic| k_ne) => `(tactic| first | with_reducible assumption | with_reducible exact Ne.symm (by with_reducible assumption) | with_reducible exact ltN_ne (by with_reducible assumption) | with_reducible exact Ne.symm (ltN_ne (by with_reducible assumption)) | (refine neN ?_; (try dsimp only); omega))
local macro_rules | `(tactic| k_lt $h:ident) => `(tactic| (replace $h := allLtN_of $h; simp only [AllLtN, and_true] at $h:ident; repeat (have lq := And.left $h; replace $h := And.right $h)))
local macro_rules | `(tactic| k_lt2 $h:ident) => `(tactic| replace $h := ltN_of $h)
local macro_rules | `(tactic| k_mem) => `(tactic| first | exact List.Mem.head _ | (refine' List.Mem.tail _ ?_; k_mem) | with_reducible assumption | assumption)
local macro_rules | `(tactic| k_all) => `(tactic| first | (refine' allLt_ne ?_; with_reducible assumption))
local macro_rules | `(tactic| walk_at "setItem ref int") => `(tactic| (k_here; (with_reducible show wpAny _ _ (setItem (Value.ref _) (Value.int 1 _) _) _ _ _); k_dflt (refine' set_two ?k1 ?k2 ?k3 ?_; (case k1 => k_asm); (case k2 => k_asm); (case k3 => k_upd); k_whole); intro h' F' N'; (try k_sweep)))
local macro_rules | `(tactic| walk_at "call ref") => `(tactic| (k_here; (with_reducible show wpAny _ (Around.deeper callerA _) (call (Value.ref 195) _ _) _ _ _); k_dflt (refine' draw_callU ?k1 ?k2 ?k3 ?k4 ?k5 ?k6 ?k7 ?k8 ?k9 ?k10 ?k11 ?k12 ?k13 ?k14 ?k15 ?k16 ?_; (case k1 => k_asm); (case k2 => k_asm); (case k3 => k_asm); (case k4 => k_asm); (case k5 => k_asm); (case k6 => k_asm); (case k7 => k_updF); (case k8 => k_mem); (case k9 => k_ne); (case k10 => k_asm); (case k11 => k_asm); (case k12 => k_asm); (case k13 => first | k_asm | omega); (case k14 => first | exact Int.le_trans (by assumption) (by decide) | omega); (case k15 => decide); (case k16 => decide); k_whole; intro h' tk' t' t2' v' F' N' dlo' dhi'; (try dsimp only at N'); (try k_sweep))))
local macro_rules | `(tactic| walk_at "subscriptTail") => `(tactic| (k_here; (with_reducible show wpAny _ _ (subscriptTail _ _ (Value.ref _) (Value.int (-1) _)) _ _ _); k_dflt (refine' last_sub ?k1 ?k2 ?_ ?k3 ?k4 ?k5; (case k1 => k_asm); (case k2 => k_mem); (case k3 => simp only [List.length_map]; omega); (case k4 => with_unfolding_all rfl); (case k5 => (intro _; with_unfolding_all rfl)); k_whole)))
local macro_rules | `(tactic| walk_at "call builtin:list.pop") => `(tactic| (k_here; (with_reducible show wpAny _ _ (call (Value.builtin _) [Value.ref _]) _ _ _); k_dflt (refine' pop_last ?k1 ?k2 ?k3 ?k4 ?_; (case k1 => k_asm); (case k2 => k_asm); (case k3 => k_upd); (case k4 => simp only [List.length_map]; omega); k_whole); intro h' F' N'; (try k_sweep)))
local macro_rules | `(tactic| walk_at "call builtin:list.append") => `(tactic| (k_here; (with_reducible show wpAny _ _ (call (Value.builtin _) [Value.ref _, _]) _ _ _); k_dflt (refine' append_last ?k1 ?k2 ?k3 ?k4 ?_; (case k1 => k_asm); (case k2 => k_asm); (case k3 => k_upd); (case k4 => (simp only [List.length_map, List.length_append, List.length_singleton]; omega)); k_whole); intro h' F' N'; (try k_sweep)))
local macro_rules | `(tactic| walk_at "setItem ref int") => `(tactic| (k_here; (with_reducible show wpAny _ _ (setItem (Value.ref _) (Value.int _ _) (Value.int _ _)) _ _ _); k_dflt (refine' kdf_setItem ?k1 ?k2 ?k3 ?k4 ?k5 ?k6 ?_; (case k1 => k_asm); (case k2 => k_asm); (case k3 => k_updF); (case k4 => k_asm); (case k5 => k_asm); (case k6 => k_asm)); intro h' o' kvs' F' N' hd' hf'; (try dsimp only at N'); (try k_sweep)))
local macro_rules | `(tactic| walk_at "subscriptTail") => `(tactic| (k_here; (with_reducible show wpAny _ _ (subscriptTail _ _ (Value.ref _) (Value.int _ _)) _ _ _); k_dflt (refine kdf_item (by k_tabat) (has_of_look (by assumption)) ?_); intro _))
local macro_rules | `(tactic| walk_at "call builtin:len") => `(tactic| (k_here; (with_reducible show wpAny _ _ (call (Value.builtin "len") [Value.ref _]) _ _ _); k_dflt (refine' len_any ?k1 ?k2 ?k3 ?k4 ?_; (case k1 => k_asm); (case k2 => k_mem); (case k3 => (simp only [List.size_toArray, List.length_append, List.length_map, List.length_cons, List.length_nil]; rfl)); (case k4 => omega); k_whole)))
local macro_rules | `(tactic| walk_at "newTuple") => `(tactic| (k_here; k_dflt (refine' kup_newTuple ?F ?N ?_ ?z; (case F => k_asm); (case N => k_asm); (case z => kmk_size)); intro D' h' F' N' l1; (try k_lt l1); (try k_sweep)))

def val (u : Int) : Int := if 0 ≤ u then u.fdiv 10 else -((-u).fdiv 10)
theorem vB1 {u : Int} (b : 0 ≤ u) : u.fdiv 10 = val u := by rw [val, if_pos b]
theorem vB2 {u : Int} (b : ¬ 0 ≤ u) : -((-u).fdiv 10) = val u := by rw [val, if_neg b]
theorem p10 : (10 : Int) ^ ((1 : Int) - 0).toNat = 10 := by decide
theorem p0 : (10 : Int) ^ ((0 : Int) - 0).toNat = 1 := by decide
theorem fd10 (u : Int) : u.fdiv 10 = u / 10 := Int.fdiv_eq_ediv_of_nonneg _ (by decide)
theorem vA1 {u : Int} (a : (decide (u < 0) != decide ((10 : Int) ^ ((1 : Int) - 0).toNat < 0)) = true) :
    -(if u < 0 then -u else u).fdiv (if (10 : Int) ^ ((1 : Int) - 0).toNat < 0 then -10 ^ ((1 : Int) - 0).toNat else 10 ^ ((1 : Int) - 0).toNat) = val u := by
  rw [p10] at *
  by_cases h : u < 0
  · rw [if_pos h, if_neg (by decide), val, if_neg (by omega)]
  · simp [h] at a
theorem vA2 {u : Int} (a : (decide (u < 0) != decide ((10 : Int) ^ ((1 : Int) - 0).toNat < 0)) = false) :
    (if u < 0 then -u else u).fdiv (if (10 : Int) ^ ((1 : Int) - 0).toNat < 0 then -10 ^ ((1 : Int) - 0).toNat else 10 ^ ((1 : Int) - 0).toNat) = val u := by
  rw [p10] at *
  by_cases h : u < 0
  · simp [h] at a
  · rw [if_neg h, if_neg (by decide), val, if_pos (by omega)]
theorem vA3 {u : Int} (a : u.fmod 10 = 0) : u.fdiv 10 * 10 ^ ((0 : Int) - 0).toNat = val u := by
  rw [p0, val]
  have h := Int.fmod_eq_emod_of_nonneg u (show (0 : Int) ≤ 10 by decide)
  rw [fd10, fd10]
  split <;> omega
theorem meet {kvs : List (Int × Value)} {c : List (Int × Int)} {k A B : Int} (f : FlatPairs PyData.int kvs (kdfD (kdfPut c k A))) (e : A = B) : FlatPairs PyData.int kvs (kdfD (kdfPut c k B)) := e ▸ f
def cst (n : Nat) : Stmt := (countBody[n]?).getD (.Pass default)
theorem mem_two {m : Str → Option Value} {a b : Str} {u v : Value} (h1 : m a = some u) (h2 : m b = some v) : ∀ p ∈ [(a, u), (b, v)], m p.1 = some p.2 := by
  intro p hp
  simp only [List.mem_cons, List.not_mem_nil, or_false] at hp
  rcases hp with rfl | rfl <;> assumption
theorem open_count {w : World} {x : Cx} {y : Sx} {own : List (Addr × Obj)} {i : List Row} {t : Row} {h₀ h : Heap} {L : Addr} (hx : x.Ok) (hy : y.Ok w x own) (e : y.rows = i ++ [t]) (N : News h₀ L h (x.led w y ++ own)) :
    ∃ R : List (Addr × Obj), News h₀ L h ((x.tp, listOf #[.ref x.cs, .int y.draws y.ta] x.n1) :: (x.sk, listOf #[] y.ne) :: (t.sd, t.so) :: (t.pd, t.po) :: R) ∧ (∀ p ∈ rowsL w i ++ own, p ∈ R) ∧ (x.cs, listOf x.ws.toArray x.c1) ∈ R ∧ (x.bg, tupObj #[.int 0 x.b1, .int 5 x.b2, .int 9 x.b3, .int 14 x.b4]) ∈ R ∧ (x.cd, instObj 184 x.cdd) ∈ R ∧ (x.cdd, dictOf [ent w "ops" x.c2 (.ref x.op), ent w "begins" x.c3 (.ref x.bg)] 2) ∈ R ∧ (x.mc, instObj 128 x.mcd) ∈ R ∧ (x.mcd, dictOf [ent w "code" x.m1 (.ref x.cd), ent w "deeds" x.m2 .none, ent w "place" x.m3 (.int y.place y.tpl), ent w "stack" x.m4 (.ref x.sk), ent w "frames" x.m5 (.ref x.fl), ent w "key" x.m6 (.str (Str.ofString "") x.v6), ent w "word" x.m7 (.str (Str.ofString "") x.v7)] 7) ∈ R ∧ (x.fl, listOf ((i.map fun r => Value.ref r.fa) ++ [Value.ref t.fa]).toArray y.nf) ∈ R ∧ (x.pl, listOf ((i.map fun r => Value.ref r.pt) ++ [Value.ref t.pt]).toArray y.np) ∈ R ∧ (t.fa, instObj 100 t.fd) ∈ R ∧ (t.fd, dictOf [ent w "last" t.t1 (.int t.last t.t2), ent w "behind" t.t3 (.int t.behind t.t4), ent w "slots" t.t5 (.ref t.sd)] 3) ∈ R ∧ (t.pt, tupObj #[.int t.last t.t6, .int t.behind t.t7, .ref t.pd]) ∈ R ∧ (∀ p ∈ R, p.1 ≠ x.tp) ∧ (∀ p ∈ R, p.1 ≠ x.sk) ∧ (∀ p ∈ R, p.1 ≠ t.sd) ∧ (∀ p ∈ R, p.1 ≠ t.pd) := by
  have ⟨p1, p2, p3, p4, p5, q1, q2, q3, q4, q5, r1, r2, r3, r4, r5, s1, s2, s4, s5, s6, s7, s8⟩ := hy.apart5 e
  have ⟨u1, u2, u3, u4, u5, u6, u7⟩ := hy.apartR hx e
  have N := open_led e N
  have z0 := ltN_of hx.cs_tp
  have z1 := ltN_of hx.tp_bg
  have z2 := ltN_of hx.tp_cd
  have z3 := ltN_of hx.tp_cdd
  have z4 := ltN_of hx.tp_mc
  have z5 := ltN_of hx.tp_mcd
  have z6 := ltN_of hx.tp_fl
  have z7 := ltN_of hx.tp_pl
  have z8 := ltN_of (Nat.lt_trans hx.tp_sk p1)
  have z9 := ltN_of (Nat.lt_trans hx.tp_sk p2)
  have z10 := ltN_of (Nat.lt_trans hx.tp_sk p4)
  have z11 := ltN_of hx.cs_sk
  have z12 := ltN_of hx.bg_sk
  have z13 := ltN_of hx.cd_sk
  have z14 := ltN_of hx.cdd_sk
  have z15 := ltN_of hx.mc_sk
  have z16 := ltN_of hx.mcd_sk
  have z17 := ltN_of hx.sk_fl
  have z18 := ltN_of hx.sk_pl
  have z19 := ltN_of p1
  have z20 := ltN_of p2
  have z21 := ltN_of p4
  have z22 := ltN_of (Nat.lt_trans hx.cs_sk p3)
  have z23 := ltN_of (Nat.lt_trans hx.bg_sk p3)
  have z24 := ltN_of (Nat.lt_trans hx.cd_sk p3)
  have z25 := ltN_of (Nat.lt_trans hx.cdd_sk p3)
  have z26 := ltN_of (Nat.lt_trans hx.mc_sk p3)
  have z27 := ltN_of (Nat.lt_trans hx.mcd_sk p3)
  have z28 := ltN_of (Nat.lt_trans hx.cs_sk p5)
  have z29 := ltN_of (Nat.lt_trans hx.bg_sk p5)
  have z30 := ltN_of (Nat.lt_trans hx.cd_sk p5)
  have z31 := ltN_of (Nat.lt_trans hx.cdd_sk p5)
  have z32 := ltN_of (Nat.lt_trans hx.mc_sk p5)
  have z33 := ltN_of (Nat.lt_trans hx.mcd_sk p5)
  generalize rowsL w i ++ own = R0 at *
  refine ⟨(x.cs, listOf x.ws.toArray x.c1) :: (x.bg, tupObj #[.int 0 x.b1, .int 5 x.b2, .int 9 x.b3, .int 14 x.b4]) :: (x.cd, instObj 184 x.cdd) :: (x.cdd, dictOf [ent w "ops" x.c2 (.ref x.op), ent w "begins" x.c3 (.ref x.bg)] 2) :: (x.mc, instObj 128 x.mcd) :: (x.mcd, dictOf [ent w "code" x.m1 (.ref x.cd), ent w "deeds" x.m2 .none, ent w "place" x.m3 (.int y.place y.tpl), ent w "stack" x.m4 (.ref x.sk), ent w "frames" x.m5 (.ref x.fl), ent w "key" x.m6 (.str (Str.ofString "") x.v6), ent w "word" x.m7 (.str (Str.ofString "") x.v7)] 7) :: (x.fl, listOf ((i.map fun r => Value.ref r.fa) ++ [Value.ref t.fa]).toArray y.nf) :: (x.pl, listOf ((i.map fun r => Value.ref r.pt) ++ [Value.ref t.pt]).toArray y.np) :: (t.fa, instObj 100 t.fd) :: (t.fd, dictOf [ent w "last" t.t1 (.int t.last t.t2), ent w "behind" t.t3 (.int t.behind t.t4), ent w "slots" t.t5 (.ref t.sd)] 3) :: (t.pt, tupObj #[.int t.last t.t6, .int t.behind t.t7, .ref t.pd]) :: R0, kst_newsOf N ?_, fun p hp => ?_, by k_mem, by k_mem, by k_mem, by k_mem, by k_mem, by k_mem, by k_mem, by k_mem, by k_mem, by k_mem, by k_mem, ?_, ?_, ?_, ?_⟩
  · unfold Cx.openL
    repeat (refine List.forall_mem_cons.mpr ⟨by k_mem, ?_⟩)
    intro p hp
    repeat (first | exact hp | refine List.Mem.tail _ ?_)
  · repeat (first | exact hp | refine List.Mem.tail _ ?_)
  all_goals k_all
theorem cut0_ok {w : World} {s₀ s : Shared} {mg mb : Str → Option Value} {x0 : Addr} {ob : Obj} {h₀ : Heap} {L fa cdv : Addr} {m : Str → Option Value} {x : Cx} {y : Sx} {i : List Row} {t : Row} {R : List (Addr × Obj)} {deep : Bool} {place index : Int} {ti tp : Tok} {kv : List (Int × Value)}
    {E : Value → Shared → Prop} {Q : Flow → Shared → Prop}
    (X : (pbhd.heap_39 w.params).In h₀) (T : Top pbhd.view_39 (looseW pbhd.view_39 [Str.ofString "LedgerError"]) (ExcName.means s₀.heap) mg mb h₀) (M : BMod h₀ mainGlobals mg x0 ob)
    (B : Below callerA h₀ [] h₀)
    (F : Fr h₀ L s.heap m) (lo : Loc x deep m) (lp : m (Str.ofString "place") = some (.int place tp)) (li : m (Str.ofString "index") = some (.int index ti))
    (N : News h₀ L s.heap ((x.tp, listOf #[.ref x.cs, .int y.draws y.ta] x.n1) :: (x.sk, listOf #[] y.ne) :: (t.sd, t.so) :: (t.pd, t.po) :: R))
    (n0 : (x.cs, listOf x.ws.toArray x.c1) ∈ R) (n4 : (x.mc, instObj 128 x.mcd) ∈ R) (n5 : (x.mcd, dictOf [ent w "code" x.m1 (.ref x.cd), ent w "deeds" x.m2 .none, ent w "place" x.m3 (.int y.place y.tpl), ent w "stack" x.m4 (.ref x.sk), ent w "frames" x.m5 (.ref x.fl), ent w "key" x.m6 (.str (Str.ofString "") x.v6), ent w "word" x.m7 (.str (Str.ofString "") x.v7)] 7) ∈ R) (n6 : (x.fl, listOf ((i.map fun r => Value.ref r.fa) ++ [Value.ref t.fa]).toArray y.nf) ∈ R) (n8 : (t.fa, instObj 100 t.fd) ∈ R) (n9 : (t.fd, dictOf [ent w "last" t.t1 (.int t.last t.t2), ent w "behind" t.t3 (.int t.behind t.t4), ent w "slots" t.t5 (.ref t.sd)] 3) ∈ R)
    (v0 : ∀ p ∈ R, p.1 ≠ x.tp) (v1 : ∀ p ∈ R, p.1 ≠ x.sk) (v2 : ∀ p ∈ R, p.1 ≠ t.sd) (v3 : ∀ p ∈ R, p.1 ≠ t.pd)
    (z0 : LtN x.tp x.sk) (z1 : LtN x.tp t.sd) (z2 : LtN x.sk t.sd) (z3 : LtN x.tp t.pd) (z4 : LtN x.sk t.pd) (z5 : @Ne Nat t.pd t.sd) (zc : LtN x.cs x.tp)
    (d1 : t.so.IsDictOf (intKind P0 w) kv) (d2 : FlatPairs PyData.int kv (kdfD t.c)) (d5 : (t.sd == sysModules) = false) (d6 : (t.pd == sysModules) = false) (hcl : t.c.length ≤ 16777216)
    (hi : IntsAre x.ws x.ns) (h0 : 0 < x.ns.length) (hlen : x.ns.length ≤ 63) (hlen2 : i.length < 21) (hat : 0 ≤ y.draws) (hdr : y.draws ≤ 300)
    (h : ∀ h' tk m' ta ne so kvs u t1 t2 t3, Fr h₀ L h' m' → Loc x deep m' → m' (Str.ofString "due") = some (.int place t1) → m' (Str.ofString "index") = some (.int index t2) → m' (Str.ofString "units") = some (.int u t3) →
      News h₀ L h' ((x.tp, listOf #[.ref x.cs, .int (y.draws + 1) ta] x.n1) :: (x.sk, listOf #[] ne) :: (t.sd, so) :: (t.pd, t.po) :: R) → so.IsDictOf (intKind P0 w) kvs → FlatPairs PyData.int kvs (kdfD (kdfPut t.c index (val u))) → Q .next { s with heap := h', toks := tk }) :
    wpAny (model P0 w) (lawA L fa cdv) (execs [cst 0, cst 1, cst 2] (lawEnv L fa cdv)) Q E s := by
  w_top off
  have hfill : (PySem.Challenge.rw_pb0228_01, pbhd.heap_39) = (PySem.Challenge.rw_pb0228_01, pbhd.heap_39) := by k_fill; rfl
  clear hfill
  obtain ⟨hp, sg, sd, stk, sos⟩ := s
  dsimp only at F N h
  have F := fr_names (ps := [(Str.ofString "place", .int place tp), (Str.ofString "index", .int index ti), (Str.ofString "machine", .ref x.mc), (Str.ofString "tape", .ref x.tp)]) (List.forall_mem_cons.mpr ⟨lp, List.forall_mem_cons.mpr ⟨li, List.forall_mem_cons.mpr ⟨lo.n3, List.forall_mem_cons.mpr ⟨lo.n5, List.forall_mem_nil _⟩⟩⟩⟩) F
  simp only [kstB] at F
  unfold lawA
  dsimp only [cst, countBody, elif2, elif1, ifTest, ifElse, s4, turnBody, forStmt, lawBody, lawStmt, Challenge.pw_pb0228_01, List.getLast?, List.getLast, Option.getD, List.getElem?_cons_succ, List.getElem?_cons_zero]
  dsimp only [lawEnv, lawScope, lawStmt, Challenge.pw_pb0228_01, List.getLast?, List.getLast, Option.getD, List.getElem?_cons_succ, List.getElem?_cons_zero]
  k_steps
  all_goals (rename Fr _ _ _ _ => kF)
  all_goals (rename News _ _ _ _ => kN)
  all_goals
    refine' h _ _ _ _ _ _ _ _ _ _ _ kF ⟨lo.n1, lo.n2, rfl, lo.n4, rfl⟩ rfl rfl rfl ?news ?dict ?flat
    case news =>
      refine kst_newsOf kN ?_
      iterate 4 (refine List.forall_mem_cons.mpr ⟨by k_mem, ?_⟩)
      intro p hp
      repeat (first | exact hp | refine List.Mem.tail _ ?_)
    case dict => assumption
    case flat =>
      refine meet (by assumption) ?_
      first | exact vA1 (by assumption) | exact vA2 (by assumption) | exact vA3 (by assumption)
theorem cut1_ok {w : World} {s₀ s : Shared} {mg mb : Str → Option Value} {x0 : Addr} {ob : Obj} {h₀ : Heap} {L fa cdv : Addr} {m : Str → Option Value} {x : Cx} {y : Sx} {i : List Row} {t : Row} {R : List (Addr × Obj)} {deep : Bool} {due index u : Int} {t1 t2 t3 : Tok} {kv : List (Int × Value)} {ta : Tok} {ne : Nat} {so : Obj}
    {E : Value → Shared → Prop} {Q : Flow → Shared → Prop}
    (X : (pbhd.heap_39 w.params).In h₀) (T : Top pbhd.view_39 (looseW pbhd.view_39 [Str.ofString "LedgerError"]) (ExcName.means s₀.heap) mg mb h₀) (M : BMod h₀ mainGlobals mg x0 ob)
    (B : Below callerA h₀ [] h₀)
    (F : Fr h₀ L s.heap m) (lo : Loc x deep m) (lp : m (Str.ofString "due") = some (.int due t1)) (li : m (Str.ofString "index") = some (.int index t2)) (lu : m (Str.ofString "units") = some (.int u t3))
    (N : News h₀ L s.heap ((x.tp, listOf #[.ref x.cs, .int (y.draws + 1) ta] x.n1) :: (x.sk, listOf #[] ne) :: (t.sd, so) :: (t.pd, t.po) :: R))
    (n7 : (x.pl, listOf ((i.map fun r => Value.ref r.pt) ++ [Value.ref t.pt]).toArray y.np) ∈ R) (n10 : (t.pt, tupObj #[.int t.last t.t6, .int t.behind t.t7, .ref t.pd]) ∈ R)
    (v0 : ∀ p ∈ R, p.1 ≠ x.tp) (v1 : ∀ p ∈ R, p.1 ≠ x.sk) (v2 : ∀ p ∈ R, p.1 ≠ t.sd) (v3 : ∀ p ∈ R, p.1 ≠ t.pd)
    (z0 : LtN x.tp x.sk) (z1 : LtN x.tp t.sd) (z2 : LtN x.sk t.sd) (z3 : LtN x.tp t.pd) (z4 : LtN x.sk t.pd) (z5 : @Ne Nat t.pd t.sd) (zc : LtN x.cs x.tp)
    (d3 : t.po.IsDictOf (intKind P0 w) kv) (d4 : FlatPairs PyData.int kv (kdfD t.c)) (d5 : (t.sd == sysModules) = false) (d6 : (t.pd == sysModules) = false) (hcl : t.c.length ≤ 16777216) (hlen2 : i.length < 21)
    (h : ∀ h' tk m' po kvs td, Fr h₀ L h' m' → Loc x deep m' → m' (Str.ofString "due") = some (.int due td) →
      News h₀ L h' ((x.tp, listOf #[.ref x.cs, .int (y.draws + 1) ta] x.n1) :: (x.sk, listOf #[] ne) :: (t.sd, so) :: (t.pd, po) :: R) → po.IsDictOf (intKind P0 w) kvs → FlatPairs PyData.int kvs (kdfD (kdfPut t.c index (val u))) → Q .next { s with heap := h', toks := tk }) :
    wpAny (model P0 w) (lawA L fa cdv) (execs [cst 3] (lawEnv L fa cdv)) Q E s := by
  w_top off
  have hfill : (PySem.Challenge.rw_pb0228_01, pbhd.heap_39) = (PySem.Challenge.rw_pb0228_01, pbhd.heap_39) := by k_fill; rfl
  clear hfill
  obtain ⟨hp, sg, sd, stk, sos⟩ := s
  dsimp only at F N h
  have F := fr_names (ps := [(Str.ofString "due", .int due t1), (Str.ofString "index", .int index t2), (Str.ofString "units", .int u t3), (Str.ofString "pile", .ref x.pl)]) (List.forall_mem_cons.mpr ⟨lp, List.forall_mem_cons.mpr ⟨li, List.forall_mem_cons.mpr ⟨lu, List.forall_mem_cons.mpr ⟨lo.n2, List.forall_mem_nil _⟩⟩⟩⟩) F
  simp only [kstB] at F
  unfold lawA
  dsimp only [cst, countBody, elif2, elif1, ifTest, ifElse, s4, turnBody, forStmt, lawBody, lawStmt, Challenge.pw_pb0228_01, List.getLast?, List.getLast, Option.getD, List.getElem?_cons_succ, List.getElem?_cons_zero]
  dsimp only [lawEnv, lawScope, lawStmt, Challenge.pw_pb0228_01, List.getLast?, List.getLast, Option.getD, List.getElem?_cons_succ, List.getElem?_cons_zero]
  k_steps
  all_goals (rename Fr _ _ _ _ => kF)
  all_goals (rename News _ _ _ _ => kN)
  all_goals
    refine' h _ _ _ _ _ _ kF ⟨lo.n1, rfl, lo.n3, lo.n4, lo.n5⟩ rfl ?news ?dict ?flat
    case news =>
      refine kst_newsOf kN ?_
      iterate 4 (refine List.forall_mem_cons.mpr ⟨by k_mem, ?_⟩)
      intro p hp
      repeat (first | exact hp | refine List.Mem.tail _ ?_)
    case dict => assumption
    case flat =>
      refine meet (by assumption) ?_
      first | exact vB1 (by assumption) | exact vB2 (by assumption)

theorem count_ok {w : World} {s₀ s : Shared} {mg mb : Str → Option Value} {x0 : Addr} {ob : Obj} {h₀ : Heap} {L fa cdv : Addr} {m : Str → Option Value} {own : List (Addr × Obj)} {x : Cx} {y : Sx} {deep : Bool} {place index last : Int} {ti tl tp : Tok}
    {E : Value → Shared → Prop} {Q : Flow → Shared → Prop}
    (X : (pbhd.heap_39 w.params).In h₀) (T : Top pbhd.view_39 (looseW pbhd.view_39 [Str.ofString "LedgerError"]) (ExcName.means s₀.heap) mg mb h₀) (M : BMod h₀ mainGlobals mg x0 ob)
    (B : Below callerA h₀ [] h₀)
    (F : Fr h₀ L s.heap m) (lo : Loc x deep m) (lp : m (Str.ofString "place") = some (.int place tp)) (li : m (Str.ofString "index") = some (.int index ti)) (ll : m (Str.ofString "last") = some (.int last tl))
    (N : News h₀ L s.heap (x.led w y ++ own)) (hx : x.Ok) (hy : y.Ok w x own) (hpl : y.place = place) (i0 : 0 ≤ index) (i1 : index < 4) (l0 : 0 ≤ last) (l1 : last < 4) (hdr : y.draws ≤ 300)
    (h : ∀ h' tk m' y' due td, Fr h₀ L h' m' → Loc x deep m' → m' (Str.ofString "due") = some (.int due td) → News h₀ L h' (x.led w y' ++ own) → y'.Ok w x own → y'.place = due → y'.draws ≤ y.draws + 1 → Q .next { s with heap := h', toks := tk }) :
    wpAny (model P0 w) (lawA L fa cdv) (execs countBody (lawEnv L fa cdv)) Q E s := by
  obtain ⟨i, t, e⟩ := snoc_of hy.head
  obtain ⟨R, N, hR, n0, n1, n2, n3, n4, n5, n6, n7, n8, n9, n10, v0, v1, v2, v3⟩ := open_count hx hy e N
  have hlen2 : i.length < 21 := by have := hy.len; rw [e] at this; simp at this; omega
  have tok := hy.rows t (by rw [e]; simp)
  have hcl : t.c.length ≤ 16777216 := Nat.le_trans tok.small (by decide)
  have ⟨⟨kv, d1, d2⟩, ⟨kv', d3, d4⟩, d5, d6, d7, d8⟩ := tok
  refine execs_app (a := [cst 0, cst 1, cst 2]) (cut0_ok X T M B F lo lp li N n0 n4 n5 n6 n8 n9 v0 v1 v2 v3 (ltN_of hx.tp_sk) (ltN_of (Nat.lt_trans hx.tp_sk (hy.apart5 e).p3)) (ltN_of (hy.apart5 e).p3) (ltN_of (Nat.lt_trans hx.tp_sk (hy.apart5 e).p5)) (ltN_of (hy.apart5 e).p5) (hy.apart5 e).s5 (ltN_of hx.cs_tp) d1 d2 d5 d6 hcl hx.hws hx.pos hx.len hlen2 hy.at0 hdr fun h1 tk1 m1 ta ne so kvs u t1 t2 t3 F1 lo1 a1 a2 a3 N1 e1 e2 =>
    cut1_ok (s := ⟨h1, s.gens, s.drawn, tk1, s.os⟩) X T M B F1 lo1 a1 a2 a3 N1 n7 n10 v0 v1 v2 v3 (ltN_of hx.tp_sk) (ltN_of (Nat.lt_trans hx.tp_sk (hy.apart5 e).p3)) (ltN_of (hy.apart5 e).p3) (ltN_of (Nat.lt_trans hx.tp_sk (hy.apart5 e).p5)) (ltN_of (hy.apart5 e).p5) (hy.apart5 e).s5 (ltN_of hx.cs_tp) d3 d4 d5 d6 hcl hlen2 fun h2 tk2 m2 po kvs2 td F2 lo2 b1 N2 e3 e4 => ?_)
  refine h h2 tk2 m2 { y with draws := y.draws + 1, ta := ta, ne := ne, rows := i ++ [{ t with so := so, po := po, c := kdfPut t.c index (val u) }] } _ _ F2 lo2 b1 ?_
    (hy.turn e rfl ⟨⟨_, e1, e2⟩, ⟨_, e3, e4⟩, d5, d6, put_nodup d7 _ _, put_keys d8 i0 i1 _⟩ rfl rfl (by show 0 ≤ y.draws + 1; have := hy.at0; omega)) hpl (by show y.draws + 1 ≤ y.draws + 1; omega)
  refine kst_newsOf N2 (List.forall_mem_append.mpr ⟨List.forall_mem_append.mpr ⟨?_, ?_⟩, ?_⟩)
  · unfold Cx.fixed
    skip
    simp only [List.map_append, List.map_cons, List.map_nil]
    repeat (refine List.forall_mem_cons.mpr ⟨by k_mem, ?_⟩)
    exact List.forall_mem_nil _
  · skip
    rw [rowsL_snoc]
    refine List.forall_mem_append.mpr ⟨fun p hp => ?_, ?_⟩
    · have hp : p ∈ R := hR p (List.mem_append_left _ hp)
      repeat (first | exact hp | refine List.Mem.tail _ ?_)
    · unfold Row.objs
      repeat (refine List.forall_mem_cons.mpr ⟨by k_mem, ?_⟩)
      exact List.forall_mem_nil _
  · intro p hp
    have hp : p ∈ R := hR p (List.mem_append_right _ hp)
    repeat (first | exact hp | refine List.Mem.tail _ ?_)
end PB
end
section
open PySem PySem.W PyProof.Rows PySem.Calls PySem.Spec PyProof.V
namespace PB

local macro_rules | `(tactic| k_steps) => `(tactic| repeat' (first | (k_unfold; (try dsimp only)) | (k_end; wrow_close) | (with_reducible refine tok_new ?_; intro tk) | walk1 | (dsimp only; walk1) | (leave1; try dsimp only) | fail "no step"))
local macro_rules | `(tactic| k_all) => `(tactic| with_reducible assumption)
local macro_rules | `(tactic| k_ne) => `(tactic| first | with_reducible assumption | with_reducible exact Ne.symm (by with_reducible assumption) | with_reducible exact ltN_ne (by with_reducible assumption) | with_reducible exact Ne.symm (ltN_ne (by with_reducible assumption)) | (refine neN ?_; (try dsimp only); omega))
local macro_rules | `(tactic| k_lt $h:ident) => `(tactic| (replace $h := allLtN_of $h; simp only [AllLtN, and_true] at $h:ident; repeat (have lq := And.left $h; replace $h := And.right $h)))
local macro_rules | `(tactic| k_lt2 $h:ident) => `(tactic| replace $h := ltN_of $h)
local macro_rules | `(tactic| k_mem) => `(tactic| first | exact List.Mem.head _ | (refine' List.Mem.tail _ ?_; k_mem) | with_reducible assumption | assumption)
local macro_rules | `(tactic| k_all) => `(tactic| first | (refine' allLt_ne ?_; with_reducible assumption))
local macro_rules | `(tactic| walk_at "setItem ref int") => `(tactic| (k_here; (with_reducible show wpAny _ _ (setItem (Value.ref _) (Value.int 1 _) _) _ _ _); k_dflt (refine' set_two ?k1 ?k2 ?k3 ?_; (case k1 => k_asm); (case k2 => k_asm); (case k3 => k_upd); k_whole); intro h' F' N'; (try k_sweep)))
local macro_rules | `(tactic| walk_at "call ref") => `(tactic| (k_here; (with_reducible show wpAny _ (Around.deeper callerA _) (call (Value.ref 195) _ _) _ _ _); k_dflt (refine' draw_callU ?k1 ?k2 ?k3 ?k4 ?k5 ?k6 ?k7 ?k8 ?k9 ?k10 ?k11 ?k12 ?k13 ?k14 ?k15 ?k16 ?_; (case k1 => k_asm); (case k2 => k_asm); (case k3 => k_asm); (case k4 => k_asm); (case k5 => k_asm); (case k6 => k_asm); (case k7 => k_updF); (case k8 => k_mem); (case k9 => k_ne); (case k10 => k_asm); (case k11 => k_asm); (case k12 => k_asm); (case k13 => first | k_asm | omega); (case k14 => first | exact Int.le_trans (by assumption) (by decide) | omega); (case k15 => decide); (case k16 => decide); k_whole; intro h' tk' t' t2' v' F' N' dlo' dhi'; (try dsimp only at N'); (try k_sweep))))
local macro_rules | `(tactic| walk_at "subscriptTail") => `(tactic| (k_here; (with_reducible show wpAny _ _ (subscriptTail _ _ (Value.ref _) (Value.int (-1) _)) _ _ _); k_dflt (refine' last_sub ?k1 ?k2 ?_ ?k3 ?k4 ?k5; (case k1 => k_asm); (case k2 => k_mem); (case k3 => simp only [List.length_map]; omega); (case k4 => with_unfolding_all rfl); (case k5 => (intro _; with_unfolding_all rfl)); k_whole)))
local macro_rules | `(tactic| walk_at "call builtin:list.pop") => `(tactic| (k_here; (with_reducible show wpAny _ _ (call (Value.builtin _) [Value.ref _]) _ _ _); k_dflt (refine' pop_last ?k1 ?k2 ?k3 ?k4 ?_; (case k1 => k_asm); (case k2 => k_asm); (case k3 => k_upd); (case k4 => simp only [List.length_map]; omega); k_whole); intro h' F' N'; (try k_sweep)))
local macro_rules | `(tactic| walk_at "call builtin:list.append") => `(tactic| (k_here; (with_reducible show wpAny _ _ (call (Value.builtin _) [Value.ref _, _]) _ _ _); k_dflt (refine' append_last ?k1 ?k2 ?k3 ?k4 ?_; (case k1 => k_asm); (case k2 => k_asm); (case k3 => k_upd); (case k4 => (simp only [List.length_map, List.length_append, List.length_singleton]; omega)); k_whole); intro h' F' N'; (try k_sweep)))
local macro_rules | `(tactic| walk_at "setItem ref int") => `(tactic| (k_here; (with_reducible show wpAny _ _ (setItem (Value.ref _) (Value.int _ _) (Value.int _ _)) _ _ _); k_dflt (refine' kdf_setItem ?k1 ?k2 ?k3 ?k4 ?k5 ?k6 ?_; (case k1 => k_asm); (case k2 => k_asm); (case k3 => k_updF); (case k4 => k_asm); (case k5 => k_asm); (case k6 => k_asm)); intro h' o' kvs' F' N' hd' hf'; (try dsimp only at N'); (try k_sweep)))
local macro_rules | `(tactic| walk_at "subscriptTail") => `(tactic| (k_here; (with_reducible show wpAny _ _ (subscriptTail _ _ (Value.ref _) (Value.int _ _)) _ _ _); k_dflt (refine kdf_item (by k_tabat) (has_of_look (by assumption)) ?_); intro _))
local macro_rules | `(tactic| walk_at "call builtin:len") => `(tactic| (k_here; (with_reducible show wpAny _ _ (call (Value.builtin "len") [Value.ref _]) _ _ _); k_dflt (refine' len_any ?k1 ?k2 ?k3 ?k4 ?_; (case k1 => k_asm); (case k2 => k_mem); (case k3 => (simp only [List.size_toArray, List.length_append, List.length_map, List.length_cons, List.length_nil]; rfl)); (case k4 => omega); k_whole)))

theorem ex_ok (pr : Params) : exOk (pbhd.heap_39 pr) 81 68 = true := by kernel_rfl
theorem meta_exc : typeOf (.type "Exception") = pure (.type "type") := by kernel_rfl
local macro_rules | `(tactic| walk_at "exec Raise some none") => `(tactic| (k_here; (with_reducible show wpAny _ _ (exec (Stmt.Raise (some (Expr.Call (Expr.Name _ _) _ [] _)) none _) _) _ _ _); k_dflt (refine' raiseX (C := 81) (D := 68) ?k1 ?_; (case k1 => first | rfl | assumption); k_whole)))
local macro_rules | `(tactic| walk_at "call ref") => `(tactic| (k_here; (with_reducible show wpAny _ _ (call (Value.ref 81) _ _) _ _ _); k_dflt (refine' exc_call (D := 68) ?k1 ?k2 ?k3 ?k4 ?k5 ?k6 ?k7 ?_; (case k1 => k_asm); (case k2 => k_asm); (case k3 => k_asm); (case k4 => exact ex_ok _); (case k5 => k_is); (case k6 => k_is); (case k7 => exact Nat.le_of_ble_eq_true rfl); k_whole; intro x' d' h' F' N' l1 l2 l3; (try k_lt l1); (try k_lt2 l2); (try k_lt l3); (try k_sweep); k_enter)))
section
variable {prog : Program} {w : World} {A : Around} {E : Value → Shared → Prop} {s : Shared} {K : Frag} {C L : Addr} {h₀ : Heap} {m : Str → Option Value} {news : List (Addr × Obj)} {Q : Value → Shared → Prop}
theorem cls_call {pos : List Value} {kw : List (Str × Value)} {fI : Addr} (F : Fr h₀ L s.heap m) (X₀ : K.In h₀) (N : News h₀ L s.heap news) (hm : makesIn K C = true) (hi : findIn K (.ref C) "__init__" = some (some (.ref fI))) (hf : isFn K (.ref fI) = true)
    (h : ∀ x dx h', Fr h₀ L h' m → News h₀ L h' ((x, instObj C dx) :: (dx, dictOf [] 0) :: news) → (∀ p ∈ news, p.1 < dx) → dx < x → (∀ p ∈ news, p.1 < x) →
      codeAny (model prog w) (A.under (.builtin "type.__call__" ⟨.ref C :: pos, kw⟩)) (.call (.ref fI) ⟨.ref x :: pos, kw⟩) (InitBack x fun r s' => match r with | .ok (.ret v) => Q v s' | .ok _ => False | .error e => E e s') { s with heap := h' }) :
    wpAny (model prog w) A (call (.ref C) pos kw) Q E s := call_cls F X₀ N hm hi hf fun x dx h' F' N' l1 l2 => h x dx h' F' N' l1 l2 fun p hp => Nat.lt_trans (l1 p hp) l2
end
local macro_rules | `(tactic| walk_at "call ref") => `(tactic| (k_here; (with_reducible show wpAny _ _ (call (Value.ref 100) _ _) _ _ _); k_dflt (refine' cls_call ?k1 ?k2 ?k3 ?k4 ?k5 ?k6 ?_; (case k1 => k_asm); (case k2 => k_asm); (case k3 => k_asm); (case k4 => k_is); (case k5 => k_is); (case k6 => k_is); k_whole; intro x' d' h' F' N' l1 l2 l3; (try k_lt l1); (try k_lt2 l2); (try k_lt l3); (try k_sweep); k_enter)))
local macro_rules | `(tactic| walk_at "getMethod type:Exception") => `(tactic| (k_here; refine' method_type ?F ?X ?m (by decide +kernel) ?e ?h ?_; (case F => k_asm); (case X => k_asm); (case m => exact meta_exc); (case e => k_dflt k_is); (case h => k_handed)))
local macro_rules | `(tactic| walk_at "call builtin:Exception.__init__") => `(tactic| (k_here; (with_reducible show wpAny _ _ (call (Value.builtin _) (Value.ref _ :: _)) _ _ _); k_dflt (refine' exc_init (D := 68) ?k1 ?k2 ?k3 ?k4 ?k5 ?k6 ?_; (case k1 => k_asm); (case k2 => k_asm); (case k3 => k_asm); (case k4 => exact ex_ok _); (case k5 => k_updF); (case k6 => exact Nat.le_of_ble_eq_true rfl); k_whole; intro t' h' F' N' l1; (try dsimp only at N'); (try k_lt l1); (try k_sweep))))
local macro_rules | `(tactic| walk_at "setAttr ref") => `(tactic| (k_here; k_dflt (first
  | (refine' exc_setF (D := 68) ?k1 ?k2 ?k3 ?k4 ?k5 ?k6 ?k7 ?k8 ?k9 ?_; (case k1 => k_asm); (case k2 => k_asm); (case k3 => k_asm); (case k5 => k_updF); (case k4 => exact ex_ok _); (case k6 => k_is); (case k7 => k_is); (case k8 => k_put); (case k9 => exact Nat.le_of_ble_eq_true rfl); k_whole; intro d' h' F' N' l1; (try dsimp only at N'); (try k_lt l1); (try k_sweep))
  | (refine' exc_set2 (D := 68) ?k1 ?k2 ?k3 ?k4 ?k4b ?k5 ?k6 ?k7 ?k8 ?k9 ?k10 ?k11 ?_; (case k1 => k_asm); (case k2 => k_asm); (case k3 => k_asm); (case k4 => k_mem); (case k4b => k_mem); (case k5 => exact ex_ok _); (case k6 => k_is); (case k7 => k_is); (case k8 => k_get); (case k9 => k_put); (case k10 => k_upd); (case k11 => exact Nat.le_of_ble_eq_true rfl); k_whole; intro h' F' N'; (try k_sweep)))))
local macro_rules | `(tactic| walk_at "RaisableX") => `(tactic| (k_dflt (refine' raisableX_of ?k1 ?k2 ?k3 ?k4 ?k5 ?_; (case k1 => k_asm); (case k2 => k_asm); (case k3 => k_asm); (case k4 => k_mem); (case k5 => exact ex_ok _))))
local macro_rules | `(tactic| k_updF) => `(tactic| first | (refine' Del.head ?a; (case a => k_all)) | (refine' Del.tail ?a ?b; (case a => k_ne); (case b => k_updF)))
local macro_rules | `(tactic| walk_at "leaving ref") => `(tactic| (k_here; (refine' leaveX (C := 81) ?k1 ?k2 ?k3 ?k4 ?_; (case k1 => assumption); (case k2 => k_asm); (case k3 => k_asm); (case k4 => k_updF); k_whole; intro h' R' U'; (try dsimp only at R' U' ⊢))))
local macro_rules | `(tactic| walk_at "noteFrame ref") => `(tactic| (k_here; (rename RaisedN _ _ _ _ _ _ => rkX); k_dflt (refine' caughtX (D := 68) ?K ?F ?U ?R ?X ?T ?ex ?q ?_; (case K => assumption); (case F => assumption); (case U => assumption); (case R => exact rkX); (case X => k_asm); (case T => k_asm); (case ex => k_is); (case q => exact ex_ok _); k_whole); intro h' F' N'; (try k_sweep)))

theorem no1 {n : Nat} (h : n < 21) (a : (20 : Int) < ((n + (0 + 1) : Nat) : Int)) (b : (true != ((((n + (0 + 1) : Nat) : Int)) == 21)) = true) : False := by
  have e : ((n + (0 + 1) : Nat) : Int) = 21 := by omega
  rw [e] at b
  exact absurd b (by decide)
theorem no2 {n : Nat} (a : ¬ (20 : Int) < ((n + (0 + 1) : Nat) : Int)) (b : (false != ((((n + (0 + 1) : Nat) : Int)) == 21)) = true) : False := by
  have e : (((n + (0 + 1) : Nat) : Int) == 21) = false := by rw [beq_eq_false_iff_ne]; omega
  rw [e] at b
  exact absurd b (by decide)
theorem newOff {w : World} {x : Cx} {y : Sx} {own R : List (Addr × Obj)} {i : List Row} {t : Row} {D : Addr} (e : y.rows = i ++ [t]) (hR : ∀ p ∈ rowsL w i ++ own, p ∈ R)
    (h1 : @LT.lt Nat _ x.sk D) (h2 : @LT.lt Nat _ x.fl D) (h3 : @LT.lt Nat _ x.pl D) (h4 : @LT.lt Nat _ t.fa D) (h5 : @LT.lt Nat _ t.fd D) (h6 : @LT.lt Nat _ t.sd D) (h7 : @LT.lt Nat _ t.pt D) (h8 : @LT.lt Nat _ t.pd D) (h9 : ∀ p ∈ R, p.1 ≠ D) :
    Off x D ∧ (∀ q ∈ rowsL w y.rows, q.1 ≠ D) ∧ ∀ q ∈ own, q.1 ≠ D := by
  refine ⟨⟨h1, Nat.ne_of_gt h2, Nat.ne_of_gt h3⟩, fun q hq => ?_, fun q hq => h9 q (hR q (List.mem_append_right _ hq))⟩
  rw [e, rowsL_snoc] at hq
  rcases List.mem_append.mp hq with hq | hq
  · exact h9 q (hR q (List.mem_append_left _ hq))
  · have hq : q.1 ∈ (t.objs w).map (·.1) := List.mem_map.mpr ⟨q, hq, rfl⟩
    rw [Row.objs_fst] at hq
    simp only [List.mem_cons, List.not_mem_nil, or_false] at hq
    intro z
    rw [z] at hq
    rcases hq with h | h | h | h | h
    · rw [h] at h4; exact absurd h4 (Nat.lt_irrefl _)
    · rw [h] at h5; exact absurd h5 (Nat.lt_irrefl _)
    · rw [h] at h6; exact absurd h6 (Nat.lt_irrefl _)
    · rw [h] at h7; exact absurd h7 (Nat.lt_irrefl _)
    · rw [h] at h8; exact absurd h8 (Nat.lt_irrefl _)
theorem nodup5 {a b c d e : Nat} (h1 : a ≠ b) (h2 : a ≠ c) (h3 : a ≠ d) (h4 : a ≠ e) (h5 : b ≠ c) (h6 : b ≠ d) (h7 : b ≠ e) (h8 : c ≠ d) (h9 : c ≠ e) (h10 : d ≠ e) : [a, b, c, d, e].Nodup := by
  simp [h1, h2, h3, h4, h5, h6, h7, h8, h9, h10]
theorem open_perf {w : World} {x : Cx} {y : Sx} {own : List (Addr × Obj)} {i : List Row} {t : Row} {h₀ h : Heap} {L : Addr} (hx : x.Ok) (hy : y.Ok w x own) (e : y.rows = i ++ [t]) (N : News h₀ L h (x.led w y ++ own)) :
    ∃ R : List (Addr × Obj), News h₀ L h ((x.mcd, dictOf [ent w "code" x.m1 (.ref x.cd), ent w "deeds" x.m2 .none, ent w "place" x.m3 (.int y.place y.tpl), ent w "stack" x.m4 (.ref x.sk), ent w "frames" x.m5 (.ref x.fl), ent w "key" x.m6 (.str (Str.ofString "") x.v6), ent w "word" x.m7 (.str (Str.ofString "") x.v7)] 7) :: (x.fl, listOf ((i.map fun r => Value.ref r.fa) ++ [Value.ref t.fa]).toArray y.nf) :: (x.pl, listOf ((i.map fun r => Value.ref r.pt) ++ [Value.ref t.pt]).toArray y.np) :: R) ∧ (∀ p ∈ rowsL w i ++ own, p ∈ R) ∧ (x.tp, listOf #[.ref x.cs, .int y.draws y.ta] x.n1) ∈ R ∧ (x.cs, listOf x.ws.toArray x.c1) ∈ R ∧ (x.bg, tupObj #[.int 0 x.b1, .int 5 x.b2, .int 9 x.b3, .int 14 x.b4]) ∈ R ∧ (x.cd, instObj 184 x.cdd) ∈ R ∧ (x.cdd, dictOf [ent w "ops" x.c2 (.ref x.op), ent w "begins" x.c3 (.ref x.bg)] 2) ∈ R ∧ (x.mc, instObj 128 x.mcd) ∈ R ∧ (x.sk, listOf #[] y.ne) ∈ R ∧ (t.fa, instObj 100 t.fd) ∈ R ∧ (t.fd, dictOf [ent w "last" t.t1 (.int t.last t.t2), ent w "behind" t.t3 (.int t.behind t.t4), ent w "slots" t.t5 (.ref t.sd)] 3) ∈ R ∧ (t.sd, t.so) ∈ R ∧ (t.pt, tupObj #[.int t.last t.t6, .int t.behind t.t7, .ref t.pd]) ∈ R ∧ (t.pd, t.po) ∈ R ∧ (∀ p ∈ R, p.1 ≠ x.mcd) ∧ (∀ p ∈ R, p.1 ≠ x.fl) ∧ (∀ p ∈ R, p.1 ≠ x.pl) := by
  have ⟨p1, p2, p3, p4, p5, q1, q2, q3, q4, q5, r1, r2, r3, r4, r5, s1, s2, s4, s5, s6, s7, s8⟩ := hy.apart5 e
  have ⟨u1, u2, u3, u4, u5, u6, u7⟩ := hy.apartR hx e
  have N := open_led e N
  have z0 := ltN_of hx.tp_mcd
  have z1 := ltN_of hx.cs_mcd
  have z2 := ltN_of hx.bg_mcd
  have z3 := ltN_of hx.cd_mcd
  have z4 := ltN_of hx.cdd_mcd
  have z5 := ltN_of hx.mcd_mc
  have z6 := ltN_of hx.mcd_sk
  have z7 := ltN_of (Nat.lt_trans hx.mcd_sk p1)
  have z8 := ltN_of (Nat.lt_trans hx.mcd_sk p2)
  have z9 := ltN_of (Nat.lt_trans hx.mcd_sk p3)
  have z10 := ltN_of (Nat.lt_trans hx.mcd_sk p4)
  have z11 := ltN_of (Nat.lt_trans hx.mcd_sk p5)
  have z12 := ltN_of hx.tp_fl
  have z13 := ltN_of hx.cs_fl
  have z14 := ltN_of hx.bg_fl
  have z15 := ltN_of hx.cd_fl
  have z16 := ltN_of hx.cdd_fl
  have z17 := ltN_of hx.mc_fl
  have z18 := ltN_of hx.sk_fl
  have z19 := ltN_of hx.tp_pl
  have z20 := ltN_of hx.cs_pl
  have z21 := ltN_of hx.bg_pl
  have z22 := ltN_of hx.cd_pl
  have z23 := ltN_of hx.cdd_pl
  have z24 := ltN_of hx.mc_pl
  have z25 := ltN_of hx.sk_pl
  generalize rowsL w i ++ own = R0 at *
  refine ⟨(x.tp, listOf #[.ref x.cs, .int y.draws y.ta] x.n1) :: (x.cs, listOf x.ws.toArray x.c1) :: (x.bg, tupObj #[.int 0 x.b1, .int 5 x.b2, .int 9 x.b3, .int 14 x.b4]) :: (x.cd, instObj 184 x.cdd) :: (x.cdd, dictOf [ent w "ops" x.c2 (.ref x.op), ent w "begins" x.c3 (.ref x.bg)] 2) :: (x.mc, instObj 128 x.mcd) :: (x.sk, listOf #[] y.ne) :: (t.fa, instObj 100 t.fd) :: (t.fd, dictOf [ent w "last" t.t1 (.int t.last t.t2), ent w "behind" t.t3 (.int t.behind t.t4), ent w "slots" t.t5 (.ref t.sd)] 3) :: (t.sd, t.so) :: (t.pt, tupObj #[.int t.last t.t6, .int t.behind t.t7, .ref t.pd]) :: (t.pd, t.po) :: R0, kst_newsOf N ?_, fun p hp => ?_, by k_mem, by k_mem, by k_mem, by k_mem, by k_mem, by k_mem, by k_mem, by k_mem, by k_mem, by k_mem, by k_mem, by k_mem, ?_, ?_, ?_⟩
  · unfold Cx.openL
    repeat (refine List.forall_mem_cons.mpr ⟨by k_mem, ?_⟩)
    intro p hp
    repeat (first | exact hp | refine List.Mem.tail _ ?_)
  · repeat (first | exact hp | refine List.Mem.tail _ ?_)
  all_goals k_all

theorem perf_ok {w : World} {s₀ s : Shared} {mg mb : Str → Option Value} {x0 : Addr} {ob : Obj} {h₀ : Heap} {L fa cdv : Addr} {m : Str → Option Value} {own : List (Addr × Obj)} {x : Cx} {y : Sx} {deep : Bool} {place index last : Int} {ti tl tp : Tok}
    {Q : Flow → Shared → Prop}
    (X : (pbhd.heap_39 w.params).In h₀) (T : Top pbhd.view_39 (looseW pbhd.view_39 [Str.ofString "LedgerError"]) (ExcName.means s₀.heap) mg mb h₀) (M : BMod h₀ mainGlobals mg x0 ob)
    (B : Below callerA h₀ [] h₀)
    (F : Fr h₀ L s.heap m) (lo : Loc x deep m) (lp : m (Str.ofString "place") = some (.int place tp)) (li : m (Str.ofString "index") = some (.int index ti)) (ll : m (Str.ofString "last") = some (.int last tl))
    (N : News h₀ L s.heap (x.led w y ++ own)) (hx : x.Ok) (hy : y.Ok w x own) (hpl : y.place = place) (i0 : 0 ≤ index) (i1 : index < 4) (l0 : 0 ≤ last) (l1 : last < 4) (hdr : y.draws ≤ 300)
    (h : ∀ h' tk m' y' due td, Fr h₀ L h' m' → Loc x deep m' → m' (Str.ofString "due") = some (.int due td) → News h₀ L h' (x.led w y' ++ own) → y'.Ok w x own → y'.place = due → y'.draws ≤ y.draws + 1 → Q .next { s with heap := h', toks := tk }) :
    wpAny (model P0 w) (lawA L fa cdv) (execs perfBody (lawEnv L fa cdv)) Q (fun _ _ => False) s := by
  w_top off
  have hfill : (PySem.Challenge.rw_pb0228_01, pbhd.heap_39) = (PySem.Challenge.rw_pb0228_01, pbhd.heap_39) := by k_fill; rfl
  clear hfill
  obtain ⟨hp, sg, sd, stk, sos⟩ := s
  dsimp only at F N h
  obtain ⟨i, t, e⟩ := snoc_of hy.head
  obtain ⟨R, N0, hR, n0, n1, n2, n3, n4, n5, n6, n7, n8, n9, n10, n11, v0, v1, v2⟩ := open_perf hx hy e N
  clear N
  have N := N0
  clear N0
  have hi := hx.hws
  have h0 := hx.pos
  have hlen := hx.len
  have z0 := ltN_of hx.mcd_fl
  have z1 := ltN_of hx.mcd_pl
  have z2 := ltN_of hx.fl_pl
  have hlen2 : i.length < 21 := by have := hy.len; rw [e] at this; simp at this; omega
  have hat := hy.at0
  have tok := hy.rows t (by rw [e]; simp)
  have hcl : t.c.length ≤ 16777216 := Nat.le_trans tok.small (by decide)
  have ⟨⟨kv, d1, d2⟩, ⟨kv', d3, d4⟩, d5, d6, d7, d8⟩ := tok
  subst hpl
  have F := fr_names (ps := [(Str.ofString "place", .int y.place tp), (Str.ofString "index", .int index ti), (Str.ofString "last", .int last tl), (Str.ofString "machine", .ref x.mc), (Str.ofString "pile", .ref x.pl), (Str.ofString "begins", .ref x.bg)]) (List.forall_mem_cons.mpr ⟨lp, List.forall_mem_cons.mpr ⟨li, List.forall_mem_cons.mpr ⟨ll, List.forall_mem_cons.mpr ⟨lo.n3, List.forall_mem_cons.mpr ⟨lo.n2, List.forall_mem_cons.mpr ⟨lo.n4, List.forall_mem_nil _⟩⟩⟩⟩⟩⟩) F
  simp only [kstB] at F
  unfold lawA
  dsimp only [perfBody, ifTest, ifElse, s4, turnBody, forStmt, lawBody, lawStmt, Challenge.pw_pb0228_01, List.getLast?, List.getLast, Option.getD, List.getElem?_cons_succ, List.getElem?_cons_zero]
  dsimp only [lawEnv, lawScope, lawStmt, Challenge.pw_pb0228_01, List.getLast?, List.getLast, Option.getD, List.getElem?_cons_succ, List.getElem?_cons_zero]
  k_steps
  · exact (no1 hlen2 (by assumption) (by assumption)).elim
  · (rename Fr _ _ _ _ => kF)
    (rename News _ _ _ _ => kN)
    refine h _ _ _ y _ _ kF ⟨lo.n1, rfl, rfl, rfl, lo.n5⟩ rfl ?_ hy rfl (by omega)
    refine kst_newsOf kN (List.forall_mem_append.mpr ⟨List.forall_mem_append.mpr ⟨?_, ?_⟩, ?_⟩)
    · unfold Cx.fixed
      rw [e]
      simp only [List.map_append, List.map_cons, List.map_nil]
      repeat (refine List.forall_mem_cons.mpr ⟨by k_mem, ?_⟩)
      exact List.forall_mem_nil _
    · rw [e]
      rw [rowsL_snoc]
      refine List.forall_mem_append.mpr ⟨fun p hp => ?_, ?_⟩
      · have hp : p ∈ R := hR p (List.mem_append_left _ hp)
        repeat (first | exact hp | refine List.Mem.tail _ ?_)
      · unfold Row.objs
        repeat (refine List.forall_mem_cons.mpr ⟨by k_mem, ?_⟩)
        exact List.forall_mem_nil _
    · intro p hp
      have hp : p ∈ R := hR p (List.mem_append_right _ hp)
      repeat (first | exact hp | refine List.Mem.tail _ ?_)
  · exact (no2 (by assumption) (by assumption)).elim
  · (rename Fr _ _ _ _ => kF)
    (rename News _ _ _ _ => kN)
    have hlen3 : y.rows.length < 21 := by
      have q : ¬ (20 : Int) < ((i.length + (0 + 1) : Nat) : Int) := by assumption
      rw [e, List.length_append, List.length_singleton]; omega
    refine h _ _ _ { y with place := [0, 5, 9, 14].getD index.toNat 0, tpl := ?tpl, nf := y.nf + 1, np := y.np + 1, rows := y.rows ++ [{ fa := ?fa, fd := ?fd, sd := ?sd, so := ?so, pt := ?pt, pd := ?pd, po := ?po, last := last, behind := y.place, t1 := ?t1, t2 := ?t2, t3 := ?t3, t4 := ?t4, t5 := ?t5, t6 := ?t6, t7 := ?t7, c := [] }] } _ _ kF ⟨lo.n1, rfl, rfl, rfl, lo.n5⟩ rfl ?news (hy.push rfl ?ok ?nd ?new hlen3 hy.at0) rfl (by show y.draws ≤ y.draws + 1; omega)
    case news =>
      refine kst_newsOf kN (List.forall_mem_append.mpr ⟨List.forall_mem_append.mpr ⟨?_, ?_⟩, ?_⟩)
      · unfold Cx.fixed
        rw [e]
        simp only [List.map_append, List.map_cons, List.map_nil]
        repeat (refine List.forall_mem_cons.mpr ⟨by k_mem, ?_⟩)
        exact List.forall_mem_nil _
      · show ∀ p ∈ rowsL w (y.rows ++ [_]), _
        rw [e, rowsL_snoc, rowsL_snoc]
        refine List.forall_mem_append.mpr ⟨List.forall_mem_append.mpr ⟨fun p hp => ?_, ?_⟩, ?_⟩
        · have hp : p ∈ R := hR p (List.mem_append_left _ hp)
          repeat (first | exact hp | refine List.Mem.tail _ ?_)
        · unfold Row.objs
          repeat (refine List.forall_mem_cons.mpr ⟨by k_mem, ?_⟩)
          exact List.forall_mem_nil _
        · unfold Row.objs
          repeat (refine List.forall_mem_cons.mpr ⟨by k_mem, ?_⟩)
          exact List.forall_mem_nil _
      · intro p hp
        have hp : p ∈ R := hR p (List.mem_append_right _ hp)
        repeat (first | exact hp | refine List.Mem.tail _ ?_)
    case ok => exact ⟨⟨[], by assumption, by assumption⟩, ⟨[], by assumption, by assumption⟩, by assumption, by assumption, List.nodup_nil, fun _ h => nomatch h⟩
    case nd =>
      rw [Row.objs_fst]
      refine nodup5 ?_ ?_ ?_ ?_ ?_ ?_ ?_ ?_ ?_ ?_
      all_goals (dsimp only; first | k_ne | omega)
    case new =>
      unfold Row.objs
      iterate 5
        refine List.forall_mem_cons.mpr ⟨?_, ?_⟩
        · dsimp only
          refine newOff e hR ?_ ?_ ?_ ?_ ?_ ?_ ?_ ?_ ?_
          iterate 8 (first | with_reducible assumption | exact ltN_out (by with_reducible assumption) | exact allLtN_mem (by with_reducible assumption) (by with_reducible assumption))
          exact fun p hp => Nat.ne_of_lt (allLt_all (by with_reducible assumption) p hp)
      exact List.forall_mem_nil _

end PB
end
section
open PySem PySem.W PyProof.Rows PySem.Calls PySem.Spec PyProof.V
namespace PB

local macro_rules | `(tactic| k_steps) => `(tactic| repeat' (first | (k_unfold; (try dsimp only)) | (k_end; wrow_close) | (with_reducible refine tok_new ?_; intro tk) | walk1 | (dsimp only; walk1) | (leave1; try dsimp only) | fail "no step"))
local macro_rules | `(tactic| k_all) => `(tactic| with_reducible assumption)
local macro_rules | `(tactic| k_ne) => `(tactic| first | with_reducible assumption | with_reducible exact Ne.symm (by with_reducible assumption) | with_reducible exact ltN_ne (by with_reducible assumption) | with_reducible exact Ne.symm (ltN_ne (by with_reducible assumption)) | (refine neN ?_; (try dsimp only); omega))
local macro_rules | `(tactic| k_lt $h:ident) => `(tactic| (replace $h := allLtN_of $h; simp only [AllLtN, and_true] at $h:ident; repeat (have lq := And.left $h; replace $h := And.right $h)))
local macro_rules | `(tactic| k_lt2 $h:ident) => `(tactic| replace $h := ltN_of $h)
local macro_rules | `(tactic| k_mem) => `(tactic| first | exact List.Mem.head _ | (refine' List.Mem.tail _ ?_; k_mem) | with_reducible assumption | assumption)
local macro_rules | `(tactic| k_all) => `(tactic| first | (refine' allLt_ne ?_; with_reducible assumption))
local macro_rules | `(tactic| walk_at "setItem ref int") => `(tactic| (k_here; (with_reducible show wpAny _ _ (setItem (Value.ref _) (Value.int 1 _) _) _ _ _); k_dflt (refine' set_two ?k1 ?k2 ?k3 ?_; (case k1 => k_asm); (case k2 => k_asm); (case k3 => k_upd); k_whole); intro h' F' N'; (try k_sweep)))
local macro_rules | `(tactic| walk_at "call ref") => `(tactic| (k_here; (with_reducible show wpAny _ (Around.deeper callerA _) (call (Value.ref 195) _ _) _ _ _); k_dflt (refine' draw_callU ?k1 ?k2 ?k3 ?k4 ?k5 ?k6 ?k7 ?k8 ?k9 ?k10 ?k11 ?k12 ?k13 ?k14 ?k15 ?k16 ?_; (case k1 => k_asm); (case k2 => k_asm); (case k3 => k_asm); (case k4 => k_asm); (case k5 => k_asm); (case k6 => k_asm); (case k7 => k_updF); (case k8 => k_mem); (case k9 => k_ne); (case k10 => k_asm); (case k11 => k_asm); (case k12 => k_asm); (case k13 => first | k_asm | omega); (case k14 => first | exact Int.le_trans (by assumption) (by decide) | omega); (case k15 => decide); (case k16 => decide); k_whole; intro h' tk' t' t2' v' F' N' dlo' dhi'; (try dsimp only at N'); (try k_sweep))))
local macro_rules | `(tactic| walk_at "subscriptTail") => `(tactic| (k_here; (with_reducible show wpAny _ _ (subscriptTail _ _ (Value.ref _) (Value.int (-1) _)) _ _ _); k_dflt (refine' last_sub ?k1 ?k2 ?_ ?k3 ?k4 ?k5; (case k1 => k_asm); (case k2 => k_mem); (case k3 => simp only [List.length_map]; omega); (case k4 => with_unfolding_all rfl); (case k5 => (intro _; with_unfolding_all rfl)); k_whole)))
local macro_rules | `(tactic| walk_at "call builtin:list.pop") => `(tactic| (k_here; (with_reducible show wpAny _ _ (call (Value.builtin _) [Value.ref _]) _ _ _); k_dflt (refine' pop_last ?k1 ?k2 ?k3 ?k4 ?_; (case k1 => k_asm); (case k2 => k_asm); (case k3 => k_upd); (case k4 => simp only [List.length_map]; omega); k_whole); intro h' F' N'; (try k_sweep)))
local macro_rules | `(tactic| walk_at "call builtin:list.append") => `(tactic| (k_here; (with_reducible show wpAny _ _ (call (Value.builtin _) [Value.ref _, _]) _ _ _); k_dflt (refine' append_last ?k1 ?k2 ?k3 ?k4 ?_; (case k1 => k_asm); (case k2 => k_asm); (case k3 => k_upd); (case k4 => (simp only [List.length_map, List.length_append, List.length_singleton]; omega)); k_whole); intro h' F' N'; (try k_sweep)))
local macro_rules | `(tactic| walk_at "setItem ref int") => `(tactic| (k_here; (with_reducible show wpAny _ _ (setItem (Value.ref _) (Value.int _ _) (Value.int _ _)) _ _ _); k_dflt (refine' kdf_setItem ?k1 ?k2 ?k3 ?k4 ?k5 ?k6 ?_; (case k1 => k_asm); (case k2 => k_asm); (case k3 => k_updF); (case k4 => k_asm); (case k5 => k_asm); (case k6 => k_asm)); intro h' o' kvs' F' N' hd' hf'; (try dsimp only at N'); (try k_sweep)))
local macro_rules | `(tactic| walk_at "subscriptTail") => `(tactic| (k_here; (with_reducible show wpAny _ _ (subscriptTail _ _ (Value.ref _) (Value.int _ _)) _ _ _); k_dflt (refine kdf_item (by k_tabat) (has_of_look (by assumption)) ?_); intro _))
local macro_rules | `(tactic| walk_at "call builtin:len") => `(tactic| (k_here; (with_reducible show wpAny _ _ (call (Value.builtin "len") [Value.ref _]) _ _ _); k_dflt (refine' len_any ?k1 ?k2 ?k3 ?k4 ?_; (case k1 => k_asm); (case k2 => k_mem); (case k3 => (simp only [List.size_toArray, List.length_append, List.length_map, List.length_cons, List.length_nil]; rfl)); (case k4 => omega); k_whole)))

def st0 : Stmt := (turnBody[0]?).getD (.Pass default)
def st1 : Stmt := (turnBody[1]?).getD (.Pass default)
def st2 : Stmt := (turnBody[2]?).getD (.Pass default)
theorem mem_turn {m : Str → Option Value} {a : Str} {u : Value} (h1 : m a = some u) : ∀ p ∈ [(a, u)], m p.1 = some p.2 := by
  intro p hp
  rw [List.mem_singleton.mp hp]; exact h1
theorem open_two {w : World} {x : Cx} {y : Sx} {own : List (Addr × Obj)} {h₀ h : Heap} {L : Addr} (hx : x.Ok) (hy : y.Ok w x own) (N : News h₀ L h (x.led w y ++ own)) :
    ∃ R : List (Addr × Obj), News h₀ L h ((x.tp, listOf #[.ref x.cs, .int y.draws y.ta] x.n1) :: (x.mcd, dictOf [ent w "code" x.m1 (.ref x.cd), ent w "deeds" x.m2 .none, ent w "place" x.m3 (.int y.place y.tpl), ent w "stack" x.m4 (.ref x.sk), ent w "frames" x.m5 (.ref x.fl), ent w "key" x.m6 (.str (Str.ofString "") x.v6), ent w "word" x.m7 (.str (Str.ofString "") x.v7)] 7) :: R) ∧ (∀ p ∈ rowsL w y.rows ++ own, p ∈ R) ∧ (x.cs, listOf x.ws.toArray x.c1) ∈ R ∧ (x.bg, tupObj #[.int 0 x.b1, .int 5 x.b2, .int 9 x.b3, .int 14 x.b4]) ∈ R ∧ (x.cd, instObj 184 x.cdd) ∈ R ∧ (x.cdd, dictOf [ent w "ops" x.c2 (.ref x.op), ent w "begins" x.c3 (.ref x.bg)] 2) ∈ R ∧ (x.mc, instObj 128 x.mcd) ∈ R ∧ (x.sk, listOf #[] y.ne) ∈ R ∧ (x.fl, listOf (y.rows.map fun r => Value.ref r.fa).toArray y.nf) ∈ R ∧ (x.pl, listOf (y.rows.map fun r => Value.ref r.pt).toArray y.np) ∈ R ∧ (∀ p ∈ R, p.1 ≠ x.tp) ∧ (∀ p ∈ R, p.1 ≠ x.mcd) := by
  have off : ∀ p ∈ rowsL w y.rows ++ own, Off x p.1 := fun p hp => (List.mem_append.mp hp).elim (hy.off p) (hy.offO p)
  have u1 : ∀ p ∈ rowsL w y.rows ++ own, p.1 ≠ x.tp := fun p hp e => by have z := (off p hp).1; rw [e] at z; exact absurd z (Nat.lt_asymm hx.tp_sk)
  have u2 : ∀ p ∈ rowsL w y.rows ++ own, p.1 ≠ x.mcd := fun p hp e => by have z := (off p hp).1; rw [e] at z; exact absurd z (Nat.lt_asymm hx.mcd_sk)
  unfold Cx.led at N
  rw [List.append_assoc] at N
  generalize rowsL w y.rows ++ own = R0 at *
  unfold Cx.fixed at N
  simp only [List.cons_append, List.nil_append] at N
  have z0 := ltN_of hx.cs_tp
  have z1 := ltN_of hx.tp_bg
  have z2 := ltN_of hx.tp_cd
  have z3 := ltN_of hx.tp_cdd
  have z4 := ltN_of hx.tp_mc
  have z5 := ltN_of hx.tp_sk
  have z6 := ltN_of hx.tp_fl
  have z7 := ltN_of hx.tp_pl
  have z8 := ltN_of hx.cs_mcd
  have z9 := ltN_of hx.bg_mcd
  have z10 := ltN_of hx.cd_mcd
  have z11 := ltN_of hx.cdd_mcd
  have z12 := ltN_of hx.mcd_mc
  have z13 := ltN_of hx.mcd_sk
  have z14 := ltN_of hx.mcd_fl
  have z15 := ltN_of hx.mcd_pl
  refine ⟨(x.cs, listOf x.ws.toArray x.c1) :: (x.bg, tupObj #[.int 0 x.b1, .int 5 x.b2, .int 9 x.b3, .int 14 x.b4]) :: (x.cd, instObj 184 x.cdd) :: (x.cdd, dictOf [ent w "ops" x.c2 (.ref x.op), ent w "begins" x.c3 (.ref x.bg)] 2) :: (x.mc, instObj 128 x.mcd) :: (x.sk, listOf #[] y.ne) :: (x.fl, listOf (y.rows.map fun r => Value.ref r.fa).toArray y.nf) :: (x.pl, listOf (y.rows.map fun r => Value.ref r.pt).toArray y.np) :: R0, kst_newsOf N ?_, fun p hp => ?_, by k_mem, by k_mem, by k_mem, by k_mem, by k_mem, by k_mem, by k_mem, by k_mem, ?_, ?_⟩
  · repeat (refine List.forall_mem_cons.mpr ⟨by k_mem, ?_⟩)
    intro p hp
    repeat (first | exact hp | refine List.Mem.tail _ ?_)
  · repeat (first | exact hp | refine List.Mem.tail _ ?_)
  all_goals k_all
theorem way_ok {w : World} {s₀ s : Shared} {mg mb : Str → Option Value} {x0 : Addr} {ob : Obj} {h₀ : Heap} {L fa cdv : Addr} {m : Str → Option Value} {own : List (Addr × Obj)} {x : Cx} {y : Sx} {deep : Bool} {turn : Int} {tt : Tok}
    {E : Value → Shared → Prop} {Q : Flow → Shared → Prop}
    (X : (pbhd.heap_39 w.params).In h₀) (T : Top pbhd.view_39 (looseW pbhd.view_39 [Str.ofString "LedgerError"]) (ExcName.means s₀.heap) mg mb h₀) (M : BMod h₀ mainGlobals mg x0 ob)
    (B : Below callerA h₀ [] h₀)
    (F : Fr h₀ L s.heap m) (lo : Loc x deep m) (lt : m (Str.ofString "turn") = some (.int turn tt))
    (N : News h₀ L s.heap (x.led w y ++ own)) (hx : x.Ok) (hy : y.Ok w x own) (hdr : y.draws ≤ 300)
    (h : ∀ h' tk m' y' way t1, Fr h₀ L h' m' → Loc x deep m' → m' (Str.ofString "way") = some (.int way t1) →
      News h₀ L h' (x.led w y' ++ own) → y'.Ok w x own → y'.draws ≤ y.draws + 1 → Q .next { s with heap := h', toks := tk }) :
    wpAny (model P0 w) (lawA L fa cdv) (execs [st0] (lawEnv L fa cdv)) Q E s := by
  w_top off
  have hfill : (PySem.Challenge.rw_pb0228_01, pbhd.heap_39) = (PySem.Challenge.rw_pb0228_01, pbhd.heap_39) := by k_fill; rfl
  clear hfill
  have F := fr_names (ps := [(Str.ofString "turn", .int turn tt), (Str.ofString "is_deep", .bool deep), (Str.ofString "tape", .ref x.tp)]) (List.forall_mem_cons.mpr ⟨lt, List.forall_mem_cons.mpr ⟨lo.n1, List.forall_mem_cons.mpr ⟨lo.n5, List.forall_mem_nil _⟩⟩⟩) F
  simp only [kstB] at F
  obtain ⟨hp, sg, sd, stk, sos⟩ := s
  dsimp only at F N h
  have hat := hy.at0
  obtain ⟨R, N0, hR, n0, n1, n2, n3, n4, n5, n6, n7, v0, v1⟩ := open_two hx hy N
  clear N
  have N := N0
  clear N0
  have hi := hx.hws
  have h0 := hx.pos
  have hlen := hx.len
  have zc := ltN_of hx.cs_tp
  have z0 := ltN_of hx.tp_mcd
  unfold lawA
  dsimp only [st0, turnBody, forStmt, lawBody, lawStmt, Challenge.pw_pb0228_01, List.getLast?, List.getLast, Option.getD, List.getElem?_cons_succ, List.getElem?_cons_zero]
  dsimp only [lawEnv, lawScope, lawStmt, Challenge.pw_pb0228_01, List.getLast?, List.getLast, Option.getD, List.getElem?_cons_succ, List.getElem?_cons_zero]
  k_steps
  all_goals (rename Fr _ _ _ _ => kF)
  all_goals (rename News _ _ _ _ => kN)
  all_goals
    refine' h _ _ _ { y with draws := _, ta := _ } _ _ kF ⟨rfl, lo.n2, lo.n3, lo.n4, rfl⟩ rfl ?news ?ok ?dr
    case news =>
      refine kst_newsOf kN (List.forall_mem_append.mpr ⟨List.forall_mem_append.mpr ⟨?_, fun p hp => ?_⟩, fun p hp => ?_⟩)
      · unfold Cx.fixed
        dsimp only
        repeat (refine List.forall_mem_cons.mpr ⟨by k_mem, ?_⟩)
        exact List.forall_mem_nil _
      · have hp : p ∈ R := hR p (List.mem_append_left _ hp)
        repeat (first | exact hp | refine List.Mem.tail _ ?_)
      · have hp : p ∈ R := hR p (List.mem_append_right _ hp)
        repeat (first | exact hp | refine List.Mem.tail _ ?_)
    case ok => exact hy.same rfl (by dsimp only; omega)
    case dr => dsimp only; omega
theorem spot_ok {w : World} {s₀ s : Shared} {mg mb : Str → Option Value} {x0 : Addr} {ob : Obj} {h₀ : Heap} {L fa cdv : Addr} {m : Str → Option Value} {own : List (Addr × Obj)} {x : Cx} {y : Sx} {deep : Bool} {way : Int} {tw : Tok}
    {E : Value → Shared → Prop} {Q : Flow → Shared → Prop}
    (X : (pbhd.heap_39 w.params).In h₀) (T : Top pbhd.view_39 (looseW pbhd.view_39 [Str.ofString "LedgerError"]) (ExcName.means s₀.heap) mg mb h₀) (M : BMod h₀ mainGlobals mg x0 ob)
    (B : Below callerA h₀ [] h₀)
    (F : Fr h₀ L s.heap m) (lo : Loc x deep m) (lt : m (Str.ofString "way") = some (.int way tw))
    (N : News h₀ L s.heap (x.led w y ++ own)) (hx : x.Ok) (hy : y.Ok w x own) (hdr : y.draws ≤ 310)
    (h : ∀ h' tk m' y' place index last t1 t2 t3 t4, Fr h₀ L h' m' → Loc x deep m' → m' (Str.ofString "way") = some (.int way t1) → m' (Str.ofString "place") = some (.int place t2) → m' (Str.ofString "index") = some (.int index t3) → m' (Str.ofString "last") = some (.int last t4) →
      News h₀ L h' (x.led w y' ++ own) → y'.Ok w x own → y'.place = place → 0 ≤ index → index < 4 → 0 ≤ last → last < 4 → y'.draws ≤ y.draws + 3 → Q .next { s with heap := h', toks := tk }) :
    wpAny (model P0 w) (lawA L fa cdv) (execs [st1, st2] (lawEnv L fa cdv)) Q E s := by
  w_top off
  have hfill : (PySem.Challenge.rw_pb0228_01, pbhd.heap_39) = (PySem.Challenge.rw_pb0228_01, pbhd.heap_39) := by k_fill; rfl
  clear hfill
  have F := fr_names (ps := [(Str.ofString "machine", .ref x.mc), (Str.ofString "tape", .ref x.tp)]) (List.forall_mem_cons.mpr ⟨lo.n3, List.forall_mem_cons.mpr ⟨lo.n5, List.forall_mem_nil _⟩⟩) F
  simp only [kstB] at F
  obtain ⟨hp, sg, sd, stk, sos⟩ := s
  dsimp only at F N h
  have hat := hy.at0
  obtain ⟨R, N0, hR, n0, n1, n2, n3, n4, n5, n6, n7, v0, v1⟩ := open_two hx hy N
  clear N
  have N := N0
  clear N0
  have hi := hx.hws
  have h0 := hx.pos
  have hlen := hx.len
  have zc := ltN_of hx.cs_tp
  have z0 := ltN_of hx.tp_mcd
  unfold lawA
  dsimp only [st1, st2, turnBody, forStmt, lawBody, lawStmt, Challenge.pw_pb0228_01, List.getLast?, List.getLast, Option.getD, List.getElem?_cons_succ, List.getElem?_cons_zero]
  dsimp only [lawEnv, lawScope, lawStmt, Challenge.pw_pb0228_01, List.getLast?, List.getLast, Option.getD, List.getElem?_cons_succ, List.getElem?_cons_zero]
  k_steps
  all_goals (rename Fr _ _ _ _ => kF)
  all_goals (rename News _ _ _ _ => kN)
  all_goals
    refine' h _ _ _ { y with draws := _, ta := _, place := _, tpl := _ } _ _ _ _ _ _ _ kF ⟨lo.n1, lo.n2, rfl, lo.n4, rfl⟩ lt rfl rfl rfl ?news ?ok rfl ?i0 ?i1 ?l0 ?l1 ?dr
    case news =>
      refine kst_newsOf kN (List.forall_mem_append.mpr ⟨List.forall_mem_append.mpr ⟨?_, fun p hp => ?_⟩, fun p hp => ?_⟩)
      · unfold Cx.fixed
        dsimp only
        repeat (refine List.forall_mem_cons.mpr ⟨by k_mem, ?_⟩)
        exact List.forall_mem_nil _
      · have hp : p ∈ R := hR p (List.mem_append_left _ hp)
        repeat (first | exact hp | refine List.Mem.tail _ ?_)
      · have hp : p ∈ R := hR p (List.mem_append_right _ hp)
        repeat (first | exact hp | refine List.Mem.tail _ ?_)
    case ok => exact hy.same rfl (by dsimp only; omega)
    case dr => dsimp only; omega
    all_goals assumption
theorem head_ok {w : World} {s₀ s : Shared} {mg mb : Str → Option Value} {x0 : Addr} {ob : Obj} {h₀ : Heap} {L fa cdv : Addr} {m : Str → Option Value} {own : List (Addr × Obj)} {x : Cx} {y : Sx} {deep : Bool} {turn : Int} {tt : Tok}
    {E : Value → Shared → Prop} {Q : Flow → Shared → Prop}
    (X : (pbhd.heap_39 w.params).In h₀) (T : Top pbhd.view_39 (looseW pbhd.view_39 [Str.ofString "LedgerError"]) (ExcName.means s₀.heap) mg mb h₀) (M : BMod h₀ mainGlobals mg x0 ob)
    (B : Below callerA h₀ [] h₀)
    (F : Fr h₀ L s.heap m) (lo : Loc x deep m) (lt : m (Str.ofString "turn") = some (.int turn tt))
    (N : News h₀ L s.heap (x.led w y ++ own)) (hx : x.Ok) (hy : y.Ok w x own) (hdr : y.draws ≤ 300)
    (h : ∀ h' tk m' y' way place index last t1 t2 t3 t4, Fr h₀ L h' m' → Loc x deep m' → m' (Str.ofString "way") = some (.int way t1) → m' (Str.ofString "place") = some (.int place t2) → m' (Str.ofString "index") = some (.int index t3) → m' (Str.ofString "last") = some (.int last t4) →
      News h₀ L h' (x.led w y' ++ own) → y'.Ok w x own → y'.place = place → 0 ≤ index → index < 4 → 0 ≤ last → last < 4 → y'.draws ≤ y.draws + 4 → Q .next { s with heap := h', toks := tk }) :
    wpAny (model P0 w) (lawA L fa cdv) (execs [st0, st1, st2] (lawEnv L fa cdv)) Q E s :=
  execs_app (a := [st0]) (way_ok X T M B F lo lt N hx hy hdr fun h1 tk1 m1 y1 way t1 F1 lo1 a1 N1 hy1 d1 =>
    spot_ok (s := ⟨h1, s.gens, s.drawn, tk1, s.os⟩) X T M B F1 lo1 a1 N1 hx hy1 (by omega) fun h' tk m' y' place index last t1 t2 t3 t4 F' lo' b1 b2 b3 b4 N' hy' e i0 i1 l0 l1 d => h h' tk m' y' way place index last t1 t2 t3 t4 F' lo' b1 b2 b3 b4 N' hy' e i0 i1 l0 l1 (by omega))
end PB
end
section
open PySem PySem.W PyProof.Rows PySem.Calls PySem.Spec PyProof.V
namespace PB
section
variable {prog : Program} {w : World} {A : Around} {E : Value → Shared → Prop} {s : Shared}
theorem sliceTo2 {sl : Addr} {u : Tok} {Q : Int × Int × Nat → Shared → Prop} (hs : s.heap.IsSliceOf sl .none (.int 2 u) .none) (h : Q (0, 1, 2) s) :
    wpAny (model prog w) A (Builtin.Slice.sliceApplied (.ref sl) (pure 3)) Q E s := by
  obtain ⟨os, hos, hcs, hds⟩ := id hs
  unfold Builtin.Slice.sliceApplied Builtin.Slice.sliceFields
  refine wpAny_bind (wpAny_bind (wpAny_field hos hds (x := .none) rfl (wpAny_bind (wpAny_field hos hds (x := .int 2 u) rfl (wpAny_bind (wpAny_field hos hds (x := .none) rfl (wpAny_pure ?_)))))))
  refine wpAny_bind (slicePart_none ?_)
  show wpAny _ _ (if ((1 : Int) == 0) = true then _ else _) _ _ s
  rw [if_neg (by decide)]
  refine wpAny_bind (slicePart_none (wpAny_bind (slicePart_int (wpAny_bind (wpAny_pure ?_)))))
  exact wpAny_pure h
theorem getTo2 {t sl : Addr} {a b c : Value} {u : Tok} {Q : Value → Shared → Prop} (ht : IsTup s.heap t #[a, b, c]) (hs : s.heap.IsSliceOf sl .none (.int 2 u) .none)
    (h : Q (.ref s.heap.objs.size) { s with heap := s.heap.push { cls := .type "tuple", data := .seq #[a, b] } }) : wpAny (model prog w) A (getItem (.ref t) (.ref sl)) Q E s := by
  have hdrop : sizeOk (.seq #[a, b]) := by show 2 ≤ sizeLine; rw [sizeLine_eq]; decide
  obtain ⟨os, hos, hcs, hds⟩ := id hs
  have hTs : s.TypeIs (.ref sl) "slice" := ⟨os, hos, hcs⟩
  unfold getItem
  try with_reducible refine wpAny_holding ?_
  first | refine wpAny_bind (wpAny_pure ?_) | skip
  refine wpAny_bind (wpAny_sequenceKey ht.typeIs (by decide) ?_)
  refine wpAny_bind (wpAny_callSpecial?_slot (name := Str.ofString "__getitem__") ht.typeIs slot_tuple_getitem
    (wpAny_call_entry slot_tuple_getitem ht.typeIs entry_tuple_getitem ?_ (args_tuple_getitem _ _)))
  show wpAny _ _ (Builtin.Tuple.tupleItemsOf (.ref t) >>= _) _ _ s
  refine wpAny_bind (tupleItemsOf_ ht ?_)
  refine wpAny_bind (wpAny_typeOf hTs ?_)
  rw [if_pos (by decide)]
  refine wpAny_bind (sliceTo2 hs ?_)
  show wpAny _ _ (if ((0 : Int) == 0 && (1 : Int) == 1 && (2 == 3)) = true then _ else _) _ _ s
  rw [if_neg (by decide)]
  first
    | exact wpAny_bind (m := Builtin.Tuple.tupleExact _) (wpAny_newObj_type (wpAny_pure ⟨_, rfl, wpAny_pure h⟩) hdrop)
    | exact wpAny_bind (m := Builtin.Tuple.tupleExact _) (wpAny_newObj_type (wpAny_bind (wpAny_pure (wpAny_pure ⟨_, rfl, wpAny_pure h⟩))) hdrop)
    | exact wpAny_bind (wpAny_bind (m := Builtin.Tuple.tupleExact _) (wpAny_newObj_type (wpAny_pure (wpAny_pure ⟨_, rfl, wpAny_pure h⟩)) hdrop))
    | exact wpAny_bind (wpAny_bind (m := Builtin.Tuple.tupleExact _) (wpAny_newObj_type (wpAny_pure ⟨_, rfl, wpAny_pure h⟩) hdrop))
end
section
variable {prog : Program} {w : World} {A : Around} {E : Value → Shared → Prop} {s : Shared} {h₀ : Heap} {L : Addr} {m : Str → Option Value} {news : List (Addr × Obj)}
theorem slice_two {value slice : Expr} {t : Addr} {a b c : Value} {u : Tok} {Q : Value → Shared → Prop}
    (F : Fr h₀ L s.heap m) (N : News h₀ L s.heap news) (hm : (t, ({ cls := .type "tuple", data := .seq #[a, b, c] } : Obj)) ∈ news)
    (h : ∀ D h', Fr h₀ L h' m → News h₀ L h' ((D, { cls := .type "tuple", data := .seq #[a, b] }) :: news) → (∀ p ∈ news, p.1 < D) → Q (.ref D) { s with heap := h' })
    (hs : subscripted slice false (.ref t) (.ref s.heap.objs.size) = operate [.ref s.heap.objs.size, .ref t] (getItem (.ref t) (.ref s.heap.objs.size)) := by with_unfolding_all rfl)
    (hg : ∀ r, letTemporaryGo value (.ref t) r = pure () := by intro _; with_unfolding_all rfl) :
    wpAny (model prog w) A (subscriptTail value slice (.ref t) (.ref s.heap.objs.size)) Q E { s with heap := s.heap.push { cls := .type "slice", data := .fields #[.none, .int 2 u, .none] } } := by
  have ht : IsTup s.heap t #[a, b, c] := News.isTup N hm
  have ht' : IsTup (s.heap.push { cls := .type "slice", data := .fields #[.none, .int 2 u, .none] }) t #[a, b, c] := ht.keeps fun _ _ e => Heap.get?_push_of_some _ e
  refine subscriptTail_ops (s := { s with heap := s.heap.push { cls := .type "slice", data := .fields #[.none, .int 2 u, .none] } }) ht'.typeIs slot_tuple_getitem.lookup
    (getTo2 ht' (Heap.IsSliceOf.new ..) ?_) hs hg
  have N1 := News.push (F.push { cls := .type "slice", data := .fields #[.none, .int 2 u, .none] }) (N.grown fun _ _ e => Heap.get?_push_of_some _ e) { cls := .type "tuple", data := .seq #[a, b] }
  rw [Heap.size_push] at N1
  show Q (.ref (s.heap.push _).objs.size) _
  rw [Heap.size_push]
  exact h _ _ ((F.push _).push _) N1 fun p hp => Nat.lt_succ_of_lt (Heap.lt_size (N p hp).1)
end
theorem allLt_mem {d : Nat} : ∀ {l : List (Addr × Obj)}, AllLt d l → ∀ p ∈ l, @LT.lt Nat _ p.1 d
  | [], _, _, h => nomatch h
  | _ :: _, x, p, h => by
    rcases List.mem_cons.mp h with rfl | h
    · exact x.1
    · exact allLt_mem x.2 p h
end PB
end
section
open PySem PySem.W PyProof.Rows PySem.Calls PySem.Spec PyProof.V
namespace PB
def noExpr : Expr := .Constant .none 0 ⟨0, 0, 0, 0⟩
def testOf (s : Stmt) : Expr := match s with | .If (test := t) .. => t | _ => noExpr
def orLast (e : Expr) : Expr := match e with | .BoolOp _ es _ => es.getLast?.getD noExpr | _ => noExpr
def cmpL (e : Expr) : Expr := match e with | .Compare l _ _ _ => l | _ => noExpr
def cmpR (e : Expr) : Expr := match e with | .Compare _ _ rs _ => rs[0]?.getD noExpr | _ => noExpr
def eltOf (e : Expr) : Expr := match e with | .ListComp e _ _ _ => e | _ => noExpr
def scopeOf (e : Expr) : Scope := match e with | .ListComp _ _ s _ => s | _ => default
def if1 : Stmt := (turnBody[4]?).getD (.Pass default)
def if2 : Stmt := (turnBody[5]?).getD (.Pass default)
def comp1 : Expr := cmpL (orLast (testOf if1))
def comp2 : Expr := cmpR (orLast (testOf if1))
def comp3 : Expr := cmpL (testOf if2)
def comp4 : Expr := cmpR (testOf if2)

def compS (e : Expr) : Scope := scopeOf e
local macro_rules | `(tactic| k_mem) => `(tactic| with_reducible assumption)
local macro_rules | `(tactic| walk_at "subscriptTail") => `(tactic| (k_here; (with_reducible show wpAny _ _ (subscriptTail _ _ (Value.ref _) (Value.ref _)) _ _ _); k_dflt (refine' slice_two ?k1 ?k2 ?k3 ?_ ?k4 ?k5; (case k1 => k_asm); (case k2 => k_asm); (case k3 => k_mem); (case k4 => with_unfolding_all rfl); (case k5 => (intro _; with_unfolding_all rfl)); k_whole; intro D' h' F' N' l1; (try k_lt l1); (try k_sweep))))
section
variable {w : World} {s₀ s : Shared} {mg mb : Str → Option Value} {x0 : Addr} {ob : Obj} {h₀ : Heap} {L fa cdv C : Addr} {m m₂ : Str → Option Value} {oC : Obj} {led : List (Addr × Obj)} {r : Row} {cl : List (Str × Addr)}
    {E : Value → Shared → Prop} {Q : Value → Shared → Prop}
theorem elt1
    (X : (pbhd.heap_39 w.params).In h₀) (T : Top pbhd.view_39 (looseW pbhd.view_39 [Str.ofString "LedgerError"]) (ExcName.means s₀.heap) mg mb h₀) (M : BMod h₀ mainGlobals mg x0 ob)
    (B : Below callerA h₀ [] h₀)
    (F : Fr h₀ L s.heap m) (N : News h₀ L s.heap led) (mC : (C, oC) ∈ led) (hC : LCg.NsObj oC m₂) (hx : m₂ (Str.ofString "frame") = some (.ref r.fa)) (m1 : (r.fa, instObj 100 r.fd) ∈ led)
    (m2 : (r.fd, dictOf [ent w "last" r.t1 (.int r.last r.t2), ent w "behind" r.t3 (.int r.behind r.t4), ent w "slots" r.t5 (.ref r.sd)] 3) ∈ led)
    (h : ∀ D h' tk, Fr h₀ L h' m → News h₀ L h' ((D, tupObj #[.int r.last r.t2, .int r.behind r.t4]) :: led) → (∀ p ∈ led, p.1 < D) → Q (.ref D) { s with heap := h', toks := tk }) :
    wpAny (model P0 w) (lawA L fa cdv) (eval (eltOf comp1) (compEnvC (scopeOf comp1) cl C (lawEnv L fa cdv))) Q E s := by
  w_top off
  have hfill : (PySem.Challenge.rw_pb0228_01, pbhd.heap_39) = (PySem.Challenge.rw_pb0228_01, pbhd.heap_39) := by k_fill; rfl
  clear hfill
  unfold lawA
  dsimp only [eltOf, comp1, comp2, comp3, comp4, cmpL, cmpR, orLast, testOf, if1, if2, turnBody, forStmt, lawBody, lawStmt, Challenge.pw_pb0228_01, List.getLast?, List.getLast, Option.getD, List.getElem?_cons_succ, List.getElem?_cons_zero]
  dsimp only [scopeOf, comp1, comp2, comp3, comp4, cmpL, cmpR, orLast, testOf, if1, if2, turnBody, forStmt, lawBody, lawStmt, Challenge.pw_pb0228_01, List.getLast?, List.getLast, Option.getD, List.getElem?_cons_succ, List.getElem?_cons_zero]
  dsimp only [lawEnv, lawScope, lawStmt, Challenge.pw_pb0228_01, List.getLast?, List.getLast, Option.getD, List.getElem?_cons_succ, List.getElem?_cons_zero]
  k_steps
  (rename Fr _ _ _ _ => kF)
  (rename News _ _ _ _ => kN)
  exact h _ _ _ kF kN (by first | assumption | exact allLt_mem (by assumption))
theorem elt2
    (X : (pbhd.heap_39 w.params).In h₀) (T : Top pbhd.view_39 (looseW pbhd.view_39 [Str.ofString "LedgerError"]) (ExcName.means s₀.heap) mg mb h₀) (M : BMod h₀ mainGlobals mg x0 ob)
    (B : Below callerA h₀ [] h₀)
    (F : Fr h₀ L s.heap m) (N : News h₀ L s.heap led) (mC : (C, oC) ∈ led) (hC : LCg.NsObj oC m₂) (hx : m₂ (Str.ofString "row") = some (.ref r.pt)) (m1 : (r.pt, tupObj #[.int r.last r.t6, .int r.behind r.t7, .ref r.pd]) ∈ led)
    (h : ∀ D h' tk, Fr h₀ L h' m → News h₀ L h' ((D, tupObj #[.int r.last r.t6, .int r.behind r.t7]) :: led) → (∀ p ∈ led, p.1 < D) → Q (.ref D) { s with heap := h', toks := tk }) :
    wpAny (model P0 w) (lawA L fa cdv) (eval (eltOf comp2) (compEnvC (scopeOf comp2) cl C (lawEnv L fa cdv))) Q E s := by
  w_top off
  have hfill : (PySem.Challenge.rw_pb0228_01, pbhd.heap_39) = (PySem.Challenge.rw_pb0228_01, pbhd.heap_39) := by k_fill; rfl
  clear hfill
  unfold lawA
  dsimp only [eltOf, comp1, comp2, comp3, comp4, cmpL, cmpR, orLast, testOf, if1, if2, turnBody, forStmt, lawBody, lawStmt, Challenge.pw_pb0228_01, List.getLast?, List.getLast, Option.getD, List.getElem?_cons_succ, List.getElem?_cons_zero]
  dsimp only [scopeOf, comp1, comp2, comp3, comp4, cmpL, cmpR, orLast, testOf, if1, if2, turnBody, forStmt, lawBody, lawStmt, Challenge.pw_pb0228_01, List.getLast?, List.getLast, Option.getD, List.getElem?_cons_succ, List.getElem?_cons_zero]
  dsimp only [lawEnv, lawScope, lawStmt, Challenge.pw_pb0228_01, List.getLast?, List.getLast, Option.getD, List.getElem?_cons_succ, List.getElem?_cons_zero]
  k_steps
  (rename Fr _ _ _ _ => kF)
  (rename News _ _ _ _ => kN)
  exact h _ _ _ kF kN (by first | assumption | exact allLt_mem (by assumption))
end

theorem datAll_snoc {ns : List (Addr × Obj)} {y : Value} {d : Dat} (hy : DatIn ns y d) : ∀ {ys : List Value} {ds : List Dat}, DatAll ns ys ds → DatAll ns (ys ++ [y]) (ds ++ [d])
  | _, _, .nil => .cons hy .nil
  | _, _, .cons a b => .cons a (datAll_snoc hy b)
section
variable {prog : Program} {w : World} {A : Around} {s : Shared} {h₀ : Heap} {L : Addr} {m : Str → Option Value} {env : Env} {elt : Expr} {x : Str} {scope : Scope} {cl : List (Str × Addr)}
    {rows : List Row} {f : Row → Value} {g : Row → Dat} {led : List (Addr × Obj)} {ax : Addr} {k₀ : Nat} {Fin : List Value → List (Addr × Obj) → Prop}
theorem comp_rows (hax : (ax, listOf (rows.map f).toArray k₀) ∈ led)
    (hstep : ∀ r ∈ rows, ∀ (C : Addr) (oC : Obj) (m₂ : Str → Option Value) (hh : Heap) (tk : Nat) (ns : List (Addr × Obj)) (E' : Value → Shared → Prop) (Q' : Value → Shared → Prop), LCg.NsObj oC m₂ → m₂ x = some (f r) → Fr h₀ L hh m → News h₀ L hh ns → (C, oC) ∈ ns → (∀ p ∈ led, p ∈ ns) →
      (∀ h' tk' new y, Fr h₀ L h' m → News h₀ L h' (new ++ ns) → (∀ q ∈ new, ∀ p ∈ ns, p.1 < q.1) → DatIn new y (g r) → Q' y { s with heap := h', toks := tk' }) →
      wpAny (model prog w) A (eval elt (compEnvC scope cl C env)) Q' E' { s with heap := hh, toks := tk })
    (hfin : ∀ ys ns, (∀ p ∈ led, p ∈ ns) → DatAll ns ys (rows.map g) → Fin ys ns) :
    ∀ (k i : Nat) (ys : List Value) (ns : List (Addr × Obj)), i + k = rows.length → (∀ p ∈ led, p ∈ ns) → DatAll ns ys ((rows.take i).map g) →
      LCg.CompRest prog w A h₀ L m env elt x scope cl s (LCg.SrcAt h₀ ax (rows.map f).toArray) (fun i v => (rows.map f).toArray[i]? = some v) Fin k i ys ns
  | 0, i, ys, ns, hi, hs, hd => by
    refine LCg.CompRest.zero (hfin ys ns hs ?_)
    rw [List.take_of_length_le (by omega)] at hd
    exact hd
  | k + 1, i, ys, ns, hi, hs, hd => by
    refine LCg.CompRest.succ fun v I oI C oC D m₂ hh tk E' hv hC hx F N off ne => ?_
    have hlt : i < rows.length := by omega
    have ev : v = f rows[i] := by simpa [hlt] using hv.symm
    refine hstep rows[i] (List.getElem_mem hlt) C oC m₂ hh tk _ E' _ hC (ev ▸ hx) F N (.tail _ (.head _)) (fun p hp => .tail _ (.tail _ (.tail _ (hs p hp)))) fun h' tk' new y F' N' ap hy => ?_
    refine LCg.CompEnd.intro F' N' (new ++ ns) (fun p hp => ?_) (LCg.Off3.of fun p hp => ?_) (.inr ⟨_, List.mem_append_right _ (hs _ hax), rfl, _, rfl⟩) ?_
    · rcases List.mem_cons.mp hp with rfl | hp
      · exact List.mem_append_right _ (.head _)
      rcases List.mem_cons.mp hp with rfl | hp
      · exact List.mem_append_right _ (.tail _ (.head _))
      rcases List.mem_cons.mp hp with rfl | hp
      · exact List.mem_append_right _ (.tail _ (.tail _ (.head _)))
      rcases List.mem_append.mp hp with hp | hp
      · exact List.mem_append_left _ hp
      · exact List.mem_append_right _ (.tail _ (.tail _ (.tail _ hp)))
    · rcases List.mem_append.mp hp with hp | hp
      · exact ⟨Nat.ne_of_gt (ap p hp _ (.head _)), Nat.ne_of_gt (ap p hp _ (.tail _ (.head _))), Nat.ne_of_gt (ap p hp _ (.tail _ (.tail _ (.head _))))⟩
      · exact off.mem p hp
    · refine comp_rows hax hstep hfin k (i + 1) (ys ++ [y]) (new ++ ns) (by omega) (fun p hp => List.mem_append_right _ (hs p hp)) ?_
      rw [List.take_succ_eq_append_getElem hlt, List.map_append]
      exact datAll_snoc (hy.mono fun p hp => List.mem_append_left _ hp) (hd.mono fun p hp => List.mem_append_right _ hp)
end

def gensOf (e : Expr) : List Comprehension := match e with | .ListComp _ g _ _ => g | _ => []
def iterOf (e : Expr) : Expr := match gensOf e with | ⟨_, i, _, _⟩ :: _ => i | _ => noExpr
def posOf1 (e : Expr) : Pos := match gensOf e with | ⟨.Name _ p, _, _, _⟩ :: _ => p | _ => ⟨0, 0, 0, 0⟩
def posOf2 (e : Expr) : Pos := match e with | .ListComp _ _ _ p => p | _ => ⟨0, 0, 0, 0⟩
section
variable {w : World} {s₀ s : Shared} {mg mb : Str → Option Value} {x0 : Addr} {ob : Obj} {h₀ : Heap} {L fa cdv : Addr} {m : Str → Option Value} {led : List (Addr × Obj)} {rows : List Row} {x : Cx} {nf : Nat} {plc : Int} {tpl : Tok}
    {E : Value → Shared → Prop} {Q : Value → Shared → Prop}

theorem comp1_ok
    (X : (pbhd.heap_39 w.params).In h₀) (T : Top pbhd.view_39 (looseW pbhd.view_39 [Str.ofString "LedgerError"]) (ExcName.means s₀.heap) mg mb h₀) (M : BMod h₀ mainGlobals mg x0 ob)
    (B : Below callerA h₀ [] h₀) (F : Fr h₀ L s.heap m) (hm : m (Str.ofString "machine") = some (.ref x.mc)) (N : News h₀ L s.heap led)
    (m1 : (x.mc, instObj 128 x.mcd) ∈ led) (m2 : (x.mcd, dictOf [ent w "code" x.m1 (.ref x.cd), ent w "deeds" x.m2 .none, ent w "place" x.m3 (.int plc tpl), ent w "stack" x.m4 (.ref x.sk), ent w "frames" x.m5 (.ref x.fl), ent w "key" x.m6 (.str (Str.ofString "") x.v6), ent w "word" x.m7 (.str (Str.ofString "") x.v7)] 7) ∈ led)
    (m3 : (x.fl, listOf (rows.map fun r => Value.ref r.fa).toArray nf) ∈ led) (hlen : rows.length ≤ 100) (hr : ∀ r ∈ rows, ∀ p ∈ r.objs w, p ∈ led) (hok : ∀ r ∈ rows, r.Ok w)
    (h : ∀ D h' tk ys ns, Fr h₀ L h' m → News h₀ L h' ((D, LCg.lst ys) :: ns) → (∀ p ∈ led, p ∈ ns) → DatAll ns ys (rows.map (fun r => Dat.tuple [.int r.last, .int r.behind])) → Q (.ref D) { s with heap := h', toks := tk }) :
    wpAny (model P0 w) (lawA L fa cdv) (eval comp1 (lawEnv L fa cdv)) Q E s := by
  w_top off
  have hfill : (PySem.Challenge.rw_pb0228_01, pbhd.heap_39) = (PySem.Challenge.rw_pb0228_01, pbhd.heap_39) := by k_fill; rfl
  clear hfill
  have F' := fr_names (ps := [(Str.ofString "machine", .ref x.mc)]) (fun p hp => by rw [List.mem_singleton.mp hp]; exact hm) F
  simp only [kstB] at F'
  have em : m = fun y => if y = Str.ofString "machine" then some (Value.ref x.mc) else m y := by
    funext y
    by_cases e : y = Str.ofString "machine"
    · rw [if_pos e, e, hm]
    · rw [if_neg e]
  have e0 : comp1 = .ListComp (eltOf comp1) [⟨.Name (Str.ofString "frame") (posOf1 comp1), (iterOf comp1), [], 0⟩] (scopeOf comp1) (posOf2 comp1) := rfl
  rw [e0]
  refine LCg.ListComp_U (cl := []) F' (by rfl) (by decide) (by rfl) (by decide) (by rfl) ?_
  unfold lawA
  dsimp only [lawEnv, lawScope, lawStmt, Challenge.pw_pb0228_01, List.getLast?, List.getLast, Option.getD, List.getElem?_cons_succ, List.getElem?_cons_zero]
  clear F
  obtain ⟨q1, q2, e1⟩ : ∃ p q, iterOf comp1 = .Attribute (.Name (Str.ofString "machine") p) (Str.ofString "frames") q := ⟨_, _, rfl⟩
  rw [e1]
  iterate 3 (first | walk1 | (dsimp only; walk1))
  refine LCg.CompSrc.ledger (by rfl) F' N m3 (by rw [List.size_toArray, List.length_map, sizeLine_eq]; omega) ?_
  intro g'
  refine comp_rows m3 (g := (fun r => Dat.tuple [.int r.last, .int r.behind])) (fun r hrm C oC m₂ hh tk ns E' Q' hC hx F₁ N₁ mC hs k => ?_) (fun ys ns hs hd => ?_) _ 0 [] led (by simp) (fun p hp => hp) .nil
  · exact elt1 X T M B F₁ N₁ mC hC hx (hs _ (hr r hrm _ (.head _))) (hs _ (hr r hrm _ (.tail _ (.head _)))) fun D h' tk' F₂ N₂ ap => k h' tk' [_] _ F₂ N₂ (fun q hq p hp => by rw [List.mem_singleton.mp hq]; exact ap p hp) (.tuple (vs := [_, _]) (.head _) (.cons (.int _ _) (.cons (.int _ _) .nil)))
  · intro D h' tk F₁ N₁ _
    exact h D h' tk ys ns (em ▸ F₁) N₁ hs hd

theorem comp2_ok
    (X : (pbhd.heap_39 w.params).In h₀) (T : Top pbhd.view_39 (looseW pbhd.view_39 [Str.ofString "LedgerError"]) (ExcName.means s₀.heap) mg mb h₀) (M : BMod h₀ mainGlobals mg x0 ob)
    (B : Below callerA h₀ [] h₀) (F : Fr h₀ L s.heap m) (hm : m (Str.ofString "pile") = some (.ref x.pl)) (N : News h₀ L s.heap led)
    
    (m3 : (x.pl, listOf (rows.map fun r => Value.ref r.pt).toArray nf) ∈ led) (hlen : rows.length ≤ 100) (hr : ∀ r ∈ rows, ∀ p ∈ r.objs w, p ∈ led) (hok : ∀ r ∈ rows, r.Ok w)
    (h : ∀ D h' tk ys ns, Fr h₀ L h' m → News h₀ L h' ((D, LCg.lst ys) :: ns) → (∀ p ∈ led, p ∈ ns) → DatAll ns ys (rows.map (fun r => Dat.tuple [.int r.last, .int r.behind])) → Q (.ref D) { s with heap := h', toks := tk }) :
    wpAny (model P0 w) (lawA L fa cdv) (eval comp2 (lawEnv L fa cdv)) Q E s := by
  w_top off
  have hfill : (PySem.Challenge.rw_pb0228_01, pbhd.heap_39) = (PySem.Challenge.rw_pb0228_01, pbhd.heap_39) := by k_fill; rfl
  clear hfill
  have F' := fr_names (ps := [(Str.ofString "pile", .ref x.pl)]) (fun p hp => by rw [List.mem_singleton.mp hp]; exact hm) F
  simp only [kstB] at F'
  have em : m = fun y => if y = Str.ofString "pile" then some (Value.ref x.pl) else m y := by
    funext y
    by_cases e : y = Str.ofString "pile"
    · rw [if_pos e, e, hm]
    · rw [if_neg e]
  have e0 : comp2 = .ListComp (eltOf comp2) [⟨.Name (Str.ofString "row") (posOf1 comp2), (iterOf comp2), [], 0⟩] (scopeOf comp2) (posOf2 comp2) := rfl
  rw [e0]
  refine LCg.ListComp_U (cl := []) F' (by rfl) (by decide) (by rfl) (by decide) (by rfl) ?_
  unfold lawA
  dsimp only [lawEnv, lawScope, lawStmt, Challenge.pw_pb0228_01, List.getLast?, List.getLast, Option.getD, List.getElem?_cons_succ, List.getElem?_cons_zero]
  clear F
  obtain ⟨q1, e1⟩ : ∃ p, iterOf comp2 = .Name (Str.ofString "pile") p := ⟨_, rfl⟩
  rw [e1]
  iterate 1 (first | walk1 | (dsimp only; walk1))
  refine LCg.CompSrc.ledger (by rfl) F' N m3 (by rw [List.size_toArray, List.length_map, sizeLine_eq]; omega) ?_
  intro g'
  refine comp_rows m3 (g := (fun r => Dat.tuple [.int r.last, .int r.behind])) (fun r hrm C oC m₂ hh tk ns E' Q' hC hx F₁ N₁ mC hs k => ?_) (fun ys ns hs hd => ?_) _ 0 [] led (by simp) (fun p hp => hp) .nil
  · exact elt2 X T M B F₁ N₁ mC hC hx (hs _ (hr r hrm _ (.tail _ (.tail _ (.tail _ (.head _)))))) fun D h' tk' F₂ N₂ ap => k h' tk' [_] _ F₂ N₂ (fun q hq p hp => by rw [List.mem_singleton.mp hq]; exact ap p hp) (.tuple (vs := [_, _]) (.head _) (.cons (.int _ _) (.cons (.int _ _) .nil)))
  · intro D h' tk F₁ N₁ _
    exact h D h' tk ys ns (em ▸ F₁) N₁ hs hd
end
end PB
end
section
open PySem PySem.W PyProof.Rows PySem.Calls PySem.Spec PyProof.V
namespace PB
def runT (lt : Nat → Nat → Bool) {α : Type} : KasT α → α
  | .ret a => a
  | .ask i j k => runT lt (k (lt i j))
def okT (N : Nat) {α : Type} : KasT α → Bool
  | .ret _ => true
  | .ask i j k => decide (i < N) && decide (j < N) && okT N (k true) && okT N (k false)
theorem runT_wp {α : Type} {cmp : Nat → Nat → (Bool → Shared → Prop) → Shared → Prop} {lt : Nat → Nat → Bool} {N : Nat} {Q : α → Shared → Prop} {s : Shared}
    (hc : ∀ i j, i < N → j < N → ∀ C : Bool → Shared → Prop, C (lt i j) s → cmp i j C s) : ∀ t : KasT α, okT N t = true → Q (runT lt t) s → t.kasWp cmp Q s
  | .ret _, _, h => h
  | .ask i j k, ho, h => by
    simp only [okT, Bool.and_eq_true, decide_eq_true_eq] at ho
    refine hc i j ho.1.1.1 ho.1.1.2 _ (runT_wp hc (k (lt i j)) ?_ h)
    cases lt i j
    · exact ho.2
    · exact ho.1.2
theorem ok2 : okT 2 (kas_sort 2) = true := by decide +kernel
theorem ok3 : okT 3 (kas_sort 3) = true := by decide +kernel
theorem ok4 : okT 4 (kas_sort 4) = true := by decide +kernel
abbrev pairDat (p : Int × Int) : Dat := .tuple [.int p.1, .int p.2]
def ltp (p q : Int × Int) : Bool := if p.1 = q.1 then (if p.2 = q.2 then false else decide (p.2 < q.2)) else decide (p.1 < q.1)
def idxOf (c : List (Int × Int)) : List Nat := (runT (fun i j => ltp (c.getD i (0, 0)) (c.getD j (0, 0))) (kas_sort c.length)).toList
def outOf (c : List (Int × Int)) (vs : List Value) : List Value := if c.length < 2 then vs else (idxOf c).map fun i => vs.getD i .none
def outD (c : List (Int × Int)) : List Dat := if c.length < 2 then c.map pairDat else (idxOf c).map fun i => (c.map pairDat).getD i .none
theorem datAll_getD {ns : List (Addr × Obj)} {vs : List Value} {ds : List Dat} (h : DatAll ns vs ds) (i : Nat) : DatIn ns (vs.getD i .none) (ds.getD i .none) := by
  by_cases hi : i < ds.length
  · obtain ⟨v, e, d⟩ := h.get hi
    rw [List.getD_eq_getElem?_getD, List.getD_eq_getElem?_getD, e, List.getElem?_eq_getElem hi]
    exact d
  · have hl := h.length
    rw [List.getD_eq_getElem?_getD, List.getD_eq_getElem?_getD, List.getElem?_eq_none (by omega), List.getElem?_eq_none (by omega)]
    exact .none
theorem datAll_out {ns : List (Addr × Obj)} {vs : List Value} {c : List (Int × Int)} (h : DatAll ns vs (c.map pairDat)) : DatAll ns (outOf c vs) (outD c) := by
  unfold outOf outD
  split
  · exact h
  · generalize idxOf c = l
    induction l with
    | nil => exact .nil
    | cons i l ih => exact .cons (datAll_getD h i) ih
/-- one pair of the ledger, read back -/
theorem pair_of {ns : List (Addr × Obj)} {v : Value} {p : Int × Int} (h : DatIn ns v (pairDat p)) : ∃ a k t u, v = .ref a ∧ (a, ({ cls := .type "tuple", data := .seq #[.int p.1 t, .int p.2 u] k } : Obj)) ∈ ns := by
  cases h with
  | @tuple a vs n ds hm hd =>
    cases hd with
    | cons h1 hd =>
      cases hd with
      | cons h2 hd =>
        cases hd
        cases h1
        cases h2
        exact ⟨_, _, _, _, rfl, hm⟩
section
variable {prog : Program} {w : World} {A : Around} {E : Value → Shared → Prop} {s : Shared}
theorem ask_pair {x y : Addr} {p q : Int × Int} {k₁ k₂ : Nat} {t₁ t₂ u₁ u₂ : Tok} {C : Bool → Shared → Prop} (hx : s.heap.get? x = some ({ cls := .type "tuple", data := .seq #[.int p.1 t₁, .int p.2 u₁] k₁ } : Obj))
    (hy : s.heap.get? y = some ({ cls := .type "tuple", data := .seq #[.int q.1 t₂, .int q.2 u₂] k₂ } : Obj)) (h : C (ltp p q) s) : wpAny (model prog w) A (keyLt' (tuples' true) (.ref x) (.ref y)) C E s := by
  refine kat_lt hx rfl hy rfl ?_
  show KatLex prog w A true false C [(.int p.1 t₁, .int q.1 t₂), (.int p.2 u₁, .int q.2 u₂)] 0 s
  refine kat_cons (wpAny_eqBool_int ?_)
  unfold ltp at h
  by_cases e1 : p.1 = q.1
  · rw [if_pos e1] at h
    rw [show (p.1 == q.1) = true from beq_iff_eq.mpr e1]
    refine kat_yes (kat_cons (wpAny_eqBool_int ?_))
    by_cases e2 : p.2 = q.2
    · rw [if_pos e2] at h
      rw [show (p.2 == q.2) = true from beq_iff_eq.mpr e2]
      exact kat_yes (kat_nil h)
    · rw [if_neg e2] at h
      rw [show (p.2 == q.2) = false from beq_eq_false_iff_ne.mpr e2]
      exact kat_no (kat_one _ _ (PyProof.Rows.lt_int h))
  · rw [if_neg e1] at h
    rw [show (p.1 == q.1) = false from beq_eq_false_iff_ne.mpr e1]
    exact kat_no (oneLt_int h)
end

theorem kat_tups {h₀ h : Heap} {L : Addr} {ns : List (Addr × Obj)} (N : News h₀ L h ns) : ∀ {vs : List Value} {c : List (Int × Int)}, DatAll ns vs (c.map pairDat) → ∃ fs, KatTups h vs fs ∧ fs.length = c.length ∧ ∀ v ∈ fs, ∃ i t, v = .int i t
  | _, [], .nil => ⟨[], KatTups.nil, rfl, fun _ h => nomatch h⟩
  | _, p :: c, .cons hd r => by
    obtain ⟨a, k, t, u, rfl, hm⟩ := pair_of hd
    obtain ⟨fs, h1, h2, h3⟩ := kat_tups N r
    refine ⟨.int p.1 t :: fs, KatTups.cons (N _ hm).1 rfl rfl rfl h1, by simp [h2], fun v hv => ?_⟩
    rcases List.mem_cons.mp hv with rfl | hv
    · exact ⟨_, _, rfl⟩
    · exact h3 v hv
section
variable {prog : Program} {w : World} {A : Around} {E : Value → Shared → Prop} {s : Shared} {h₀ : Heap} {L B : Addr} {m : Str → Option Value} {tups led : List (Addr × Obj)} {vs : List Value} {c : List (Int × Int)} {Q : Value → Shared → Prop}
theorem sort_long (F : Fr h₀ L s.heap m) (N : News h₀ L s.heap ((B, listOf vs.toArray 0) :: (tups ++ led))) (ap : ∀ p ∈ tups ++ led, p.1 ≠ B) (h2 : 2 ≤ c.length) (h4 : c.length ≤ 4) (hd : DatAll tups vs (c.map pairDat))
    (h : ∀ h' n', Fr h₀ L h' m → News h₀ L h' ((B, listOf (outOf c vs).toArray n') :: (tups ++ led)) → Q .none { s with heap := h' }) :
    wpAny (model prog w) A (call (.builtin "list.sort") [.ref B]) Q E s := by
  have hl : vs.length = c.length := by rw [hd.length, List.length_map]
  refine kat_lsort (vs := vs) F N (.head ap) rfl (by omega) (by omega) fun e1 h' F' N' => ?_
  have Nt : News h₀ L h' tups := fun p hp => N' p (.tail _ (List.mem_append_left _ hp))
  obtain ⟨fs, t1, t2, t3⟩ := kat_tups Nt hd
  refine kat_kind (T := .type "int") t1 (by omega) (fun v hv => by obtain ⟨i, t, rfl⟩ := t3 v hv; exact Looks.of_pure rfl) (by decide) ?_
  rw [show (Value.type "int" != Value.type "tuple") = true from by decide, hl]
  refine runT_wp (N := c.length) (lt := fun i j => ltp (c.getD i (0, 0)) (c.getD j (0, 0))) (fun i j hi hj C hC => ?_) _ ?_ ?_
  · unfold kas_ask
    obtain ⟨v1, e1, d1⟩ := hd.get (k := i) (by rw [List.length_map]; exact hi)
    obtain ⟨v2, e2, d2⟩ := hd.get (k := j) (by rw [List.length_map]; exact hj)
    rw [List.getElem_map] at d1 d2
    obtain ⟨a1, k1, q1, u1, rfl, m1⟩ := pair_of d1
    obtain ⟨a2, k2, q2, u2, rfl, m2⟩ := pair_of d2
    rw [List.getD_eq_getElem?_getD, List.getD_eq_getElem?_getD, e1, e2]
    simp only [List.getD_eq_getElem?_getD, List.getElem?_eq_getElem hi, List.getElem?_eq_getElem hj, Option.getD_some] at hC
    exact ask_pair (Nt _ m1).1 (Nt _ m2).1 hC
  · have : c.length = 2 ∨ c.length = 3 ∨ c.length = 4 := by omega
    rcases this with e | e | e <;> rw [e]
    · exact ok2
    · exact ok3
    · exact ok4
  · refine KasFin.intro F' N' (.head ap) fun h'' n' F'' N'' => ?_
    refine h h'' n' F'' ?_
    unfold outOf
    rw [if_neg (by omega)]
    exact N''
theorem sort_short (F : Fr h₀ L s.heap m) (N : News h₀ L s.heap ((B, listOf vs.toArray 0) :: (tups ++ led))) (ap : ∀ p ∈ tups ++ led, p.1 ≠ B) (h2 : vs.length < 2)
    (h : ∀ h' n', Fr h₀ L h' m → News h₀ L h' ((B, listOf vs.toArray n') :: (tups ++ led)) → Q .none { s with heap := h' }) :
    wpAny (model prog w) A (call (.builtin "list.sort") [.ref B]) Q E s := by
  have nz := N _ (.head _)
  have N₀ : News h₀ L s.heap (tups ++ led) := fun p hp => N p (.tail _ hp)
  have ho : s.heap.get? B = some (seqObj "list" vs.toArray 0) := nz.1
  refine wpAny_call_entry slot_list_sort ⟨_, nz.1, rfl⟩ entry_list_sort ?_ (args_list_sort _)
  have ha : B < s.heap.objs.size := Heap.lt_size ho
  have s1 := Heap.SameBut.update s.heap B (Obj.mapSeq fun _ => (#[] : Array Value))
  obtain ⟨e1, ho1⟩ : ∃ e1, (s.heap.update B (Obj.mapSeq fun _ => (#[] : Array Value))).get? B = some (seqObj "list" #[] e1) := ⟨_, get?_update_seq ho fun _ => #[]⟩
  have F3 : Fr h₀ L (((s.heap.update B (Obj.mapSeq fun _ => (#[] : Array Value))).push (seqObj "tuple" vs.toArray 0)).push (seqObj "list" #[] 0)) m := ((kas_fr F s1 nz.2.1 nz.2.2).push _).push _
  have N2 : News h₀ L (((s.heap.update B (Obj.mapSeq fun _ => (#[] : Array Value))).push (seqObj "tuple" vs.toArray 0)).push (seqObj "list" #[] 0)) (tups ++ led) :=
    (kas_news N₀ s1 ap).grown fun b x e => Heap.get?_push_of_some _ (Heap.get?_push_of_some _ e)
  have hB : (((s.heap.update B (Obj.mapSeq fun _ => (#[] : Array Value))).push (seqObj "tuple" vs.toArray 0)).push (seqObj "list" #[] 0)).get? B = some (seqObj "list" #[] e1) := Heap.get?_push_of_some _ (Heap.get?_push_of_some _ ho1)
  rw [list_sort_plain]
  refine wpAny_bind (listItems_at ho rfl ?_)
  refine wpAny_bind (listUpdate_at ho rfl ?_ (by rw [List.size_toArray, sizeLine_eq]; omega) (Nat.zero_le _))
  refine wpAny_bind (seqEpoch_at ho1 rfl ?_)
  refine wpAny_bind (wpAny_newTuple ?_ (by show vs.length ≤ _; rw [sizeLine_eq]; omega))
  refine wpAny_bind (wpAny_newList ?_ (Nat.zero_le _))
  refine wpAny_holding ?_
  show wpAny (model prog w) _ _ _ _ { s with heap := ((s.heap.update B (Obj.mapSeq fun _ => (#[] : Array Value))).push (seqObj "tuple" vs.toArray 0)).push (seqObj "list" #[] 0) }
  dsimp only
  have hn2 : vs.toArray.size < 2 := by rw [List.size_toArray]; omega
  rw [if_pos hn2, if_pos hn2]
  refine wpAny_bind (wpAny_pure ?_)
  refine wpAny_bind (wpAny_pure ?_)
  refine wpAny_bind (seqEpoch_at hB rfl ?_)
  have hout : (arrOf (SortSt.mk' general' (vs.toArray.zip vs.toArray) #[] 7 none)).map (·.2) = vs.toArray := by
    show (vs.toArray.zip vs.toArray).map (·.2) = vs.toArray
    apply Array.ext'
    simp [List.map_snd_zip]
  rw [hout]
  have s2 := Heap.SameBut.update (((s.heap.update B (Obj.mapSeq fun _ => (#[] : Array Value))).push (seqObj "tuple" vs.toArray 0)).push (seqObj "list" #[] 0)) B (Obj.mapSeq fun _ => vs.toArray)
  obtain ⟨c2, hc2⟩ : ∃ c2, ((((s.heap.update B (Obj.mapSeq fun _ => (#[] : Array Value))).push (seqObj "tuple" vs.toArray 0)).push (seqObj "list" #[] 0)).update B (Obj.mapSeq fun _ => vs.toArray)).get? B = some (seqObj "list" vs.toArray c2) := ⟨_, get?_update_seq hB fun _ => vs.toArray⟩
  refine wpAny_bind (listUpdate_at hB rfl ?_ (Nat.zero_le _) (by rw [List.size_toArray, sizeLine_eq]; omega))
  simp only [bne_self_eq_false, Bool.false_eq_true, if_false]
  refine wpAny_pure ⟨_, rfl, h _ c2 (kas_fr F3 s2 nz.2.1 nz.2.2) fun p hp => ?_⟩
  rcases List.mem_cons.mp hp with rfl | hp
  · exact ⟨hc2, nz.2⟩
  · exact ⟨(s2.2 p.1 (ap p hp)).trans (N2 p hp).1, (N2 p hp).2⟩
theorem sort_pairs (F : Fr h₀ L s.heap m) (N : News h₀ L s.heap ((B, listOf vs.toArray 0) :: (tups ++ led))) (ap : ∀ p ∈ tups ++ led, p.1 ≠ B) (h4 : c.length ≤ 4) (hd : DatAll tups vs (c.map pairDat))
    (h : ∀ h' n', Fr h₀ L h' m → News h₀ L h' ((B, listOf (outOf c vs).toArray n') :: (tups ++ led)) → Q .none { s with heap := h' }) :
    wpAny (model prog w) A (call (.builtin "list.sort") [.ref B]) Q E s := by
  by_cases h2 : 2 ≤ c.length
  · exact sort_long F N ap h2 h4 hd h
  · have hl : vs.length = c.length := by rw [hd.length, List.length_map]
    have e : outOf c vs = vs := by unfold outOf; rw [if_pos (by omega)]
    rw [e] at h
    exact sort_short F N ap (by omega) h
end

theorem kdx_all {lo : Addr} {news : List (Addr × Obj)} {C : List Value → List (Addr × Obj) → Prop} : ∀ (kv : List (Int × Value)) (c : List (Int × Int)) (vs : List Value) (tups : List (Addr × Obj)) (ds : List Dat), FlatPairs PyData.int kv (kdfD c) → DatAll tups vs ds →
    (∀ q ∈ tups, ∀ p ∈ news, p.1 < q.1) → (∀ vs' tups', (∀ q ∈ tups', ∀ p ∈ news, p.1 < q.1) → DatAll tups' vs' (ds ++ c.map pairDat) → C vs' tups') →
    KdxOpen lo news (kv.map fun p => (kyVal (PyData.int p.1), p.2)) vs tups C
  | [], c, vs, tups, ds, hf, hd, ap, h => by
    have : c = [] := by
      cases c with
      | nil => rfl
      | cons p r => cases hf
    subst this
    refine KdxOpen.nil (h vs tups ap ?_)
    rw [List.map_nil, List.append_nil]
    exact hd
  | (k, v) :: kv, c, vs, tups, ds, hf, hd, ap, h => by
    cases c with
    | nil => cases hf
    | cons p c =>
      obtain ⟨a, b⟩ := p
      rw [show kdfD ((a, b) :: c) = (PyData.int a, PyData.int b) :: kdfD c from rfl] at hf
      cases hf with
      | cons hv hr =>
        obtain ⟨u, rfl⟩ := hv.int_inv
        · refine KdxOpen.cons fun x t _ l1 l2 => ?_
          refine kdx_all kv c _ _ (ds ++ [pairDat (k, b)]) hr ?_ (fun q hq p hp => ?_) (fun vs' tups' ap' hd' => h vs' tups' ap' ?_)
          · refine DatAll.append (hd.mono fun p hp => .tail _ hp) (.cons (.tuple (vs := [_, _]) (.head _) (.cons (.int _ _) (.cons (.int _ _) .nil))) .nil)
          · rcases List.mem_cons.mp hq with rfl | hq
            · exact l1 p hp
            · exact ap q hq p hp
          · rw [List.append_assoc] at hd'
            exact hd'
section
variable {w : World} {A : Around} {E : Value → Shared → Prop} {s : Shared} {h₀ : Heap} {L v d : Addr} {m : Str → Option Value} {news : List (Addr × Obj)} {od : Obj} {c : List (Int × Int)} {Q : Value → Shared → Prop}
theorem sorted_items (hh : A.handled = none) (F : Fr h₀ L s.heap m) (N : News h₀ L s.heap news) (hvw : (v, { cls := .type "dict_items", data := .fields #[.ref d] }) ∈ news) (hmd : (d, od) ∈ news) (hs : Slots w od c) (h4 : c.length ≤ 4)
    (h : ∀ B tups ys n' h' tk, (∀ q ∈ tups, ∀ p ∈ news, p.1 < q.1) → (∀ p ∈ tups ++ news, p.1 < B) → Fr h₀ L h' m → News h₀ L h' ((B, listOf ys.toArray n') :: (tups ++ news)) → DatAll tups ys (outD c) → Q (.ref B) { s with heap := h', toks := tk }) :
    wpAny (model P0 w) A (call (.builtin "sorted") [.ref v]) Q E s := by
  obtain ⟨kv, hod, hf⟩ := hs
  have hl : kv.length = c.length := by have := hf.length; rw [kdfD_length] at this; exact this.symm
  refine kdx_sortedN (knd := intKind P0 w) (enc := PyData.int) hh F N hvw hmd hod (by omega) (fun _ _ h => Value.isInt_shape h) rfl fun lo l0 => ?_
  refine kdx_all kv c [] [] [] hf .nil (fun _ h => nomatch h) fun vs tups ap hd => ?_
  intro B h' tk l9 F' N'
  refine sort_pairs F' N' (fun p hp => Nat.ne_of_lt (l9 p hp)) h4 hd fun h'' n' F'' N'' => ?_
  exact h B tups _ n' h'' tk ap l9 F'' N'' (datAll_out hd)
end
end PB
end
section
open PySem PySem.W PyProof.Rows PySem.Calls PySem.Spec PyProof.V
namespace PB
local macro_rules | `(tactic| k_mem) => `(tactic| assumption)
local macro_rules | `(tactic| walk_at "call builtin:sorted") => `(tactic| (k_here; (with_reducible show wpAny _ _ (call (Value.builtin _) [Value.ref _]) _ _ _); k_dflt (refine' sorted_items ?k1 ?k2 ?k3 ?k4 ?k5 ?k6 ?k7 ?_; (case k1 => rfl); (case k2 => k_asm); (case k3 => k_asm); (case k4 => k_mem); (case k5 => k_mem); (case k6 => assumption); (case k7 => assumption); intro B' tp' ys' n' h' tk' ap' l9' F' N' dd')))
theorem items_end {h₀ h : Heap} {L B D : Addr} {tups led : List (Addr × Obj)} {o1 o2 : Obj} (ap : ∀ q ∈ tups, ∀ p ∈ (D, o2) :: led, p.1 < q.1) (l9 : ∀ p ∈ tups ++ (D, o2) :: led, p.1 < B) (lD : ∀ p ∈ led, p.1 < D)
    (N : News h₀ L h ((B, o1) :: (tups ++ (D, o2) :: led))) : News h₀ L h (((B, o1) :: (tups ++ [(D, o2)])) ++ led) ∧ ∀ q ∈ (B, o1) :: (tups ++ [(D, o2)]), ∀ p ∈ led, p.1 < q.1 := by
  refine ⟨by simpa using N, fun q hq p hp => ?_⟩
  rcases List.mem_cons.mp hq with rfl | hq
  · exact l9 p (List.mem_append_right _ (.tail _ hp))
  rcases List.mem_append.mp hq with hq | hq
  · exact ap q hq p (.tail _ hp)
  · rw [List.mem_singleton.mp hq]; exact lD p hp
section
variable {w : World} {s₀ s : Shared} {mg mb : Str → Option Value} {x0 : Addr} {ob : Obj} {h₀ : Heap} {L fa cdv C : Addr} {m m₂ : Str → Option Value} {oC : Obj} {led : List (Addr × Obj)} {r : Row} {cl : List (Str × Addr)}
    {E : Value → Shared → Prop} {Q : Value → Shared → Prop}
theorem elt3
    (X : (pbhd.heap_39 w.params).In h₀) (T : Top pbhd.view_39 (looseW pbhd.view_39 [Str.ofString "LedgerError"]) (ExcName.means s₀.heap) mg mb h₀) (M : BMod h₀ mainGlobals mg x0 ob)
    (B : Below callerA h₀ [] h₀)
    (F : Fr h₀ L s.heap m) (N : News h₀ L s.heap led) (mC : (C, oC) ∈ led) (hC : LCg.NsObj oC m₂) (hx : m₂ (Str.ofString "frame") = some (.ref r.fa)) (m1 : (r.fa, instObj 100 r.fd) ∈ led)
    (m2 : (r.fd, dictOf [ent w "last" r.t1 (.int r.last r.t2), ent w "behind" r.t3 (.int r.behind r.t4), ent w "slots" r.t5 (.ref r.sd)] 3) ∈ led) (m3 : (r.sd, r.so) ∈ led) (hok : r.Ok w)
    (h : ∀ h' tk new y, Fr h₀ L h' m → News h₀ L h' (new ++ led) → (∀ q ∈ new, ∀ p ∈ led, p.1 < q.1) → DatIn new y (.list (outD r.c)) → Q y { s with heap := h', toks := tk }) :
    wpAny (model P0 w) (lawA L fa cdv) (eval (eltOf comp3) (compEnvC (scopeOf comp3) cl C (lawEnv L fa cdv))) Q E s := by
  w_top off
  have hfill : (PySem.Challenge.rw_pb0228_01, pbhd.heap_39) = (PySem.Challenge.rw_pb0228_01, pbhd.heap_39) := by k_fill; rfl
  clear hfill
  have h4 := hok.small
  have hsl := hok.so
  have hlo := hok.sd
  obtain ⟨kv, hod, hf⟩ := hok.so
  unfold lawA
  dsimp only [eltOf, comp1, comp2, comp3, comp4, cmpL, cmpR, orLast, testOf, if1, if2, turnBody, forStmt, lawBody, lawStmt, Challenge.pw_pb0228_01, List.getLast?, List.getLast, Option.getD, List.getElem?_cons_succ, List.getElem?_cons_zero]
  dsimp only [scopeOf, comp1, comp2, comp3, comp4, cmpL, cmpR, orLast, testOf, if1, if2, turnBody, forStmt, lawBody, lawStmt, Challenge.pw_pb0228_01, List.getLast?, List.getLast, Option.getD, List.getElem?_cons_succ, List.getElem?_cons_zero]
  dsimp only [lawEnv, lawScope, lawStmt, Challenge.pw_pb0228_01, List.getLast?, List.getLast, Option.getD, List.getElem?_cons_succ, List.getElem?_cons_zero]
  k_steps
  (rename DatAll _ _ _ => dA)
  (rename Fr _ _ _ _ => kF)
  (rename News _ _ _ _ => kN)
  obtain ⟨z1, z2⟩ := items_end (by assumption) (by assumption) (by first | assumption | exact allLt_mem (by assumption)) kN
  exact h _ _ _ _ kF z1 z2 (.list (.head _) (dA.mono fun p hp => .tail _ (List.mem_append_left _ hp)))
theorem elt4
    (X : (pbhd.heap_39 w.params).In h₀) (T : Top pbhd.view_39 (looseW pbhd.view_39 [Str.ofString "LedgerError"]) (ExcName.means s₀.heap) mg mb h₀) (M : BMod h₀ mainGlobals mg x0 ob)
    (B : Below callerA h₀ [] h₀)
    (F : Fr h₀ L s.heap m) (N : News h₀ L s.heap led) (mC : (C, oC) ∈ led) (hC : LCg.NsObj oC m₂) (hx : m₂ (Str.ofString "row") = some (.ref r.pt)) (m1 : (r.pt, tupObj #[.int r.last r.t6, .int r.behind r.t7, .ref r.pd]) ∈ led)
    (m3 : (r.pd, r.po) ∈ led) (hok : r.Ok w)
    (h : ∀ h' tk new y, Fr h₀ L h' m → News h₀ L h' (new ++ led) → (∀ q ∈ new, ∀ p ∈ led, p.1 < q.1) → DatIn new y (.list (outD r.c)) → Q y { s with heap := h', toks := tk }) :
    wpAny (model P0 w) (lawA L fa cdv) (eval (eltOf comp4) (compEnvC (scopeOf comp4) cl C (lawEnv L fa cdv))) Q E s := by
  w_top off
  have hfill : (PySem.Challenge.rw_pb0228_01, pbhd.heap_39) = (PySem.Challenge.rw_pb0228_01, pbhd.heap_39) := by k_fill; rfl
  clear hfill
  have h4 := hok.small
  have hsl := hok.po
  have hlo := hok.pd
  obtain ⟨kv, hod, hf⟩ := hok.po
  unfold lawA
  dsimp only [eltOf, comp1, comp2, comp3, comp4, cmpL, cmpR, orLast, testOf, if1, if2, turnBody, forStmt, lawBody, lawStmt, Challenge.pw_pb0228_01, List.getLast?, List.getLast, Option.getD, List.getElem?_cons_succ, List.getElem?_cons_zero]
  dsimp only [scopeOf, comp1, comp2, comp3, comp4, cmpL, cmpR, orLast, testOf, if1, if2, turnBody, forStmt, lawBody, lawStmt, Challenge.pw_pb0228_01, List.getLast?, List.getLast, Option.getD, List.getElem?_cons_succ, List.getElem?_cons_zero]
  dsimp only [lawEnv, lawScope, lawStmt, Challenge.pw_pb0228_01, List.getLast?, List.getLast, Option.getD, List.getElem?_cons_succ, List.getElem?_cons_zero]
  k_steps
  (rename DatAll _ _ _ => dA)
  (rename Fr _ _ _ _ => kF)
  (rename News _ _ _ _ => kN)
  obtain ⟨z1, z2⟩ := items_end (by assumption) (by assumption) (by first | assumption | exact allLt_mem (by assumption)) kN
  exact h _ _ _ _ kF z1 z2 (.list (.head _) (dA.mono fun p hp => .tail _ (List.mem_append_left _ hp)))
end
section
variable {w : World} {s₀ s : Shared} {mg mb : Str → Option Value} {x0 : Addr} {ob : Obj} {h₀ : Heap} {L fa cdv : Addr} {m : Str → Option Value} {led : List (Addr × Obj)} {rows : List Row} {x : Cx} {nf : Nat} {plc : Int} {tpl : Tok}
    {E : Value → Shared → Prop} {Q : Value → Shared → Prop}
theorem comp3_ok
    (X : (pbhd.heap_39 w.params).In h₀) (T : Top pbhd.view_39 (looseW pbhd.view_39 [Str.ofString "LedgerError"]) (ExcName.means s₀.heap) mg mb h₀) (M : BMod h₀ mainGlobals mg x0 ob)
    (B : Below callerA h₀ [] h₀) (F : Fr h₀ L s.heap m) (hm : m (Str.ofString "machine") = some (.ref x.mc)) (N : News h₀ L s.heap led)
    (m1 : (x.mc, instObj 128 x.mcd) ∈ led) (m2 : (x.mcd, dictOf [ent w "code" x.m1 (.ref x.cd), ent w "deeds" x.m2 .none, ent w "place" x.m3 (.int plc tpl), ent w "stack" x.m4 (.ref x.sk), ent w "frames" x.m5 (.ref x.fl), ent w "key" x.m6 (.str (Str.ofString "") x.v6), ent w "word" x.m7 (.str (Str.ofString "") x.v7)] 7) ∈ led)
    (m3 : (x.fl, listOf (rows.map fun r => Value.ref r.fa).toArray nf) ∈ led) (hlen : rows.length ≤ 100) (hr : ∀ r ∈ rows, ∀ p ∈ r.objs w, p ∈ led) (hok : ∀ r ∈ rows, r.Ok w)
    (h : ∀ D h' tk ys ns, Fr h₀ L h' m → News h₀ L h' ((D, LCg.lst ys) :: ns) → (∀ p ∈ led, p ∈ ns) → DatAll ns ys (rows.map (fun r => Dat.list (outD r.c))) → Q (.ref D) { s with heap := h', toks := tk }) :
    wpAny (model P0 w) (lawA L fa cdv) (eval comp3 (lawEnv L fa cdv)) Q E s := by
  w_top off
  have hfill : (PySem.Challenge.rw_pb0228_01, pbhd.heap_39) = (PySem.Challenge.rw_pb0228_01, pbhd.heap_39) := by k_fill; rfl
  clear hfill
  have F' := fr_names (ps := [(Str.ofString "machine", .ref x.mc)]) (fun p hp => by rw [List.mem_singleton.mp hp]; exact hm) F
  simp only [kstB] at F'
  have em : m = fun y => if y = Str.ofString "machine" then some (Value.ref x.mc) else m y := by
    funext y
    by_cases e : y = Str.ofString "machine"
    · rw [if_pos e, e, hm]
    · rw [if_neg e]
  have e0 : comp3 = .ListComp (eltOf comp3) [⟨.Name (Str.ofString "frame") (posOf1 comp3), (iterOf comp3), [], 0⟩] (scopeOf comp3) (posOf2 comp3) := rfl
  rw [e0]
  refine LCg.ListComp_U (cl := []) F' (by rfl) (by decide) (by rfl) (by decide) (by rfl) ?_
  unfold lawA
  dsimp only [lawEnv, lawScope, lawStmt, Challenge.pw_pb0228_01, List.getLast?, List.getLast, Option.getD, List.getElem?_cons_succ, List.getElem?_cons_zero]
  clear F
  obtain ⟨q1, q2, e1⟩ : ∃ p q, iterOf comp3 = .Attribute (.Name (Str.ofString "machine") p) (Str.ofString "frames") q := ⟨_, _, rfl⟩
  rw [e1]
  iterate 3 (first | walk1 | (dsimp only; walk1))
  refine LCg.CompSrc.ledger (by rfl) F' N m3 (by rw [List.size_toArray, List.length_map, sizeLine_eq]; omega) ?_
  intro g'
  refine comp_rows m3 (g := (fun r => Dat.list (outD r.c))) (fun r hrm C oC m₂ hh tk ns E' Q' hC hx F₁ N₁ mC hs k => ?_) (fun ys ns hs hd => ?_) _ 0 [] led (by simp) (fun p hp => hp) .nil
  · exact elt3 X T M B F₁ N₁ mC hC hx (hs _ (hr r hrm _ (.head _))) (hs _ (hr r hrm _ (.tail _ (.head _)))) (hs _ (hr r hrm _ (.tail _ (.tail _ (.head _))))) (hok r hrm) k
  · intro D h' tk F₁ N₁ _
    exact h D h' tk ys ns (em ▸ F₁) N₁ hs hd

theorem comp4_ok
    (X : (pbhd.heap_39 w.params).In h₀) (T : Top pbhd.view_39 (looseW pbhd.view_39 [Str.ofString "LedgerError"]) (ExcName.means s₀.heap) mg mb h₀) (M : BMod h₀ mainGlobals mg x0 ob)
    (B : Below callerA h₀ [] h₀) (F : Fr h₀ L s.heap m) (hm : m (Str.ofString "pile") = some (.ref x.pl)) (N : News h₀ L s.heap led)
    
    (m3 : (x.pl, listOf (rows.map fun r => Value.ref r.pt).toArray nf) ∈ led) (hlen : rows.length ≤ 100) (hr : ∀ r ∈ rows, ∀ p ∈ r.objs w, p ∈ led) (hok : ∀ r ∈ rows, r.Ok w)
    (h : ∀ D h' tk ys ns, Fr h₀ L h' m → News h₀ L h' ((D, LCg.lst ys) :: ns) → (∀ p ∈ led, p ∈ ns) → DatAll ns ys (rows.map (fun r => Dat.list (outD r.c))) → Q (.ref D) { s with heap := h', toks := tk }) :
    wpAny (model P0 w) (lawA L fa cdv) (eval comp4 (lawEnv L fa cdv)) Q E s := by
  w_top off
  have hfill : (PySem.Challenge.rw_pb0228_01, pbhd.heap_39) = (PySem.Challenge.rw_pb0228_01, pbhd.heap_39) := by k_fill; rfl
  clear hfill
  have F' := fr_names (ps := [(Str.ofString "pile", .ref x.pl)]) (fun p hp => by rw [List.mem_singleton.mp hp]; exact hm) F
  simp only [kstB] at F'
  have em : m = fun y => if y = Str.ofString "pile" then some (Value.ref x.pl) else m y := by
    funext y
    by_cases e : y = Str.ofString "pile"
    · rw [if_pos e, e, hm]
    · rw [if_neg e]
  have e0 : comp4 = .ListComp (eltOf comp4) [⟨.Name (Str.ofString "row") (posOf1 comp4), (iterOf comp4), [], 0⟩] (scopeOf comp4) (posOf2 comp4) := rfl
  rw [e0]
  refine LCg.ListComp_U (cl := []) F' (by rfl) (by decide) (by rfl) (by decide) (by rfl) ?_
  unfold lawA
  dsimp only [lawEnv, lawScope, lawStmt, Challenge.pw_pb0228_01, List.getLast?, List.getLast, Option.getD, List.getElem?_cons_succ, List.getElem?_cons_zero]
  clear F
  obtain ⟨q1, e1⟩ : ∃ p, iterOf comp4 = .Name (Str.ofString "pile") p := ⟨_, rfl⟩
  rw [e1]
  iterate 1 (first | walk1 | (dsimp only; walk1))
  refine LCg.CompSrc.ledger (by rfl) F' N m3 (by rw [List.size_toArray, List.length_map, sizeLine_eq]; omega) ?_
  intro g'
  refine comp_rows m3 (g := (fun r => Dat.list (outD r.c))) (fun r hrm C oC m₂ hh tk ns E' Q' hC hx F₁ N₁ mC hs k => ?_) (fun ys ns hs hd => ?_) _ 0 [] led (by simp) (fun p hp => hp) .nil
  · exact elt4 X T M B F₁ N₁ mC hC hx (hs _ (hr r hrm _ (.tail _ (.tail _ (.tail _ (.head _)))))) (hs _ (hr r hrm _ (.tail _ (.tail _ (.tail _ (.tail _ (.head _))))))) (hok r hrm) k
  · intro D h' tk F₁ N₁ _
    exact h D h' tk ys ns (em ▸ F₁) N₁ hs hd
end
end PB
end
section
open PySem PySem.W PyProof.Rows PySem.Calls PySem.Spec PyProof.V
namespace PB
abbrev dat1 : Row → Dat := fun r => Dat.tuple [.int r.last, .int r.behind]
abbrev dat2 : Row → Dat := fun r => Dat.list (outD r.c)
theorem ok_dat1 (rows : List Row) : ∀ d ∈ rows.map dat1, kqdOk 8 d = true := by
  intro d hd
  obtain ⟨r, _, rfl⟩ := List.mem_map.mp hd
  rfl
theorem ok_pair (p : Int × Int) : kqdOk 7 (pairDat p) = true := rfl
theorem ok_dat2 (rows : List Row) : ∀ d ∈ rows.map dat2, kqdOk 8 d = true := by
  intro d hd
  obtain ⟨r, _, rfl⟩ := List.mem_map.mp hd
  show (outD r.c).all (kqdOk 7) = true
  rw [List.all_eq_true]
  intro d hd
  unfold outD at hd
  split at hd
  · obtain ⟨p, _, rfl⟩ := List.mem_map.mp hd
    rfl
  · obtain ⟨i, _, rfl⟩ := List.mem_map.mp hd
    rw [List.getD_eq_getElem?_getD, List.getElem?_map]
    cases r.c[i]? with
    | none => rfl
    | some p => rfl
theorem memS {p : Addr × Obj} {a b : List (Addr × Obj)} (hp : p ∈ a) (hs : ∀ p ∈ a, p ∈ b) : p ∈ b := hs p hp
/-- what the turn's end reads of the ledger -/
structure EndLed (w : World) (x : Cx) (y : Sx) (led : List (Addr × Obj)) : Prop where
  mc : (x.mc, instObj 128 x.mcd) ∈ led
  mcd : (x.mcd, dictOf [ent w "code" x.m1 (.ref x.cd), ent w "deeds" x.m2 .none, ent w "place" x.m3 (.int y.place y.tpl), ent w "stack" x.m4 (.ref x.sk), ent w "frames" x.m5 (.ref x.fl), ent w "key" x.m6 (.str (Str.ofString "") x.v6), ent w "word" x.m7 (.str (Str.ofString "") x.v7)] 7) ∈ led
  sk : (x.sk, listOf #[] y.ne) ∈ led
  fl : (x.fl, listOf (y.rows.map fun r => Value.ref r.fa).toArray y.nf) ∈ led
  pl : (x.pl, listOf (y.rows.map fun r => Value.ref r.pt).toArray y.np) ∈ led
  rows : ∀ r ∈ y.rows, ∀ p ∈ r.objs w, p ∈ led
theorem EndLed.mono {w : World} {x : Cx} {y : Sx} {led led' : List (Addr × Obj)} (h : EndLed w x y led) (hs : ∀ p ∈ led, p ∈ led') : EndLed w x y led' :=
  ⟨hs _ h.mc, hs _ h.mcd, hs _ h.sk, hs _ h.fl, hs _ h.pl, fun r hr p hp => hs _ (h.rows r hr p hp)⟩
theorem EndLed.cons {w : World} {x : Cx} {y : Sx} {led : List (Addr × Obj)} {p : Addr × Obj} (h : EndLed w x y led) : EndLed w x y (p :: led) := h.mono fun _ q => .tail _ q
theorem endLed_of {w : World} {x : Cx} {y : Sx} {own : List (Addr × Obj)} : EndLed w x y (x.led w y ++ own) := by
  have sub : ∀ p ∈ x.fixed w y, p ∈ x.led w y ++ own := fun p hp => List.mem_append_left _ (List.mem_append_left _ hp)
  refine ⟨sub _ ?_, sub _ ?_, sub _ ?_, sub _ ?_, sub _ ?_, fun r hr p hp => List.mem_append_left _ (List.mem_append_right _ (List.mem_flatMap.mpr ⟨r, hr, hp⟩))⟩
  all_goals
    unfold Cx.fixed
    repeat (first | exact .head _ | refine List.mem_cons_of_mem _ ?_)
section
variable {prog : Program} {w : World} {A : Around} {E : Value → Shared → Prop} {s : Shared} {h₀ : Heap} {L a b : Addr} {Q : Value → Shared → Prop}
theorem ne_rows {D1 D2 : Addr} {ys1 ys2 : List Value} {ns1 ns2 : List (Addr × Obj)} {ds : List Dat} (N : News h₀ L s.heap ((D2, LCg.lst ys2) :: ns2)) (hs : ∀ p ∈ (D1, LCg.lst ys1) :: ns1, p ∈ ns2) (d1 : DatAll ns1 ys1 ds) (d2 : DatAll ns2 ys2 ds)
    (ok : ∀ d ∈ ds, kqdOk 8 d = true) (hu : A.units + 64 < cLine) (h : Q (.bool false) s) : wpAny (model prog w) A (compareOp .NotEq (.ref D1) (.ref D2)) Q E s := by
  refine kqd_ne N (.tail _ (hs _ (.head _))) rfl rfl d1 (fun p hp => .tail _ (hs _ (.tail _ hp))) (.head _) rfl rfl d2 (fun p hp => .tail _ hp) ok ok hu ?_
  simp only [decide_true, Bool.not_true]
  exact h
theorem ne_nils {news : List (Addr × Obj)} {n k : Nat} (N : News h₀ L s.heap news) (m1 : (a, listOf #[] n) ∈ news) (m2 : (b, listOf #[] k) ∈ news) (hu : A.units + 64 < cLine) (h : Q (.bool false) s) :
    wpAny (model prog w) A (compareOp .NotEq (.ref a) (.ref b)) Q E s := by
  refine kqd_ne (xs := []) (ys := []) N m1 rfl rfl (.nil (news := [])) (fun _ h => nomatch h) m2 rfl rfl (.nil (news := [])) (fun _ h => nomatch h) (fun _ h => nomatch h) (fun _ h => nomatch h) hu ?_
  simp only [decide_true, Bool.not_true]
  exact h
end
section
variable {w : World} {s₀ s : Shared} {mg mb : Str → Option Value} {x0 : Addr} {ob : Obj} {h₀ : Heap} {L fa cdv : Addr} {m : Str → Option Value} {led : List (Addr × Obj)} {x : Cx} {y : Sx}
    {E : Value → Shared → Prop} {Q : Value → Shared → Prop}
theorem cA1
    (X : (pbhd.heap_39 w.params).In h₀) (T : Top pbhd.view_39 (looseW pbhd.view_39 [Str.ofString "LedgerError"]) (ExcName.means s₀.heap) mg mb h₀) (M : BMod h₀ mainGlobals mg x0 ob)
    (B : Below callerA h₀ [] h₀) (F : Fr h₀ L s.heap m) (hm : m (Str.ofString "machine") = some (.ref x.mc)) (N : News h₀ L s.heap led) (G : EndLed w x y led) (hlen : y.rows.length ≤ 100) (hok : ∀ r ∈ y.rows, r.Ok w)
    (h : ∀ D h' tk ys ns, Fr h₀ L h' m → News h₀ L h' ((D, LCg.lst ys) :: ns) → (∀ p ∈ led, p ∈ ns) → DatAll ns ys (y.rows.map dat1) → EndLed w x y ((D, LCg.lst ys) :: ns) → Q (.ref D) { s with heap := h', toks := tk }) :
    wpAny (model P0 w) (lawA L fa cdv) (eval comp1 (lawEnv L fa cdv)) Q E s :=
  comp1_ok X T M B F hm N G.mc G.mcd G.fl hlen G.rows hok fun D h' tk ys ns F' N' hs hd => h D h' tk ys ns F' N' hs hd (G.mono fun p hp => .tail _ (hs p hp))
theorem cA2
    (X : (pbhd.heap_39 w.params).In h₀) (T : Top pbhd.view_39 (looseW pbhd.view_39 [Str.ofString "LedgerError"]) (ExcName.means s₀.heap) mg mb h₀) (M : BMod h₀ mainGlobals mg x0 ob)
    (B : Below callerA h₀ [] h₀) (F : Fr h₀ L s.heap m) (hm : m (Str.ofString "pile") = some (.ref x.pl)) (N : News h₀ L s.heap led) (G : EndLed w x y led) (hlen : y.rows.length ≤ 100) (hok : ∀ r ∈ y.rows, r.Ok w)
    (h : ∀ D h' tk ys ns, Fr h₀ L h' m → News h₀ L h' ((D, LCg.lst ys) :: ns) → (∀ p ∈ led, p ∈ ns) → DatAll ns ys (y.rows.map dat1) → EndLed w x y ((D, LCg.lst ys) :: ns) → Q (.ref D) { s with heap := h', toks := tk }) :
    wpAny (model P0 w) (lawA L fa cdv) (eval comp2 (lawEnv L fa cdv)) Q E s :=
  comp2_ok X T M B F hm N G.pl hlen G.rows hok fun D h' tk ys ns F' N' hs hd => h D h' tk ys ns F' N' hs hd (G.mono fun p hp => .tail _ (hs p hp))
theorem cA3
    (X : (pbhd.heap_39 w.params).In h₀) (T : Top pbhd.view_39 (looseW pbhd.view_39 [Str.ofString "LedgerError"]) (ExcName.means s₀.heap) mg mb h₀) (M : BMod h₀ mainGlobals mg x0 ob)
    (B : Below callerA h₀ [] h₀) (F : Fr h₀ L s.heap m) (hm : m (Str.ofString "machine") = some (.ref x.mc)) (N : News h₀ L s.heap led) (G : EndLed w x y led) (hlen : y.rows.length ≤ 100) (hok : ∀ r ∈ y.rows, r.Ok w)
    (h : ∀ D h' tk ys ns, Fr h₀ L h' m → News h₀ L h' ((D, LCg.lst ys) :: ns) → (∀ p ∈ led, p ∈ ns) → DatAll ns ys (y.rows.map dat2) → EndLed w x y ((D, LCg.lst ys) :: ns) → Q (.ref D) { s with heap := h', toks := tk }) :
    wpAny (model P0 w) (lawA L fa cdv) (eval comp3 (lawEnv L fa cdv)) Q E s :=
  comp3_ok X T M B F hm N G.mc G.mcd G.fl hlen G.rows hok fun D h' tk ys ns F' N' hs hd => h D h' tk ys ns F' N' hs hd (G.mono fun p hp => .tail _ (hs p hp))
theorem cA4
    (X : (pbhd.heap_39 w.params).In h₀) (T : Top pbhd.view_39 (looseW pbhd.view_39 [Str.ofString "LedgerError"]) (ExcName.means s₀.heap) mg mb h₀) (M : BMod h₀ mainGlobals mg x0 ob)
    (B : Below callerA h₀ [] h₀) (F : Fr h₀ L s.heap m) (hm : m (Str.ofString "pile") = some (.ref x.pl)) (N : News h₀ L s.heap led) (G : EndLed w x y led) (hlen : y.rows.length ≤ 100) (hok : ∀ r ∈ y.rows, r.Ok w)
    (h : ∀ D h' tk ys ns, Fr h₀ L h' m → News h₀ L h' ((D, LCg.lst ys) :: ns) → (∀ p ∈ led, p ∈ ns) → DatAll ns ys (y.rows.map dat2) → EndLed w x y ((D, LCg.lst ys) :: ns) → Q (.ref D) { s with heap := h', toks := tk }) :
    wpAny (model P0 w) (lawA L fa cdv) (eval comp4 (lawEnv L fa cdv)) Q E s :=
  comp4_ok X T M B F hm N G.pl hlen G.rows hok fun D h' tk ys ns F' N' hs hd => h D h' tk ys ns F' N' hs hd (G.mono fun p hp => .tail _ (hs p hp))
end

local macro_rules | `(tactic| k_mem) => `(tactic| first | with_reducible assumption | exact EndLed.mc (by assumption) | exact EndLed.mcd (by assumption) | exact EndLed.sk (by assumption))
local macro_rules | `(tactic| walk_at "eval ListComp") => `(tactic| (k_here; k_dflt (first
  | (refine' cA1 ?k1 ?k2 ?k3 ?k4 ?k5 ?k6 ?k7 ?k8 ?k9 ?k10 ?_; (case k1 => assumption); (case k2 => assumption); (case k3 => assumption); (case k4 => assumption); (case k5 => k_asm); (case k6 => exact rfl); (case k7 => k_asm); (case k8 => assumption); (case k9 => assumption); (case k10 => assumption); intro D' h' tk' ys' ns' F' N' hs' dd' G')
  | (refine' cA2 ?k1 ?k2 ?k3 ?k4 ?k5 ?k6 ?k7 ?k8 ?k9 ?k10 ?_; (case k1 => assumption); (case k2 => assumption); (case k3 => assumption); (case k4 => assumption); (case k5 => k_asm); (case k6 => exact rfl); (case k7 => k_asm); (case k8 => assumption); (case k9 => assumption); (case k10 => assumption); intro D' h' tk' ys' ns' F' N' hs' dd' G')
  | (refine' cA3 ?k1 ?k2 ?k3 ?k4 ?k5 ?k6 ?k7 ?k8 ?k9 ?k10 ?_; (case k1 => assumption); (case k2 => assumption); (case k3 => assumption); (case k4 => assumption); (case k5 => k_asm); (case k6 => exact rfl); (case k7 => k_asm); (case k8 => assumption); (case k9 => assumption); (case k10 => assumption); intro D' h' tk' ys' ns' F' N' hs' dd' G')
  | (refine' cA4 ?k1 ?k2 ?k3 ?k4 ?k5 ?k6 ?k7 ?k8 ?k9 ?k10 ?_; (case k1 => assumption); (case k2 => assumption); (case k3 => assumption); (case k4 => assumption); (case k5 => k_asm); (case k6 => exact rfl); (case k7 => k_asm); (case k8 => assumption); (case k9 => assumption); (case k10 => assumption); intro D' h' tk' ys' ns' F' N' hs' dd' G'))))
local macro_rules | `(tactic| walk_at "newList") => `(tactic| (k_here; k_dflt (refine' newList_K ?k1 ?k2 ?_; (case k1 => k_asm); (case k2 => k_asm); k_whole); intro l' h' F' N' l1; (have G' := EndLed.cons (p := (l', listOf #[] 0)) (by assumption))))
local macro_rules | `(tactic| walk_at "compareOp NotEq ref ref") => `(tactic| (k_here; (with_reducible show wpAny _ _ (compareOp CmpOp.NotEq (Value.ref _) (Value.ref _)) _ _ _); k_dflt (first
  | (refine' ne_nils ?k1 ?k2 ?k3 ?k4 ?_; (case k1 => k_asm); (case k2 => k_mem); (case k3 => k_mem); (case k4 => first | exact Nat.le_of_ble_eq_true rfl | decide); k_whole)
  | (refine' ne_rows ?k1 ?k2 ?k3 ?k4 ?k5 ?k6 ?_; (case k1 => k_asm); (case k2 => assumption); (case k3 => assumption); (case k4 => assumption); (case k5 => first | exact ok_dat1 _ | exact ok_dat2 _); (case k6 => first | exact Nat.le_of_ble_eq_true rfl | decide)))))
section
variable {w : World} {s₀ s : Shared} {mg mb : Str → Option Value} {x0 : Addr} {ob : Obj} {h₀ : Heap} {L fa cdv : Addr} {m : Str → Option Value} {own : List (Addr × Obj)} {x : Cx} {y : Sx} {deep : Bool} {td : Tok}
    {E : Value → Shared → Prop} {Q : Flow → Shared → Prop}
theorem end_ok
    (X : (pbhd.heap_39 w.params).In h₀) (T : Top pbhd.view_39 (looseW pbhd.view_39 [Str.ofString "LedgerError"]) (ExcName.means s₀.heap) mg mb h₀) (M : BMod h₀ mainGlobals mg x0 ob)
    (B : Below callerA h₀ [] h₀) (F : Fr h₀ L s.heap m) (lo : Loc x deep m) (ld : m (Str.ofString "due") = some (.int y.place td)) (N : News h₀ L s.heap (x.led w y ++ own)) (hy : y.Ok w x own)
    (h : ∀ h' tk, Fr h₀ L h' m → News h₀ L h' (x.led w y ++ own) → Q .next { s with heap := h', toks := tk }) :
    wpAny (model P0 w) (lawA L fa cdv) (execs [if1, if2] (lawEnv L fa cdv)) Q E s := by
  w_top off
  have hfill : (PySem.Challenge.rw_pb0228_01, pbhd.heap_39) = (PySem.Challenge.rw_pb0228_01, pbhd.heap_39) := by k_fill; rfl
  clear hfill
  have em : kstB m ([(Str.ofString "due", .int y.place td)] ++ [(Str.ofString "is_deep", .bool deep), (Str.ofString "pile", .ref x.pl), (Str.ofString "machine", .ref x.mc), (Str.ofString "begins", .ref x.bg), (Str.ofString "tape", .ref x.tp)]) = m := by
    refine funext fun z => kstB_eq (fun p hp => ?_) fun _ => rfl
    simp only [List.cons_append, List.nil_append, List.mem_cons, List.not_mem_nil, or_false] at hp
    rcases hp with rfl | rfl | rfl | rfl | rfl | rfl
    · exact ld
    · exact lo.n1
    · exact lo.n2
    · exact lo.n3
    · exact lo.n4
    · exact lo.n5
  rw [← em] at F h
  simp only [kstB, List.cons_append, List.nil_append] at F h
  have G : EndLed w x y (x.led w y ++ own) := endLed_of
  generalize hled : x.led w y ++ own = led at N G h
  have hlen : y.rows.length ≤ 100 := Nat.le_trans hy.len (by decide)
  have hok := hy.rows
  unfold lawA
  dsimp only [if1, if2, turnBody, forStmt, lawBody, lawStmt, Challenge.pw_pb0228_01, List.getLast?, List.getLast, Option.getD, List.getElem?_cons_succ, List.getElem?_cons_zero]
  dsimp only [lawEnv, lawScope, lawStmt, Challenge.pw_pb0228_01, List.getLast?, List.getLast, Option.getD, List.getElem?_cons_succ, List.getElem?_cons_zero]
  k_steps
  · exact absurd rfl (by assumption)
  · (rename Fr _ _ _ _ => kF)
    (rename News _ _ _ _ => kN)
    refine h _ _ kF (kst_newsOf kN fun p hp => ?_)
    repeat (first | exact hp | refine List.Mem.tail _ ?_ | refine memS ?_ (by assumption))
end
end PB
end
section
open PySem PySem.W PyProof.Rows PySem.Calls PySem.Spec PyProof.V
namespace PB
section
variable {w : World} {s₀ s : Shared} {mg mb : Str → Option Value} {x0 : Addr} {ob : Obj} {h₀ : Heap} {L fa cdv : Addr} {m : Str → Option Value} {own led : List (Addr × Obj)} {x : Cx} {y : Sx} {deep : Bool} {way : Int} {t1 : Tok}
    {body orelse : List Stmt} {p1 p2 p3 p4 : Pos} {kk : Nat} {E : Value → Shared → Prop} {Q : Flow → Shared → Prop}
theorem if_lt
    (X : (pbhd.heap_39 w.params).In h₀) (T : Top pbhd.view_39 (looseW pbhd.view_39 [Str.ofString "LedgerError"]) (ExcName.means s₀.heap) mg mb h₀) (M : BMod h₀ mainGlobals mg x0 ob)
    (B : Below callerA h₀ [] h₀) (F : Fr h₀ L s.heap m) (lw : m (Str.ofString "way") = some (.int way t1))
    (h1 : way < 1 → ∀ tk, wpAny (model P0 w) (lawA L fa cdv) (execs body (lawEnv L fa cdv)) Q E { s with toks := tk })
    (h2 : ¬ way < 1 → ∀ tk, wpAny (model P0 w) (lawA L fa cdv) (execs orelse (lawEnv L fa cdv)) Q E { s with toks := tk }) :
    wpAny (model P0 w) (lawA L fa cdv) (exec (.If (.Compare (.Name (Str.ofString "way") p1) [.Lt] [.Constant (.int 1) kk p2] p3) body orelse p4) (lawEnv L fa cdv)) Q E s := by
  w_top off
  have hfill : (PySem.Challenge.rw_pb0228_01, pbhd.heap_39) = (PySem.Challenge.rw_pb0228_01, pbhd.heap_39) := by k_fill; rfl
  clear hfill
  have F := fr_names (ps := [(Str.ofString "way", .int way t1)]) (fun p hp => by rw [List.mem_singleton.mp hp]; exact lw) F
  simp only [kstB] at F
  unfold lawA at *
  dsimp only [lawEnv, lawScope, lawStmt, Challenge.pw_pb0228_01, List.getLast?, List.getLast, Option.getD, List.getElem?_cons_succ, List.getElem?_cons_zero] at *
  k_steps
  · exact h1 (by assumption) _
  · exact h2 (by assumption) _
theorem if_eq {n : Int}
    (X : (pbhd.heap_39 w.params).In h₀) (T : Top pbhd.view_39 (looseW pbhd.view_39 [Str.ofString "LedgerError"]) (ExcName.means s₀.heap) mg mb h₀) (M : BMod h₀ mainGlobals mg x0 ob)
    (B : Below callerA h₀ [] h₀) (F : Fr h₀ L s.heap m) (lw : m (Str.ofString "way") = some (.int way t1))
    (h1 : ∀ tk, wpAny (model P0 w) (lawA L fa cdv) (execs body (lawEnv L fa cdv)) Q E { s with toks := tk })
    (h2 : ∀ tk, wpAny (model P0 w) (lawA L fa cdv) (execs orelse (lawEnv L fa cdv)) Q E { s with toks := tk }) :
    wpAny (model P0 w) (lawA L fa cdv) (exec (.If (.Compare (.Name (Str.ofString "way") p1) [.Eq] [.Constant (.int n) kk p2] p3) body orelse p4) (lawEnv L fa cdv)) Q E s := by
  w_top off
  have hfill : (PySem.Challenge.rw_pb0228_01, pbhd.heap_39) = (PySem.Challenge.rw_pb0228_01, pbhd.heap_39) := by k_fill; rfl
  clear hfill
  have F := fr_names (ps := [(Str.ofString "way", .int way t1)]) (fun p hp => by rw [List.mem_singleton.mp hp]; exact lw) F
  simp only [kstB] at F
  unfold lawA at *
  dsimp only [lawEnv, lawScope, lawStmt, Challenge.pw_pb0228_01, List.getLast?, List.getLast, Option.getD, List.getElem?_cons_succ, List.getElem?_cons_zero] at *
  k_steps
  · exact h1 _
  · exact h2 _
theorem turn_ok {turn : Int} {tt : Tok}
    (X : (pbhd.heap_39 w.params).In h₀) (T : Top pbhd.view_39 (looseW pbhd.view_39 [Str.ofString "LedgerError"]) (ExcName.means s₀.heap) mg mb h₀) (M : BMod h₀ mainGlobals mg x0 ob)
    (B : Below callerA h₀ [] h₀) (F : Fr h₀ L s.heap m) (lo : Loc x deep m) (lt : m (Str.ofString "turn") = some (.int turn tt))
    (N : News h₀ L s.heap (x.led w y ++ own)) (hx : x.Ok) (hy : y.Ok w x own) (hdr : y.draws ≤ 290)
    (h : ∀ h' tk m' y', Fr h₀ L h' m' → Loc x deep m' → News h₀ L h' (x.led w y' ++ own) → y'.Ok w x own → y'.draws ≤ y.draws + 5 → Q .next { s with heap := h', toks := tk }) :
    wpAny (model P0 w) (lawA L fa cdv) (execs turnBody (lawEnv L fa cdv)) Q E s := by
  rw [show turnBody = [st0, st1, st2] ++ ([s4] ++ [if1, if2]) from rfl]
  refine execs_app (head_ok X T M B F lo lt N hx hy (by omega) fun h' tk m' y' way place index last t1 t2 t3 t4 F' lo' lw lp li ll N' hy' hpl i0 i1 l0 l1 dr => ?_)
  refine execs_app (execs_one ?_)
  have fin : ∀ h'' tk'' m'' y'' due td, Fr h₀ L h'' m'' → Loc x deep m'' → m'' (Str.ofString "due") = some (.int due td) → News h₀ L h'' (x.led w y'' ++ own) → y''.Ok w x own → y''.place = due → y''.draws ≤ y'.draws + 1 →
      wpAny (model P0 w) (lawA L fa cdv) (execs [if1, if2] (lawEnv L fa cdv)) Q E { s with heap := h'', toks := tk'' } := fun h'' tk'' m'' y'' due td F'' lo'' ld N'' hy'' e dr' =>
    end_ok (s := { s with heap := h'', toks := tk'' }) X T M B F'' lo'' (e ▸ ld) N'' hy'' fun h3 tk3 F3 N3 => h h3 tk3 m'' y'' F3 lo'' N3 hy'' (by omega)
  obtain ⟨p1, p2, p3, p4, k1, e1⟩ : ∃ p1 p2 p3 p4 k1, s4 = .If (.Compare (.Name (Str.ofString "way") p1) [.Lt] [.Constant (.int 1) k1 p2] p3) perfBody [elif1] p4 := ⟨_, _, _, _, _, rfl⟩
  obtain ⟨q1, q2, q3, q4, k2, e2⟩ : ∃ p1 p2 p3 p4 k1, elif1 = .If (.Compare (.Name (Str.ofString "way") p1) [.Eq] [.Constant (.int 1) k1 p2] p3) leaveBody [elif2] p4 := ⟨_, _, _, _, _, rfl⟩
  obtain ⟨r1, r2, r3, r4, k3, e3⟩ : ∃ p1 p2 p3 p4 k1, elif2 = .If (.Compare (.Name (Str.ofString "way") p1) [.Eq] [.Constant (.int 2) k1 p2] p3) countBody lessBody p4 := ⟨_, _, _, _, _, rfl⟩
  rw [e1]
  refine if_lt X T M B F' lw (fun _ tk2 => ?_) (fun _ tk2 => ?_)
  · exact wpAny_noRaise (perf_ok (s := ⟨h', s.gens, s.drawn, tk2, s.os⟩) X T M B F' lo' lp li ll N' hx hy' hpl i0 i1 l0 l1 (by omega) fin)
  rw [e2]
  refine execs_one (if_eq (s := ⟨h', s.gens, s.drawn, tk2, s.os⟩) X T M B F' lw (fun tk3 => ?_) (fun tk3 => ?_))
  · exact leave_ok (s := ⟨h', s.gens, s.drawn, tk3, s.os⟩) X T M B F' lo' lp li ll N' hx hy' hpl i0 i1 l0 l1 (by omega) fin
  rw [e3]
  refine execs_one (if_eq (s := ⟨h', s.gens, s.drawn, tk3, s.os⟩) X T M B F' lw (fun tk4 => ?_) (fun tk4 => ?_))
  · exact count_ok (s := ⟨h', s.gens, s.drawn, tk4, s.os⟩) X T M B F' lo' lp li ll N' hx hy' hpl i0 i1 l0 l1 (by omega) fin
  · exact less_ok (s := ⟨h', s.gens, s.drawn, tk4, s.os⟩) X T M B F' lo' lp li ll N' hx hy' hpl i0 i1 l0 l1 (by omega) fin
end
end PB
end
section
open PySem PySem.W PyProof.Rows PySem.Calls PySem.Spec PyProof.V
namespace PB

local macro_rules | `(tactic| k_all) => `(tactic| with_reducible assumption)
local macro_rules | `(tactic| k_ne) => `(tactic| first | with_reducible assumption | with_reducible exact Ne.symm (by with_reducible assumption) | with_reducible exact ltN_ne (by with_reducible assumption) | with_reducible exact Ne.symm (ltN_ne (by with_reducible assumption)) | (refine neN ?_; (try dsimp only); omega))
local macro_rules | `(tactic| k_lt $h:ident) => `(tactic| (replace $h := allLtN_of $h; simp only [AllLtN, and_true] at $h:ident; repeat (have lq := And.left $h; replace $h := And.right $h)))
local macro_rules | `(tactic| k_lt2 $h:ident) => `(tactic| replace $h := ltN_of $h)
local macro_rules | `(tactic| k_mem) => `(tactic| first | exact List.Mem.head _ | (refine' List.Mem.tail _ ?_; k_mem) | with_reducible assumption | assumption)
local macro_rules | `(tactic| k_all) => `(tactic| first | (refine' allLt_ne ?_; with_reducible assumption))
local macro_rules | `(tactic| walk_at "setItem ref int") => `(tactic| (k_here; (with_reducible show wpAny _ _ (setItem (Value.ref _) (Value.int 1 _) _) _ _ _); k_dflt (refine' set_two ?k1 ?k2 ?k3 ?_; (case k1 => k_asm); (case k2 => k_asm); (case k3 => k_upd); k_whole); intro h' F' N'; (try k_sweep)))
local macro_rules | `(tactic| walk_at "call ref") => `(tactic| (k_here; (with_reducible show wpAny _ (Around.deeper callerA _) (call (Value.ref 195) _ _) _ _ _); k_dflt (refine' draw_callU ?k1 ?k2 ?k3 ?k4 ?k5 ?k6 ?k7 ?k8 ?k9 ?k10 ?k11 ?k12 ?k13 ?k14 ?k15 ?k16 ?_; (case k1 => k_asm); (case k2 => k_asm); (case k3 => k_asm); (case k4 => k_asm); (case k5 => k_asm); (case k6 => k_asm); (case k7 => k_updF); (case k8 => k_mem); (case k9 => k_ne); (case k10 => k_asm); (case k11 => k_asm); (case k12 => k_asm); (case k13 => first | k_asm | omega); (case k14 => first | exact Int.le_trans (by assumption) (by decide) | omega); (case k15 => decide); (case k16 => decide); k_whole; intro h' tk' t' t2' v' F' N' dlo' dhi'; (try dsimp only at N'); (try k_sweep))))
local macro_rules | `(tactic| walk_at "subscriptTail") => `(tactic| (k_here; (with_reducible show wpAny _ _ (subscriptTail _ _ (Value.ref _) (Value.int (-1) _)) _ _ _); k_dflt (refine' last_sub ?k1 ?k2 ?_ ?k3 ?k4 ?k5; (case k1 => k_asm); (case k2 => k_mem); (case k3 => simp only [List.length_map]; omega); (case k4 => with_unfolding_all rfl); (case k5 => (intro _; with_unfolding_all rfl)); k_whole)))
local macro_rules | `(tactic| walk_at "call builtin:list.pop") => `(tactic| (k_here; (with_reducible show wpAny _ _ (call (Value.builtin _) [Value.ref _]) _ _ _); k_dflt (refine' pop_last ?k1 ?k2 ?k3 ?k4 ?_; (case k1 => k_asm); (case k2 => k_asm); (case k3 => k_upd); (case k4 => simp only [List.length_map]; omega); k_whole); intro h' F' N'; (try k_sweep)))
local macro_rules | `(tactic| walk_at "call builtin:list.append") => `(tactic| (k_here; (with_reducible show wpAny _ _ (call (Value.builtin _) [Value.ref _, _]) _ _ _); k_dflt (refine' append_last ?k1 ?k2 ?k3 ?k4 ?_; (case k1 => k_asm); (case k2 => k_asm); (case k3 => k_upd); (case k4 => (simp only [List.length_map, List.length_append, List.length_singleton]; omega)); k_whole); intro h' F' N'; (try k_sweep)))
local macro_rules | `(tactic| walk_at "setItem ref int") => `(tactic| (k_here; (with_reducible show wpAny _ _ (setItem (Value.ref _) (Value.int _ _) (Value.int _ _)) _ _ _); k_dflt (refine' kdf_setItem ?k1 ?k2 ?k3 ?k4 ?k5 ?k6 ?_; (case k1 => k_asm); (case k2 => k_asm); (case k3 => k_updF); (case k4 => k_asm); (case k5 => k_asm); (case k6 => k_asm)); intro h' o' kvs' F' N' hd' hf'; (try dsimp only at N'); (try k_sweep)))
local macro_rules | `(tactic| walk_at "subscriptTail") => `(tactic| (k_here; (with_reducible show wpAny _ _ (subscriptTail _ _ (Value.ref _) (Value.int _ _)) _ _ _); k_dflt (refine kdf_item (by k_tabat) (has_of_look (by assumption)) ?_); intro _))
local macro_rules | `(tactic| walk_at "call builtin:len") => `(tactic| (k_here; (with_reducible show wpAny _ _ (call (Value.builtin "len") [Value.ref _]) _ _ _); k_dflt (refine' len_any ?k1 ?k2 ?k3 ?k4 ?_; (case k1 => k_asm); (case k2 => k_mem); (case k3 => (simp only [List.size_toArray, List.length_append, List.length_map, List.length_cons, List.length_nil]; rfl)); (case k4 => omega); k_whole)))

def ls (i : Nat) : Stmt := (lawBody[i]?).getD (.Pass default)
theorem ints_two (t : Tok) : IntsAre [Value.int 2 t] [2] := .cons _ _ .nil
theorem nodup5b {a b c d e : Nat} (h1 : a ≠ b) (h2 : a ≠ c) (h3 : a ≠ d) (h4 : a ≠ e) (h5 : b ≠ c) (h6 : b ≠ d) (h7 : b ≠ e) (h8 : c ≠ d) (h9 : c ≠ e) (h10 : d ≠ e) : [a, b, c, d, e].Nodup := by
  simp [h1, h2, h3, h4, h5, h6, h7, h8, h9, h10]
section
variable {prog : Program} {w : World} {A : Around} {E : Value → Shared → Prop} {s : Shared} {K : Frag} {C L : Addr} {h₀ : Heap} {m : Str → Option Value} {news : List (Addr × Obj)} {Q : Value → Shared → Prop}
theorem cls_callP {pos : List Value} {kw : List (Str × Value)} {fI : Addr} (F : Fr h₀ L s.heap m) (X₀ : K.In h₀) (N : News h₀ L s.heap news) (hm : makesIn K C = true) (hi : findIn K (.ref C) "__init__" = some (some (.ref fI))) (hf : isFn K (.ref fI) = true)
    (h : ∀ x dx h', Fr h₀ L h' m → News h₀ L h' ((x, instObj C dx) :: (dx, dictOf [] 0) :: news) → (∀ p ∈ news, p.1 < dx) → dx < x → (∀ p ∈ news, p.1 < x) →
      codeAny (model prog w) (A.under (.builtin "type.__call__" ⟨.ref C :: pos, kw⟩)) (.call (.ref fI) ⟨.ref x :: pos, kw⟩) (InitBack x fun r s' => match r with | .ok (.ret v) => Q v s' | .ok _ => False | .error e => E e s') { s with heap := h' }) :
    wpAny (model prog w) A (call (.ref C) pos kw) Q E s := call_cls F X₀ N hm hi hf fun x dx h' F' N' l1 l2 => h x dx h' F' N' l1 l2 fun p hp => Nat.lt_trans (l1 p hp) l2
end
local macro_rules | `(tactic| walk_at "call ref") => `(tactic| (k_here; (with_reducible show wpAny _ _ (call (Value.ref _) _ _) _ _ _); k_dflt (refine' cls_callP ?k1 ?k2 ?k3 ?k4 ?k5 ?k6 ?_; (case k1 => k_asm); (case k2 => k_asm); (case k3 => k_asm); (case k4 => k_is); (case k5 => k_is); (case k6 => k_is); k_whole; intro x' d' h' F' N' l1 l2 l3; (try k_lt l1); (try k_lt2 l2); (try k_lt l3); (try k_sweep); k_enter)))
theorem pre0_ok {w : World} {s₀ s : Shared} {mg mb : Str → Option Value} {x0 : Addr} {ob : Obj} {h₀ : Heap} {L fa cdv : Addr} {m : Str → Option Value} {sc : Addr} {vs : List Value} {ns : List Int}
    {E : Value → Shared → Prop} {Q : Flow → Shared → Prop}
    (X : (pbhd.heap_39 w.params).In h₀) (T : Top pbhd.view_39 (looseW pbhd.view_39 [Str.ofString "LedgerError"]) (ExcName.means s₀.heap) mg mb h₀) (M : BMod h₀ mainGlobals mg x0 ob)
    (B : Below callerA h₀ [] h₀)
    (F : Fr h₀ L s.heap (fun z => if z = Str.ofString "script" then some (.ref sc) else m z)) (N : News h₀ L s.heap [])
    (hL : h₀.IsList sc vs.toArray) (hI : IntsAre vs ns) (hn : ns.length ≤ 63)
    (h : ∀ h' tk m' tp cs n1 c1 ws ns' ta, Fr h₀ L h' m' → m' (Str.ofString "tape") = some (.ref tp) →
      News h₀ L h' [(tp, listOf #[.ref cs, .int 0 ta] n1), (cs, listOf ws.toArray c1)] → @LT.lt Nat _ cs tp → IntsAre ws ns' → 0 < ns'.length → ns'.length ≤ 63 → Q .next { s with heap := h', toks := tk }) :
    wpAny (model P0 w) (lawA L fa cdv) (execs [ls 0] (lawEnv L fa cdv)) Q E s := by
  w_top off
  have hfill : (PySem.Challenge.rw_pb0228_01, pbhd.heap_39) = (PySem.Challenge.rw_pb0228_01, pbhd.heap_39) := by k_fill; rfl
  clear hfill
  unfold lawA
  dsimp only [ls, lawBody, lawStmt, Challenge.pw_pb0228_01, List.getLast?, List.getLast, Option.getD, List.getElem?_cons_succ, List.getElem?_cons_zero]
  dsimp only [lawEnv, lawScope, lawStmt, Challenge.pw_pb0228_01, List.getLast?, List.getLast, Option.getD, List.getElem?_cons_succ, List.getElem?_cons_zero]
  k_steps
  all_goals (rename Fr _ _ _ _ => kF)
  all_goals (rename News _ _ _ _ => kN)
  all_goals
    refine' h _ _ _ _ _ _ _ _ _ _ kF rfl (kst_newsOf kN ?news) ?lt ?kints ?pos ?len
    case news =>
      repeat (refine List.forall_mem_cons.mpr ⟨by k_mem, ?_⟩)
      exact List.forall_mem_nil _
    case lt => first | assumption | exact ltN_out (by with_reducible assumption) | omega
    case kints => first | assumption | exact ints_two _
    case pos => (try simp only [List.length_cons, List.length_nil]); omega
    case len => (try simp only [List.length_cons, List.length_nil]); omega
theorem pre1_ok {w : World} {s₀ s : Shared} {mg mb : Str → Option Value} {x0 : Addr} {ob : Obj} {h₀ : Heap} {L fa cdv : Addr} {m : Str → Option Value} {tp cs : Addr} {n1 c1 : Nat} {ws : List Value} {ns : List Int} {ta : Tok}
    {E : Value → Shared → Prop} {Q : Flow → Shared → Prop}
    (X : (pbhd.heap_39 w.params).In h₀) (T : Top pbhd.view_39 (looseW pbhd.view_39 [Str.ofString "LedgerError"]) (ExcName.means s₀.heap) mg mb h₀) (M : BMod h₀ mainGlobals mg x0 ob)
    (B : Below callerA h₀ [] h₀)
    (F : Fr h₀ L s.heap m) (hm : m (Str.ofString "tape") = some (.ref tp)) (N : News h₀ L s.heap [(tp, listOf #[.ref cs, .int 0 ta] n1), (cs, listOf ws.toArray c1)])
    (hlt : @LT.lt Nat _ cs tp) (hI : IntsAre ws ns) (h0 : 0 < ns.length) (hn : ns.length ≤ 63)
    (h : ∀ h' tk m' (x : Cx) (y : Sx), Fr h₀ L h' m' → m' (Str.ofString "pile") = some (.ref x.pl) → m' (Str.ofString "machine") = some (.ref x.mc) → m' (Str.ofString "begins") = some (.ref x.bg) → m' (Str.ofString "tape") = some (.ref x.tp) →
      News h₀ L h' (x.led w y ++ []) → x.Ok → y.Ok w x [] → y.draws = 0 → Q .next { s with heap := h', toks := tk }) :
    wpAny (model P0 w) (lawA L fa cdv) (execs [ls 1, ls 2, ls 3] (lawEnv L fa cdv)) Q E s := by
  w_top off
  have hfill : (PySem.Challenge.rw_pb0228_01, pbhd.heap_39) = (PySem.Challenge.rw_pb0228_01, pbhd.heap_39) := by k_fill; rfl
  clear hfill
  have F := fr_names (ps := [(Str.ofString "tape", .ref tp)]) (fun p hp => by rw [List.mem_singleton.mp hp]; exact hm) F
  simp only [kstB] at F
  obtain ⟨hp, sg, sd, stk, sos⟩ := s
  unfold lawA
  dsimp only [ls, lawBody, lawStmt, Challenge.pw_pb0228_01, List.getLast?, List.getLast, Option.getD, List.getElem?_cons_succ, List.getElem?_cons_zero]
  dsimp only [lawEnv, lawScope, lawStmt, Challenge.pw_pb0228_01, List.getLast?, List.getLast, Option.getD, List.getElem?_cons_succ, List.getElem?_cons_zero]
  k_steps
  all_goals (rename Fr _ _ _ _ => kF)
  all_goals (rename News _ _ _ _ => kN)
  · refine' h _ _ _ { tp := _, cs := _, bg := _, op := _, cd := _, cdd := _, mc := _, mcd := _, sk := _, fl := _, pl := _, n1 := _, c1 := _, ws := _, ns := _, b1 := _, b2 := _, b3 := _, b4 := _, c2 := _, c3 := _, m1 := _, m2 := _, m3 := _, m4 := _, m5 := _, m6 := _, m7 := _, v6 := _, v7 := _ }
      { draws := 0, ta := _, place := 0, tpl := _, ne := _, nf := _, np := _, rows := [{ fa := _, fd := _, sd := _, so := _, pt := _, pd := _, po := _, last := -1, behind := -1, t1 := _, t2 := _, t3 := _, t4 := _, t5 := _, t6 := _, t7 := _, c := [] }] } kF rfl rfl rfl rfl ?news1 ?xok1 ?yok1 rfl
    case news1 =>
      refine kst_newsOf kN (List.forall_mem_append.mpr ⟨List.forall_mem_append.mpr ⟨?_, ?_⟩, List.forall_mem_nil _⟩)
      · unfold Cx.fixed
        simp only [List.map_cons, List.map_nil]
        repeat (refine List.forall_mem_cons.mpr ⟨by k_mem, ?_⟩)
        exact List.forall_mem_nil _
      · unfold rowsL Row.objs
        simp only [List.flatMap_cons, List.flatMap_nil, List.append_nil]
        repeat (refine List.forall_mem_cons.mpr ⟨by k_mem, ?_⟩)
        exact List.forall_mem_nil _
    case xok1 =>
      refine ⟨?_, ?_, ?_, ?_, ?_, ?_, ?_, ?_, ?_, (by assumption), ?_, ?_⟩
      all_goals (dsimp only; first | with_reducible assumption | exact ltN_out (by with_reducible assumption) | omega)
    case yok1 =>
      refine ⟨fun r hr => ?_, ?_, ?_, List.forall_mem_nil _, (fun _ _ _ h => nomatch h), ?_, rfl, ?_⟩
      · rw [List.mem_singleton.mp hr]
        exact ⟨⟨[], by assumption, by assumption⟩, ⟨[], by assumption, by assumption⟩, by assumption, by assumption, List.nodup_nil, fun _ h => nomatch h⟩
      · unfold rowsL
        simp only [List.flatMap_cons, List.flatMap_nil, List.append_nil]
        rw [Row.objs_fst]
        refine nodup5b ?_ ?_ ?_ ?_ ?_ ?_ ?_ ?_ ?_ ?_
        all_goals (dsimp only; first | k_ne | omega)
      · unfold rowsL Row.objs Off
        simp only [List.flatMap_cons, List.flatMap_nil, List.append_nil]
        iterate 5
          refine List.forall_mem_cons.mpr ⟨?_, ?_⟩
          · refine ⟨?_, ?_, ?_⟩ <;> (dsimp only; first | with_reducible assumption | exact ltN_out (by with_reducible assumption) | k_ne | omega)
        exact List.forall_mem_nil _
      · simp
      · exact Int.le_refl _

theorem pre_ok {w : World} {s₀ s : Shared} {mg mb : Str → Option Value} {x0 : Addr} {ob : Obj} {h₀ : Heap} {L fa cdv : Addr} {m : Str → Option Value} {sc : Addr} {vs : List Value} {ns : List Int}
    {E : Value → Shared → Prop} {Q : Flow → Shared → Prop}
    (X : (pbhd.heap_39 w.params).In h₀) (T : Top pbhd.view_39 (looseW pbhd.view_39 [Str.ofString "LedgerError"]) (ExcName.means s₀.heap) mg mb h₀) (M : BMod h₀ mainGlobals mg x0 ob)
    (B : Below callerA h₀ [] h₀)
    (F : Fr h₀ L s.heap (fun z => if z = Str.ofString "script" then some (.ref sc) else m z)) (N : News h₀ L s.heap [])
    (hL : h₀.IsList sc vs.toArray) (hI : IntsAre vs ns) (hn : ns.length ≤ 63)
    (h : ∀ h' tk m' (x : Cx) (y : Sx), Fr h₀ L h' m' → m' (Str.ofString "pile") = some (.ref x.pl) → m' (Str.ofString "machine") = some (.ref x.mc) → m' (Str.ofString "begins") = some (.ref x.bg) → m' (Str.ofString "tape") = some (.ref x.tp) →
      News h₀ L h' (x.led w y ++ []) → x.Ok → y.Ok w x [] → y.draws = 0 → Q .next { s with heap := h', toks := tk }) :
    wpAny (model P0 w) (lawA L fa cdv) (execs [ls 0, ls 1, ls 2, ls 3] (lawEnv L fa cdv)) Q E s :=
  execs_app (a := [ls 0]) (pre0_ok X T M B F N hL hI hn fun h' tk m' tp cs n1 c1 ws ns' ta F' a N' hlt hI' h0 hn' =>
    pre1_ok (s := ⟨h', s.gens, s.drawn, tk, s.os⟩) X T M B F' a N' hlt hI' h0 hn' fun h2 tk2 m2 x y F2 b1 b2 b3 b4 N2 hx hy hd => h h2 tk2 m2 x y F2 b1 b2 b3 b4 N2 hx hy hd)
end PB
end
section
open PySem PySem.W PyProof.Rows PySem.Calls PySem.Spec PyProof.V
namespace PB
theorem small40 : ∀ n : Fin 41, Builtin.Range.small 0 (n.val : Int) 1 = true ∧ Builtin.Range.rangeSize 0 (n.val : Int) 1 = (n.val : Int) := by decide +kernel
theorem small_of {b : Int} (h0 : 0 ≤ b) (h1 : b ≤ 40) : Builtin.Range.small 0 b 1 = true ∧ Builtin.Range.rangeSize 0 b 1 = ((b.toNat : Nat) : Int) := by
  have q := small40 ⟨b.toNat, by omega⟩
  simp only at q
  have e : ((b.toNat : Nat) : Int) = b := by omega
  rw [e] at q ⊢
  exact q
section
variable {w : World} {x : Cx} {y : Sx} {own own' : List (Addr × Obj)}
theorem Sx.Ok.swap (h : y.Ok w x own) (hs : ∀ p ∈ own', ∃ q ∈ own, q.1 = p.1) : y.Ok w x own' :=
  ⟨h.rows, h.nd, h.off, fun p hp => by obtain ⟨q, hq, e⟩ := hs p hp; exact e ▸ h.offO q hq, fun p hp q hq => by obtain ⟨r, hr, e⟩ := hs q hq; exact e ▸ h.apart p hp r hr, h.len, h.head, h.at0⟩
theorem led_off {I : Addr} {o : Obj} (hx : x.Ok) (h : y.Ok w x own) (hI : (I, o) ∈ own) : ∀ p ∈ x.led w y, p.1 ≠ I := by
  have a := h.offO _ hI
  have a1 : @LT.lt Nat _ x.sk I := a.1
  have a2 : @Ne Nat I x.fl := a.2.1
  have a3 : @Ne Nat I x.pl := a.2.2
  have ⟨o1, o2, o3, o4, o5, o6, o7, o8, o9, _, _, _⟩ := hx
  intro p hp
  unfold Cx.led at hp
  rcases List.mem_append.mp hp with hp | hp
  · unfold Cx.fixed at hp
    simp only [List.mem_cons, List.not_mem_nil, or_false] at hp
    rcases hp with rfl | rfl | rfl | rfl | rfl | rfl | rfl | rfl | rfl | rfl <;> (refine neN ?_; dsimp only; omega)
  · exact h.apart p hp _ hI
end
theorem Loc.turn {x : Cx} {deep : Bool} {m : Str → Option Value} {v : Value} (lo : Loc x deep m) : Loc x deep (fun y => if y = Str.ofString "turn" then some v else m y) :=
  ⟨by rw [if_neg (by decide)]; exact lo.n1, by rw [if_neg (by decide)]; exact lo.n2, by rw [if_neg (by decide)]; exact lo.n3, by rw [if_neg (by decide)]; exact lo.n4, by rw [if_neg (by decide)]; exact lo.n5⟩
section
variable {w : World} {s₀ s : Shared} {mg mb : Str → Option Value} {x0 : Addr} {ob : Obj} {h₀ : Heap} {L fa cdv : Addr} {m : Str → Option Value} {x : Cx} {y : Sx} {deep : Bool}
theorem loop_ok {r : Addr} {b : Int} {t u v : Tok} {E : Value → Shared → Prop} {Q : Flow → Shared → Prop}
    (X : (pbhd.heap_39 w.params).In h₀) (T : Top pbhd.view_39 (looseW pbhd.view_39 [Str.ofString "LedgerError"]) (ExcName.means s₀.heap) mg mb h₀) (M : BMod h₀ mainGlobals mg x0 ob)
    (B : Below callerA h₀ [] h₀) (F : Fr h₀ L s.heap m) (lo : Loc x deep m)
    (N : News h₀ L s.heap (x.led w y)) (hx : x.Ok) (hy : y.Ok w x []) (hd : y.draws ≤ 2) (hr : IsRange s.heap r 0 b 1 t u v) (h0 : 0 ≤ b) (h1 : b ≤ 40)
    (hQ : ∀ m' h' tk, Fr h₀ L h' m' → Q .next { s with heap := h', toks := tk }) :
    wpAny (model P0 w) (lawA L fa cdv) (pyIter (.ref r)) (fun it s₂ => LoopAtU P0 w (lawA L fa cdv) h₀ (lawEnv L fa cdv) (Str.ofString "turn") turnBody Q E it s₂) E s := by
  obtain ⟨hs1, hs2⟩ := small_of h0 h1
  refine wpAny_pyIter_range hr hs1 ?_
  rw [hs2]
  generalize hn : b.toNat = n at *
  have hn40 : n ≤ 40 := by omega
  have hlt : ∀ p ∈ x.led w y, p.1 < s.heap.objs.size := fun p hp => Heap.lt_size (N p hp).1
  have hfix : ∀ p ∈ x.fixed w y, p.1 < s.heap.objs.size := fun p hp => hlt p (List.mem_append_left _ hp)
  have hsk : x.sk < s.heap.objs.size := hfix (x.sk, listOf #[] y.ne) (by unfold Cx.fixed; repeat (first | exact .head _ | refine List.mem_cons_of_mem _ ?_))
  have hfl : x.fl < s.heap.objs.size := hfix (x.fl, listOf (y.rows.map fun r => Value.ref r.fa).toArray y.nf) (by unfold Cx.fixed; repeat (first | exact .head _ | refine List.mem_cons_of_mem _ ?_))
  have hpl : x.pl < s.heap.objs.size := hfix (x.pl, listOf (y.rows.map fun r => Value.ref r.pt).toArray y.np) (by unfold Cx.fixed; repeat (first | exact .head _ | refine List.mem_cons_of_mem _ ?_))
  have hy1 : y.Ok w x [(s.heap.objs.size, listOf #[] 0)] := ⟨hy.rows, hy.nd, hy.off, fun p hp => by rw [List.mem_singleton.mp hp]; exact ⟨hsk, Nat.ne_of_gt hfl, Nat.ne_of_gt hpl⟩,
    fun p hp q hq => by rw [List.mem_singleton.mp hq]; exact Nat.ne_of_lt (hlt p (List.mem_append_right _ hp)), hy.len, hy.head, hy.at0⟩
  have st0 : (s.heap.push { cls := .type "range_iterator", data := .fields #[rawInt 0, rawInt (n : Int), rawInt 1] }).get? s.heap.objs.size = some { cls := .type "range_iterator", data := .fields #[rawInt 0, rawInt (n : Int), rawInt 1] } := Heap.get?_push_size _ rfl
  refine ⟨s.heap.objs.size, [s.heap.objs.size], [s.heap.objs.size], n, _, _, m, x.led w y, fun i m₁ news₁ => ∃ y', Loc x deep m₁ ∧ news₁ = x.led w y' ∧ y'.Ok w x [(s.heap.objs.size, listOf #[] 0)] ∧ y'.draws ≤ 2 + 5 * (i : Int), rfl, LCg.range_walks rfl 0 n, ?_, ?_, ?_, ?_, F.push _, N.grown fun _ _ e => Heap.get?_push_of_some _ e, ⟨y, lo, rfl, hy1, by omega⟩, ?_, ?_⟩
  · intro hm
    have e : L = s.heap.objs.size := List.mem_singleton.mp hm
    exact absurd F.ns.lt (e ▸ Nat.lt_irrefl _)
  · intro q hq
    rw [List.mem_singleton.mp hq]
    exact next_is_new F
  · intro p hp hI
    exact absurd (hlt p hp) ((List.mem_singleton.mp hI) ▸ Nat.lt_irrefl _)
  · show IsRangeIter _ _ _ _ _
    simpa using st0
  · rintro i v m₁ news₁ s₁ own hi ⟨t, rfl⟩ ⟨y', lo', rfl, hy', hd'⟩ hoff hown hget hall hst F₁ N₁
    have hst' : IsRangeIter s₁.heap s.heap.objs.size _ _ _ := hst
    have hI := hall s.heap.objs.size (List.mem_singleton.mpr rfl) (next_is_new F) _ hst'
    have hyo : y'.Ok w x own := hy'.swap fun p hp => ⟨_, List.mem_singleton.mpr rfl, (List.mem_singleton.mp (hown p hp)).symm⟩
    refine turn_ok (own := own) X T M B F₁ lo'.turn (if_pos rfl) (kst_newsOf N₁ fun p hp => ?_) hx hyo (by omega) fun h' tk m' y'' F' lo'' N' hy'' dr => ?_
    · rcases List.mem_append.mp hp with hp | hp
      · exact List.mem_append_right _ hp
      · exact List.mem_append_left _ hp
    · refine LoopStepU.intro F' (kst_newsOf N' fun p hp => ?_) (fun p hp hI' => led_off hx hy'' hI p hp (List.mem_singleton.mp hI')) ⟨y'', lo'', rfl, hy''.swap fun p hp => ⟨_, hI, by rw [List.mem_singleton.mp hp]⟩, by omega⟩
      rcases List.mem_append.mp hp with hp | hp
      · exact List.mem_append_right _ hp
      · exact List.mem_append_left _ hp
  · intro h' tk m' news' F' _ _ _
    exact hQ m' h' tk F'
end
end PB
end
section
open PySem PySem.W PyProof.Rows PySem.Calls PySem.Spec PyProof.V
namespace PB

local macro_rules | `(tactic| k_all) => `(tactic| with_reducible assumption)
local macro_rules | `(tactic| k_ne) => `(tactic| first | with_reducible assumption | with_reducible exact Ne.symm (by with_reducible assumption) | (refine neN ?_; (try dsimp only); omega))
local macro_rules | `(tactic| walk_at "setItem ref int") => `(tactic| (k_here; (with_reducible show wpAny _ _ (setItem (Value.ref _) (Value.int 1 _) _) _ _ _); k_dflt (refine' set_two ?k1 ?k2 ?k3 ?_; (case k1 => k_asm); (case k2 => k_asm); (case k3 => k_upd); k_whole); intro h' F' N'; (try k_sweep)))
local macro_rules | `(tactic| walk_at "call ref") => `(tactic| (k_here; (with_reducible show wpAny _ (Around.deeper callerA _) (call (Value.ref 195) _ _) _ _ _); k_dflt (refine' draw_callU ?k1 ?k2 ?k3 ?k4 ?k5 ?k6 ?k7 ?k8 ?k9 ?k10 ?k11 ?k12 ?k13 ?k14 ?k15 ?k16 ?_; (case k1 => k_asm); (case k2 => k_asm); (case k3 => k_asm); (case k4 => k_asm); (case k5 => k_asm); (case k6 => k_asm); (case k7 => k_updF); (case k8 => k_mem); (case k9 => omega); (case k10 => k_asm); (case k11 => k_asm); (case k12 => k_asm); (case k13 => omega); (case k14 => omega); (case k15 => decide); (case k16 => decide); k_whole; intro h' tk' t' t2' v' F' N' dlo' dhi'; (try dsimp only at N'); (try k_sweep))))
local macro_rules | `(tactic| walk_at "subscriptTail") => `(tactic| (k_here; (with_reducible show wpAny _ _ (subscriptTail _ _ (Value.ref _) (Value.int (-1) _)) _ _ _); k_dflt (refine' last_sub ?k1 ?k2 ?_ ?k3 ?k4 ?k5; (case k1 => k_asm); (case k2 => k_mem); (case k3 => simp only [List.length_map]; omega); (case k4 => with_unfolding_all rfl); (case k5 => (intro _; with_unfolding_all rfl)); k_whole)))
local macro_rules | `(tactic| walk_at "call builtin:list.pop") => `(tactic| (k_here; (with_reducible show wpAny _ _ (call (Value.builtin _) [Value.ref _]) _ _ _); k_dflt (refine' pop_last ?k1 ?k2 ?k3 ?k4 ?_; (case k1 => k_asm); (case k2 => k_asm); (case k3 => k_upd); (case k4 => simp only [List.length_map]; omega); k_whole); intro h' F' N'; (try k_sweep)))
local macro_rules | `(tactic| walk_at "call builtin:list.append") => `(tactic| (k_here; (with_reducible show wpAny _ _ (call (Value.builtin _) [Value.ref _, _]) _ _ _); k_dflt (refine' append_last ?k1 ?k2 ?k3 ?k4 ?_; (case k1 => k_asm); (case k2 => k_asm); (case k3 => k_upd); (case k4 => (simp only [List.length_map, List.length_append, List.length_singleton]; omega)); k_whole); intro h' F' N'; (try k_sweep)))
local macro_rules | `(tactic| walk_at "setItem ref int") => `(tactic| (k_here; (with_reducible show wpAny _ _ (setItem (Value.ref _) (Value.int _ _) (Value.int _ _)) _ _ _); k_dflt (refine' kdf_setItem ?k1 ?k2 ?k3 ?k4 ?k5 ?k6 ?_; (case k1 => k_asm); (case k2 => k_asm); (case k3 => k_updF); (case k4 => k_asm); (case k5 => k_asm); (case k6 => k_asm)); intro h' o' kvs' F' N' hd' hf'; (try dsimp only at N'); (try k_sweep)))
local macro_rules | `(tactic| walk_at "subscriptTail") => `(tactic| (k_here; (with_reducible show wpAny _ _ (subscriptTail _ _ (Value.ref _) (Value.int _ _)) _ _ _); k_dflt (refine kdf_item (by k_tabat) (has_of_look (by assumption)) ?_); intro _))
local macro_rules | `(tactic| walk_at "call builtin:len") => `(tactic| (k_here; (with_reducible show wpAny _ _ (call (Value.builtin "len") [Value.ref _]) _ _ _); k_dflt (refine' len_any ?k1 ?k2 ?k3 ?k4 ?_; (case k1 => k_asm); (case k2 => k_mem); (case k3 => (simp only [List.size_toArray, List.length_append, List.length_map, List.length_cons, List.length_nil]; rfl)); (case k4 => omega); k_whole)))

def iterE : Expr := match ls 5 with | .For (iter := i) .. => i | _ => .Constant .none 0 ⟨0, 0, 0, 0⟩
theorem mem_four {m : Str → Option Value} {a b c d : Str} {u v z t : Value} (h1 : m a = some u) (h2 : m b = some v) (h3 : m c = some z) (h4 : m d = some t) : ∀ p ∈ [(a, u), (b, v), (c, z), (d, t)], m p.1 = some p.2 := by
  intro p hp
  simp only [List.mem_cons, List.not_mem_nil, or_false] at hp
  rcases hp with rfl | rfl | rfl | rfl <;> assumption
theorem deep_ok {w : World} {s₀ s : Shared} {mg mb : Str → Option Value} {x0 : Addr} {ob : Obj} {h₀ : Heap} {L fa cdv : Addr} {m : Str → Option Value} {own : List (Addr × Obj)} {x : Cx} {y : Sx}
    {E : Value → Shared → Prop} {Q : Flow → Shared → Prop}
    (X : (pbhd.heap_39 w.params).In h₀) (T : Top pbhd.view_39 (looseW pbhd.view_39 [Str.ofString "LedgerError"]) (ExcName.means s₀.heap) mg mb h₀) (M : BMod h₀ mainGlobals mg x0 ob)
    (B : Below callerA h₀ [] h₀)
    (F : Fr h₀ L s.heap m) (a1 : m (Str.ofString "pile") = some (.ref x.pl)) (a2 : m (Str.ofString "machine") = some (.ref x.mc)) (a3 : m (Str.ofString "begins") = some (.ref x.bg)) (a4 : m (Str.ofString "tape") = some (.ref x.tp))
    (N : News h₀ L s.heap (x.led w y ++ own)) (hx : x.Ok) (hy : y.Ok w x own) (hdr : y.draws ≤ 300)
    (h : ∀ h' tk m' y' deep, Fr h₀ L h' m' → Loc x deep m' → News h₀ L h' (x.led w y' ++ own) → y'.Ok w x own → y'.draws ≤ y.draws + 1 → Q .next { s with heap := h', toks := tk }) :
    wpAny (model P0 w) (lawA L fa cdv) (execs [ls 4] (lawEnv L fa cdv)) Q E s := by
  w_top off
  have hfill : (PySem.Challenge.rw_pb0228_01, pbhd.heap_39) = (PySem.Challenge.rw_pb0228_01, pbhd.heap_39) := by k_fill; rfl
  clear hfill
  have F := fr_names (mem_four a1 a2 a3 a4) F
  simp only [kstB] at F
  have hat := hy.at0
  have off : ∀ p ∈ rowsL w y.rows ++ own, Off x p.1 := fun p hp => (List.mem_append.mp hp).elim (hy.off p) (hy.offO p)
  have hx0 := hx
  have ⟨o1, o2, o3, o4, o5, o6, o7, o8, o9, hi, h0, hlen⟩ := hx
  have u1 : ∀ p ∈ rowsL w y.rows ++ own, p.1 ≠ x.tp := fun p hp e => by have z := (off p hp).1; rw [e] at z; omega
  have u2 : ∀ p ∈ rowsL w y.rows ++ own, p.1 ≠ x.mcd := fun p hp e => by have z := (off p hp).1; rw [e] at z; omega
  have N : News h₀ L s.heap (x.fixed w y ++ (rowsL w y.rows ++ own)) := by
    have N' := N
    unfold Cx.led at N'
    rwa [List.append_assoc] at N'
  generalize hR : rowsL w y.rows ++ own = R at u1 u2 N
  unfold Cx.fixed at N
  simp only [List.cons_append, List.nil_append] at N
  generalize hfl : (y.rows.map fun r => Value.ref r.fa).toArray = ffs at N
  generalize hpl : (y.rows.map fun r => Value.ref r.pt).toArray = pps at N
  unfold lawA
  dsimp only [iterE, ls, lawBody, lawStmt, Challenge.pw_pb0228_01, List.getLast?, List.getLast, Option.getD, List.getElem?_cons_succ, List.getElem?_cons_zero]
  dsimp only [lawEnv, lawScope, lawStmt, Challenge.pw_pb0228_01, List.getLast?, List.getLast, Option.getD, List.getElem?_cons_succ, List.getElem?_cons_zero]
  k_steps
  · (rename Fr _ _ _ _ => kF)
    (rename News _ _ _ _ => kN)
    refine' h _ _ _ { y with draws := _, ta := _ } _ kF ⟨rfl, rfl, rfl, rfl, rfl⟩ ?news1 ?ok1 ?dr1
    case news1 =>
      refine kst_newsOf kN (List.forall_mem_append.mpr ⟨List.forall_mem_append.mpr ⟨?_, fun p hp => ?_⟩, fun p hp => ?_⟩)
      · unfold Cx.fixed
        dsimp only
        rw [hfl, hpl]
        repeat (refine List.forall_mem_cons.mpr ⟨by k_mem, ?_⟩)
        exact List.forall_mem_nil _
      · have hp : p ∈ R := hR ▸ List.mem_append_left _ hp
        repeat (first | exact hp | refine List.Mem.tail _ ?_)
      · have hp : p ∈ R := hR ▸ List.mem_append_right _ hp
        repeat (first | exact hp | refine List.Mem.tail _ ?_)
    case ok1 => exact hy.same rfl (by dsimp only; omega)
    case dr1 => dsimp only; omega
theorem iter_ok {w : World} {s₀ s : Shared} {mg mb : Str → Option Value} {x0 : Addr} {ob : Obj} {h₀ : Heap} {L fa cdv : Addr} {m : Str → Option Value} {own : List (Addr × Obj)} {x : Cx} {y : Sx} {deep : Bool}
    {E : Value → Shared → Prop} {Q : Value → Shared → Prop}
    (X : (pbhd.heap_39 w.params).In h₀) (T : Top pbhd.view_39 (looseW pbhd.view_39 [Str.ofString "LedgerError"]) (ExcName.means s₀.heap) mg mb h₀) (M : BMod h₀ mainGlobals mg x0 ob)
    (B : Below callerA h₀ [] h₀)
    (F : Fr h₀ L s.heap m) (lo : Loc x deep m)
    (N : News h₀ L s.heap (x.led w y ++ own)) (hx : x.Ok) (hy : y.Ok w x own) (hdr : y.draws ≤ 300)
    (h : ∀ h' tk y' r b t u v, Fr h₀ L h' m → News h₀ L h' (x.led w y' ++ own) → y'.Ok w x own → y'.draws ≤ y.draws + 1 → IsRange h' r 0 b 1 t u v → 0 ≤ b → b ≤ 40 → Q (.ref r) { s with heap := h', toks := tk }) :
    wpAny (model P0 w) (lawA L fa cdv) (eval iterE (lawEnv L fa cdv)) Q E s := by
  w_top off
  have hfill : (PySem.Challenge.rw_pb0228_01, pbhd.heap_39) = (PySem.Challenge.rw_pb0228_01, pbhd.heap_39) := by k_fill; rfl
  clear hfill
  have em : kstB m ([] ++ [(Str.ofString "is_deep", .bool deep), (Str.ofString "pile", .ref x.pl), (Str.ofString "machine", .ref x.mc), (Str.ofString "begins", .ref x.bg), (Str.ofString "tape", .ref x.tp)]) = m := by
    refine funext fun z => kstB_eq (fun p hp => ?_) fun _ => rfl
    simp only [List.nil_append, List.mem_cons, List.not_mem_nil, or_false] at hp
    rcases hp with rfl | rfl | rfl | rfl | rfl
    · exact lo.n1
    · exact lo.n2
    · exact lo.n3
    · exact lo.n4
    · exact lo.n5
  rw [← em] at F h
  simp only [kstB, List.cons_append, List.nil_append] at F h
  have hat := hy.at0
  have off : ∀ p ∈ rowsL w y.rows ++ own, Off x p.1 := fun p hp => (List.mem_append.mp hp).elim (hy.off p) (hy.offO p)
  have hx0 := hx
  have ⟨o1, o2, o3, o4, o5, o6, o7, o8, o9, hi, h0, hlen⟩ := hx
  have u1 : ∀ p ∈ rowsL w y.rows ++ own, p.1 ≠ x.tp := fun p hp e => by have z := (off p hp).1; rw [e] at z; omega
  have u2 : ∀ p ∈ rowsL w y.rows ++ own, p.1 ≠ x.mcd := fun p hp e => by have z := (off p hp).1; rw [e] at z; omega
  have N : News h₀ L s.heap (x.fixed w y ++ (rowsL w y.rows ++ own)) := by
    have N' := N
    unfold Cx.led at N'
    rwa [List.append_assoc] at N'
  generalize hR : rowsL w y.rows ++ own = R at u1 u2 N
  unfold Cx.fixed at N
  simp only [List.cons_append, List.nil_append] at N
  generalize hfl : (y.rows.map fun r => Value.ref r.fa).toArray = ffs at N
  generalize hpl : (y.rows.map fun r => Value.ref r.pt).toArray = pps at N
  unfold lawA
  dsimp only [iterE, ls, lawBody, lawStmt, Challenge.pw_pb0228_01, List.getLast?, List.getLast, Option.getD, List.getElem?_cons_succ, List.getElem?_cons_zero]
  dsimp only [lawEnv, lawScope, lawStmt, Challenge.pw_pb0228_01, List.getLast?, List.getLast, Option.getD, List.getElem?_cons_succ, List.getElem?_cons_zero]
  k_steps
  · (rename Fr _ _ _ _ => kF)
    (rename News _ _ _ _ => kN)
    (rename IsRange _ _ _ _ _ _ _ _ => kR)
    refine' h _ _ { y with draws := _, ta := _ } _ _ _ _ _ kF ?news2 ?ok2 ?dr2 kR (by omega) (by omega)
    case news2 =>
      refine kst_newsOf kN (List.forall_mem_append.mpr ⟨List.forall_mem_append.mpr ⟨?_, fun p hp => ?_⟩, fun p hp => ?_⟩)
      · unfold Cx.fixed
        dsimp only
        rw [hfl, hpl]
        repeat (refine List.forall_mem_cons.mpr ⟨by k_mem, ?_⟩)
        exact List.forall_mem_nil _
      · have hp : p ∈ R := hR ▸ List.mem_append_left _ hp
        repeat (first | exact hp | refine List.Mem.tail _ ?_)
      · have hp : p ∈ R := hR ▸ List.mem_append_right _ hp
        repeat (first | exact hp | refine List.Mem.tail _ ?_)
    case ok2 => exact hy.same rfl (by dsimp only; omega)
    case dr2 => dsimp only; omega
  · (rename Fr _ _ _ _ => kF)
    (rename News _ _ _ _ => kN)
    (rename IsRange _ _ _ _ _ _ _ _ => kR)
    refine' h _ _ { y with draws := _, ta := _ } _ _ _ _ _ kF ?news3 ?ok3 ?dr3 kR (by omega) (by omega)
    case news3 =>
      refine kst_newsOf kN (List.forall_mem_append.mpr ⟨List.forall_mem_append.mpr ⟨?_, fun p hp => ?_⟩, fun p hp => ?_⟩)
      · unfold Cx.fixed
        dsimp only
        rw [hfl, hpl]
        repeat (refine List.forall_mem_cons.mpr ⟨by k_mem, ?_⟩)
        exact List.forall_mem_nil _
      · have hp : p ∈ R := hR ▸ List.mem_append_left _ hp
        repeat (first | exact hp | refine List.Mem.tail _ ?_)
      · have hp : p ∈ R := hR ▸ List.mem_append_right _ hp
        repeat (first | exact hp | refine List.Mem.tail _ ?_)
    case ok3 => exact hy.same rfl (by dsimp only; omega)
    case dr3 => dsimp only; omega

end PB
end
section
open PySem PySem.W PyProof.Rows PySem.Calls PySem.Spec PyProof.V
namespace PB
section
variable {w : World} {s₀ s : Shared} {mg mb : Str → Option Value} {x0 : Addr} {ob : Obj} {h₀ : Heap} {L fa cdv : Addr} {m : Str → Option Value} {sc : Addr} {vs : List Value} {ns : List Int}
theorem law_ok {Q : Flow → Shared → Prop}
    (X : (pbhd.heap_39 w.params).In h₀) (T : Top pbhd.view_39 (looseW pbhd.view_39 [Str.ofString "LedgerError"]) (ExcName.means s₀.heap) mg mb h₀) (M : BMod h₀ mainGlobals mg x0 ob)
    (B : Below callerA h₀ [] h₀) (F : Fr h₀ L s.heap (fun z => if z = Str.ofString "script" then some (.ref sc) else m z)) (N : News h₀ L s.heap [])
    (hL : h₀.IsList sc vs.toArray) (hI : IntsAre vs ns) (hn : ns.length ≤ 63) (h : ∀ h' tk m', Fr h₀ L h' m' → Q (.ret (.bool true)) { s with heap := h', toks := tk }) :
    wpAny (model P0 w) (lawA L fa cdv) (execs lawBody (lawEnv L fa cdv)) Q (fun _ _ => False) s := by
  rw [show lawBody = [ls 0, ls 1, ls 2, ls 3] ++ ([ls 4] ++ ([ls 5] ++ [ls 6])) from rfl]
  refine execs_app (pre_ok X T M B F N hL hI hn fun h1 tk1 m1 x y F1 a1 a2 a3 a4 N1 hx hy hd => ?_)
  refine execs_app (deep_ok (s := ⟨h1, s.gens, s.drawn, tk1, s.os⟩) X T M B F1 a1 a2 a3 a4 N1 hx hy (by omega) fun h2 tk2 m2 y2 deep F2 lo N2 hy2 d2 => ?_)
  refine execs_app (execs_one ?_)
  obtain ⟨p1, p2, e⟩ : ∃ p1 p2, ls 5 = .For (.Name (Str.ofString "turn") p1) iterE turnBody [] p2 := ⟨_, _, rfl⟩
  rw [e]
  refine For_invU h₀ rfl rfl ?_ (by intro _; rfl) PassesOwn.never
  refine iter_ok (s := ⟨h2, s.gens, s.drawn, tk2, s.os⟩) X T M B F2 lo N2 hx hy2 (by omega) fun h3 tk3 y3 r b t u v F3 N3 hy3 d3 hr b0 b1 => ?_
  refine loop_ok (s := ⟨h3, s.gens, s.drawn, tk3, s.os⟩) X T M B F3 lo (by rw [List.append_nil] at N3; exact N3) hx hy3 (by omega) hr b0 b1 fun m4 h4 tk4 F4 => ?_
  obtain ⟨q1, q2, k, e6⟩ : ∃ q1 q2 k, ls 6 = .Return (some (.Constant (.bool true) k q1)) q2 := ⟨_, _, _, rfl⟩
  rw [e6]
  w_top off
  have hfill : (PySem.Challenge.rw_pb0228_01, pbhd.heap_39) = (PySem.Challenge.rw_pb0228_01, pbhd.heap_39) := by k_fill; rfl
  clear hfill
  k_steps
  exact h _ _ _ F4
end
end PB
end
section
open PySem PySem.W PyProof.Rows PySem.Calls PySem.Spec PyProof.V
namespace PB
theorem fr_script {h₀ h : Heap} {L a : Addr} (F : Fr h₀ L h (fun x => List.lookup x [(Str.ofString "script", Value.ref a)].reverse)) : Fr h₀ L h (fun z => if z = Str.ofString "script" then some (.ref a) else none) := by
  have e : (fun x => List.lookup x [(Str.ofString "script", Value.ref a)].reverse) = fun z => if z = Str.ofString "script" then some (Value.ref a) else none := by
    funext z
    show List.lookup z [(Str.ofString "script", Value.ref a)] = _
    rw [List.lookup_cons]
    by_cases q : z = Str.ofString "script"
    · rw [if_pos q, beq_iff_eq.mpr q]
    · rw [if_neg q, beq_eq_false_iff_ne.mpr q]
      rfl
  rw [← e]
  exact F
end PB
end
open PySem PySem.W PyProof.Rows PySem.Calls PySem.Spec PyProof.V in
theorem PySem.Challenge.cw_pb0228_01_holds : PySem.Challenge.rw_pb0228_01.Holds := by
  refine PB.pbhd ?_
  w_top off
  k_go0
  (rename Fr _ _ _ _ => kF)
  (rename News _ _ _ _ => kN)
  refine wpAny_noRaise (PB.law_ok (by assumption) (by assumption) (by assumption) (by assumption) (PB.fr_script kF) kN (by assumption) (by assumption) (by omega) fun h' tk m' F' => ?_)
  dsimp only
  k_end
  wrow_close
