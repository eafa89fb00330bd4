import PyProof.Rows.All
import Wide.All
import OpenK.AllK
import Wide.FinOn
import PySem.Challenge.RW_og0155_01
open PySem PySem.W PyProof.Rows
set_option Elab.async false
set_option linter.unusedVariables false
set_option linter.unusedSimpArgs false
namespace Mine
set_option maxRecDepth 100000 in
set_option maxHeartbeats 8000000 in
open_top hd for PySem.Challenge.rw_og0155_01
open PySem.Calls PySem.Spec
set_option maxRecDepth 100000

abbrev lo : List Str := [Str.ofString "PaperError", Str.ofString "MOST_GROUP", Str.ofString "hex_encoded"]
abbrev Rm (dp un : Nat) (fr : Option (List Env)) (gd : Option (List Code)) : Around := { handled := none, depth := dp, frames := fr, guards := gd, units := un }

/-- what stood outside hid stands -/
def KeepsX (hid : List Addr) (h h' : Heap) : Prop := ∀ b o, b ∉ hid → h.get? b = some o → h'.get? b = some o
theorem KeepsX.refl {hid : List Addr} {h : Heap} : KeepsX hid h h := fun _ _ _ e => e
theorem KeepsX.trans {hid : List Addr} {h h' h'' : Heap} (a : KeepsX hid h h') (b : KeepsX hid h' h'') : KeepsX hid h h'' := fun x o n e => b x o n (a x o n e)
theorem KeepsX.weaken {hid : List Addr} {h h' : Heap} (a : KeepsX [] h h') : KeepsX hid h h' := fun x o _ e => a x o (fun q => nomatch q) e

structure Gd (w : World) (mean : ExcName → Option Value) (mg mb : Str → Option Value) (h₀ : Heap) : Prop where
  X : (hd.heap_39 w.params).In h₀
  T : Top hd.view_39 (looseW hd.view_39 lo) mean mg mb h₀
theorem Gd.keeps {w : World} {mean : ExcName → Option Value} {mg mb : Str → Option Value} {h h' : Heap} (G : Gd w mean mg mb h) (k : h.StaysIn h') : Gd w mean mg mb h' :=
  ⟨Frag.In.keeps G.X k, G.T.keeps k⟩

def Ok (s : Shared) (hid : List Addr) (Post : Value → Heap → Prop) (r : Value) (s' : Shared) : Prop :=
  ∃ h' tk', s' = { s with heap := h', toks := tk' } ∧ KeepsX hid s.heap h' ∧ Post r h'

/-- the end of a body: what the frame's base holds stands, and the answer is as said -/
def Fin (g : Heap) (L : Addr) (s : Shared) (Post : Value → Heap → Prop) (fl : Flow) (s' : Shared) : Prop :=
  ∃ h' tk' m', s' = { s with heap := h', toks := tk' } ∧ Fr g L h' m' ∧ Post (match fl with | .ret v => v | _ => .none) h'
theorem fin_ret {g : Heap} {L : Addr} {s : Shared} {Post : Value → Heap → Prop} {v : Value} {h' : Heap} {tk' : Nat} {m' : Str → Option Value} (F : Fr g L h' m') (hp : Post v h') : Fin g L s Post (.ret v) { s with heap := h', toks := tk' } :=
  ⟨h', tk', m', rfl, F, hp⟩
section
variable {prog : Program} {w : World} {A : Around} {E : Value → Shared → Prop} {s : Shared} {mean : ExcName → Option Value} {mg mb : Str → Option Value} {h₀ : Heap}
theorem enter {name qual : Str} {params : Arguments} {body : List Stmt} {scope : Scope} {dV kV doc pm cdv ct oc : Value} {an od : Option Addr} {osl : Array (Option Value)} {f : Addr} {vals : List Value} {binds : List (Str × Value)} {news : List (Addr × Obj)} {Post : Value → Heap → Prop}
    (G : Gd w mean mg mb h₀) (st : h₀.StaysIn s.heap) (hn : ∀ p ∈ news, s.heap.get? p.1 = some p.2 ∧ h₀.get? p.1 = none) (hroom : A.depth < recursionLimit)
    (ho : (hd.heap_39 w.params).lookup f = some ⟨oc, od, .func (fnOf name qual params body scope dV kV doc pm an cdv ct), osl⟩) (hcd : codeIn (hd.heap_39 w.params) cdv qual = true)
    (hbind : BindsTo s (fnOf name qual params body scope dV kV doc pm an cdv ct) ⟨vals, []⟩ binds) (hloc : ∀ y ∈ binds, scope.names.lookup y.1 = some .local)
    (h : ∀ g L' h₁, Gd w mean mg mb g → (∀ b o, b ∉ news.map (·.1) → s.heap.get? b = some o → g.get? b = some o) → Fr g L' h₁ (fun y => binds.reverse.lookup y) → News g L' h₁ news →
      let ev := envOf qual scope L' f cdv
      let Ak := A.deeper ev
      wpAny (model PySem.Challenge.pw_og0155_01 w) Ak (execs body ev) (Fin g L' s Post) (fun _ _ => False) { s with heap := h₁, toks := s.toks + binds.length })
    (hco : scope.isCoroutine = false) (hgen : scope.isGenerator = false) (hk : scope.kind = .function)
    (hcell : ∀ x ∈ scope.names, x.2 ≠ .cell) : wpAny (model PySem.Challenge.pw_og0155_01 w) A (call (.ref f) vals) (Ok s (news.map (·.1)) Post) E s := by
  refine wpAny_noRaise (wpAny_call ?_)
  have X : (hd.heap_39 w.params).In s.heap := Frag.In.keeps G.X st
  refine codeAny_call_def (fd := fnOf name qual params body scope dV kV doc pm an cdv ct) (body := body) (binds := binds) hroom (X _ _ ho) rfl (G.T.nolimit.keeps st) (codeRec_of X hcd) rfl hbind hcell hloc (fun h₁ hns hk₁ => ?_) hco hgen hk
  have nm : ∀ b o, h₀.get? b = some o → b ∉ news.map (·.1) := fun b o e q => by
    obtain ⟨p, hp, rfl⟩ := List.mem_map.mp q
    rw [(hn p hp).2] at e; cases e
  have hg : ∀ b o, b ∉ news.map (·.1) → s.heap.get? b = some o → (hideAll s.heap (news.map (·.1))).get? b = some o := fun b o hb e => hideAll_get _ e hb
  refine wpAny_mono (h (hideAll s.heap (news.map (·.1))) s.heap.objs.size h₁ (G.keeps fun b o e => hg b o (nm b o e) (st b o e)) hg
    ⟨hns, fun b o e => hk₁ b o (of_hideAll _ e), Nat.le_of_eq (hideAll_size _ _)⟩
    (fun p hp => ⟨hk₁ _ _ (hn p hp).1, Nat.ne_of_lt (Heap.lt_size (hn p hp).1), hideAll_none _ (List.mem_map_of_mem hp)⟩)) (fun fl s' hl => ?_) fun _ _ y => y.elim
  obtain ⟨h', tk', m', rfl, F', hp⟩ := hl
  exact ⟨h', tk', rfl, fun b o hb e => F'.keep b o (hg b o hb e), hp⟩
end

theorem use_ok {M : Model} {A : Around} {t : Sem Value} {s : Shared} {hid : List Addr} {Post : Value → Heap → Prop} {Q E : Value → Shared → Prop}
    (H : wpAny M A t (Ok s hid Post) (fun _ _ => False) s) (h : ∀ r h' tk', KeepsX hid s.heap h' → Post r h' → Q r { s with heap := h', toks := tk' }) : wpAny M A t Q E s :=
  wpAny_noRaise (wpAny_mono H (fun r s' q => by obtain ⟨h', tk', rfl, k, p⟩ := q; exact h r h' tk' k p) fun _ _ x => x)

theorem fr_kx {g h h' : Heap} {L : Addr} {m : Str → Option Value} {hid : List Addr} (F : Fr g L h m) (k : KeepsX hid h h') (hL : L ∉ hid) (hg : ∀ a ∈ hid, g.get? a = none) : Fr g L h' m := by
  obtain ⟨oL, es, ep, hL', r⟩ := F.ns
  exact ⟨⟨oL, es, ep, k _ _ hL hL', r⟩, fun b o e => k b o (fun q => by rw [hg b q] at e; cases e) (F.keep b o e), F.above⟩
theorem fr_k {g h h' : Heap} {L : Addr} {m : Str → Option Value} (F : Fr g L h m) (k : KeepsX [] h h') : Fr g L h' m := fr_kx F k (fun q => nomatch q) fun _ q => nomatch q
theorem news_kx {g h h' : Heap} {L : Addr} {hid : List Addr} {news : List (Addr × Obj)} (N : News g L h news) (k : KeepsX hid h h') (hn : ∀ p ∈ news, p.1 ∉ hid) : News g L h' news :=
  fun p hp => ⟨k _ _ (hn p hp) (N p hp).1, (N p hp).2⟩
theorem news_k {g h h' : Heap} {L : Addr} {news : List (Addr × Obj)} (N : News g L h news) (k : KeepsX [] h h') : News g L h' news := news_kx N k fun _ _ q => nomatch q

/-- a call that turns nothing, within a frame -/
theorem use_pure {M : Model} {A : Around} {t : Sem Value} {s : Shared} {Post : Value → Heap → Prop} {Q E : Value → Shared → Prop} {g : Heap} {L : Addr} {m : Str → Option Value} {news : List (Addr × Obj)}
    (F : Fr g L s.heap m) (N : News g L s.heap news) (H : wpAny M A t (Ok s [] Post) (fun _ _ => False) s)
    (h : ∀ r h' tk', Post r h' → Fr g L h' m → News g L h' news → Q r { s with heap := h', toks := tk' }) : wpAny M A t Q E s :=
  use_ok H fun r h' tk' k p => h r h' tk' p (fr_k F k) (news_k N k)

/-- names -/
theorem lk_ne {x y : Str} {a b : Option Value} {v : Value} (hne : x ≠ y) (h : b = some v) : (if x = y then a else b) = some v := by rw [if_neg hne]; exact h
theorem lk_eq {x : Str} {a b : Option Value} {v : Value} (h : a = some v) : (if x = x then a else b) = some v := by rw [if_pos rfl]; exact h
theorem look_ne {m : Str → Option Value} {x y : Str} {v w : Value} (hne : x ≠ y) (h : m x = some v) : (fun z => if z = y then some w else m z) x = some v := by
  show (if x = y then some w else m x) = some v
  rw [if_neg hne]; exact h
theorem look_eq {m : Str → Option Value} {x : Str} {w : Value} : (fun z => if z = x then some w else m z) x = some w := by
  show (if x = x then some w else m x) = some w
  rw [if_pos rfl]

theorem fresh_of {s : Shared} {g h' : Heap} {L l : Addr} {o : Obj} {news : List (Addr × Obj)} (hg : ∀ b ob, b ∉ ([] : List (Addr × Obj)).map (·.1) → s.heap.get? b = some ob → g.get? b = some ob) (N : News g L h' news) (hm : (l, o) ∈ news) : s.heap.get? l = none := by
  cases e : s.heap.get? l with
  | none => rfl
  | some ob =>
    have := hg l ob (fun q => nomatch q) e
    rw [News.fresh N hm] at this
    cases this
/-- a call that gives back a new list of ints -/
inductive NewInts (h : Heap) (ys : List Int) (r : Value) (h' : Heap) : Prop
  | mk (l' : Addr) (us' : List Value) (c : Nat) : r = .ref l' → h'.get? l' = some (listOf us'.toArray c) → h.get? l' = none → IntsAre us' ys → NewInts h ys r h'
/-- a call that gives back these bytes -/
inductive BytesAre (out : List Int) (r : Value) : Prop
  | mk (b : Array UInt8) (t : Tok) : r = .bytes b t → KBw.bInts b = out → BytesAre out r
theorem use_new {M : Model} {A : Around} {t : Sem Value} {s : Shared} {ys : List Int} {Q E : Value → Shared → Prop} {g : Heap} {L : Addr} {m : Str → Option Value} {news : List (Addr × Obj)}
    (F : Fr g L s.heap m) (N : News g L s.heap news) (H : wpAny M A t (Ok s [] (NewInts s.heap ys)) (fun _ _ => False) s)
    (h : ∀ l us c h' tk', (∀ p ∈ news, p.1 ≠ l) → IntsAre us ys → us.length = ys.length → Fr g L h' m → News g L h' ((l, listOf us.toArray c) :: news) → Q (.ref l) { s with heap := h', toks := tk' }) : wpAny M A t Q E s :=
  use_pure F N H fun r h' tk' p F' N' => by
    obtain ⟨l, us, c, rfl, h1, h2, h3⟩ := p
    refine h l us c h' tk' (fun p hp e => ?_) h3 h3.length F' fun p hp => ?_
    · have := (N p hp).1
      rw [e, h2] at this
      cases this
    · rcases List.mem_cons.mp hp with rfl | hp
      · refine ⟨h1, fun e => ?_, ?_⟩
        · obtain ⟨oL, _, _, hL, _⟩ := F.ns
          have e' : l = L := e
          rw [e', hL] at h2
          cases h2
        · cases e : g.get? l with
          | none => rfl
          | some o => rw [F.keep _ _ e] at h2; cases h2
      · exact N' p hp

def AllNe (d : Addr) : List (Addr × Obj) → Prop
  | [] => True
  | p :: r => @Ne Nat p.1 d ∧ AllNe d r
theorem allNe_of {d : Addr} : ∀ {l : List (Addr × Obj)}, (∀ p ∈ l, p.1 ≠ d) → AllNe d l
  | [], _ => trivial
  | p :: _, h => ⟨h p (.head _), allNe_of fun q hq => h q (.tail _ hq)⟩
/-- the last statement of a body -/
theorem execs_one {M : Model} {A : Around} {env : Env} {s : Shared} {st : Stmt} {Q : Flow → Shared → Prop} {E : Value → Shared → Prop} (h : wpAny M A (exec st env) Q E s) : wpAny M A (execs [st] env) Q E s :=
  wpAny_execs_cons (wpAny_mono h (fun f s' q => by cases f <;> first | exact wpAny_execs_nil q | exact q) fun _ _ x => x)
/-- the last argument -/
theorem args_last {M : Model} {A : Around} {env : Env} {s : Shared} {e : PySem.Expr} {pos : Pos} {Q : List Value → Shared → Prop} {E : Value → Shared → Prop} (h : wpAny M A (eval e env) (fun v s₁ => Q [v] s₁) E s)
    (he : starEach [e] env = (false, eval e env) :: starEach [] env := by rfl) : wpAny M A (spliced (backTo pos (starEach [e] env))) Q E s :=
  args_cons (wpAny_mono h (fun _ _ q => args_nil q) fun _ _ x => x) he
/-- a store: the names behind it under one letter -/
theorem storeM {M : Model} {A : Around} {E : Value → Shared → Prop} {s : Shared} {h₀ : Heap} {L a : Addr} {m : Str → Option Value} {cn : Str} {cs : Scope} {ccd : Value} {x : Str} {v : Value} {Q : Unit → Shared → Prop} {news : List (Addr × Obj)} (F : Fr h₀ L s.heap m) (N : News h₀ L s.heap news)
    (h : ∀ h', let mm : Str → Option Value := fun y => if y = x then some v else m y
      Fr h₀ L h' mm → News h₀ L h' news → Q () { s with heap := h', toks := s.toks + 1 })
    (hk : cs.kind = .function := by rfl) (hx : (envOf cn cs L a ccd).kindOf x = some .local := by rfl) : wpAny M A (storeName (envOf cn cs L a ccd) x v) Q E s :=
  storeX_L (cl := []) F N (fun h' F' N' => h h' F' N') hk hx
/-! rules whose states stay written: the tokens are letters -/
section
variable {prog : Program} {w : World} {A : Around} {E : Value → Shared → Prop} {Q : Value → Shared → Prop} {h : Heap} {g : Array GenState} {d : Drawn} {k : Nat} {o : OsState} {a b : Int} {t u : Tok}
theorem c_const {M : Model} {env : Env} {i : Int} {kk pos} (hq : ∀ t k', Q (.int i t) ⟨h, g, d, k', o⟩) : wpAny M A (eval (.Constant (.int i) kk pos) env) Q E ⟨h, g, d, k, o⟩ := wpAny_Constant_int (hq _ _)
theorem c_add (hq : ∀ t k', Q (.int (a + b) t) ⟨h, g, d, k', o⟩) : wpAny (model prog w) A (binaryOp .Add (.int a t) (.int b u)) Q E ⟨h, g, d, k, o⟩ := PyProof.Rows.add_int (hq _ _)
theorem c_sub (hq : ∀ t k', Q (.int (a - b) t) ⟨h, g, d, k', o⟩) : wpAny (model prog w) A (binaryOp .Sub (.int a t) (.int b u)) Q E ⟨h, g, d, k, o⟩ := PyProof.Rows.sub_int (hq _ _)
theorem c_mul (hm : IntMulOk a b) (hq : ∀ t k', Q (.int (a * b) t) ⟨h, g, d, k', o⟩) : wpAny (model prog w) A (binaryOp .Mult (.int a t) (.int b u)) Q E ⟨h, g, d, k, o⟩ := PyProof.Rows.mul_int (hq _ _) hm
theorem c_mod (hb : 0 < b) (hq : ∀ t k', 0 ≤ a % b → a % b < b → Q (.int (a % b) t) ⟨h, g, d, k', o⟩) : wpAny (model prog w) A (binaryOp .Mod (.int a t) (.int b u)) Q E ⟨h, g, d, k, o⟩ :=
  PyProof.Rows.mod_int (by omega) (by rw [Int.fmod_eq_emod_of_nonneg a (Int.le_of_lt hb)]; exact hq _ _ (Int.emod_nonneg a (by omega)) (Int.emod_lt_of_pos a hb))
theorem c_div (hb : 0 < b) (hs : b < 1073741824) (hq : ∀ t k', Q (.int (a / b) t) ⟨h, g, d, k', o⟩) : wpAny (model prog w) A (binaryOp .FloorDiv (.int a t) (.int b u)) Q E ⟨h, g, d, k, o⟩ :=
  PyProof.Rows.floordiv_int (by omega) (by rw [Int.fdiv_eq_ediv_of_nonneg a (Int.le_of_lt hb)]; exact hq _ _) (Or.inl (PyProof.noPylong_small (by omega)))
theorem c_neg (hq : ∀ t k', Q (.int (-a) t) ⟨h, g, d, k', o⟩) : wpAny (model prog w) A (unaryOp .USub (.int a t)) Q E ⟨h, g, d, k, o⟩ := PyProof.Rows.neg_int (hq _ _)
theorem c_pow {n : Int} (hn : 0 ≤ n) (hn2 : n ≤ 1000000) (ha : a.natAbs < 2 ^ 64) (hq : ∀ t k', Q (.int (a ^ n.toNat) t) ⟨h, g, d, k', o⟩) : wpAny (model prog w) A (binaryOp .Pow (.int a t) (.int n u)) Q E ⟨h, g, d, k, o⟩ :=
  PyProof.Rows.pow_int_small hn hn2 ha (hq _ _)
end

/-! bytes, by their ints -/
open KBw (bInts)
theorem bInts_inj {b c : Array UInt8} (h : bInts b = bInts c) : b = c := by
  apply Array.toList_inj.mp
  unfold KBw.bInts at h
  refine (List.map_inj_right (f := fun c : UInt8 => (c.toNat : Int)) ?_).mp h
  intro x y e
  exact UInt8.toNat_inj.mp (Int.ofNat_inj.mp e)
theorem bInts_list (l : List UInt8) : bInts l.toArray = l.map fun c => (c.toNat : Int) := rfl
theorem bInts_byteArr {ns : List Int} (hr : ∀ n ∈ ns, 0 ≤ n ∧ n < 256) : bInts (byteArr ns) = ns := by
  unfold byteArr
  rw [bInts_list, List.map_map]
  conv => rhs; rw [← List.map_id ns]
  refine List.map_congr_left fun n hn => ?_
  exact byte_back (hr n hn).1 (hr n hn).2
section
variable {prog : Program} {w : World} {A : Around} {E : Value → Shared → Prop} {Q : Value → Shared → Prop} {h : Heap} {gs : Array GenState} {d : Drawn} {k : Nat} {o : OsState} {b c : Array UInt8} {t u : Tok} {g : Heap} {L : Addr} {m : Str → Option Value} {news : List (Addr × Obj)}
theorem cb_const {M : Model} {env : Env} {x kk pos} (hq : ∀ t k', Q (.bytes x.toArray t) ⟨h, gs, d, k', o⟩) : wpAny M A (eval (.Constant (.bytes x) kk pos) env) Q E ⟨h, gs, d, k, o⟩ := Constant_bytes (hq _ _)
theorem cb_len (hz : b.size ≤ 1048576) (hq : ∀ t k', Q (.int b.size t) ⟨h, gs, d, k', o⟩) : wpAny (model prog w) A (call (.builtin "len") [.bytes b t]) Q E ⟨h, gs, d, k, o⟩ := len_bytes (by omega) (hq _ _)
theorem cb_add (hz : b.size + c.size ≤ 1048576) (hq : ∀ b' t k', bInts b' = bInts b ++ bInts c → b'.size = b.size + c.size → Q (.bytes b' t) ⟨h, gs, d, k', o⟩) : wpAny (model prog w) A (binaryOp .Add (.bytes b t) (.bytes c u)) Q E ⟨h, gs, d, k, o⟩ :=
  KBy.add_bytes (by omega) fun t' k => hq _ _ _ (KBw.ints_app rfl rfl) (by simp)
theorem cb_eq (hq : Q (.bool (decide (bInts b = bInts c))) ⟨h, gs, d, k, o⟩) : wpAny (model prog w) A (compareOp .Eq (.bytes b t) (.bytes c u)) Q E ⟨h, gs, d, k, o⟩ := by
  refine eq_bytes ?_
  have e : (b.toList == c.toList) = decide (bInts b = bInts c) := by
    rw [Bool.eq_iff_iff, beq_iff_eq, decide_eq_true_eq]
    exact ⟨fun e => by unfold KBw.bInts; rw [e], fun e => congrArg Array.toList (bInts_inj e)⟩
  rw [e]; exact hq
theorem cb_ne (hq : Q (.bool (!decide (bInts b = bInts c))) ⟨h, gs, d, k, o⟩) : wpAny (model prog w) A (compareOp .NotEq (.bytes b t) (.bytes c u)) Q E ⟨h, gs, d, k, o⟩ := by
  refine ne_bytes ?_
  have e : (b.toList != c.toList) = !decide (bInts b = bInts c) := by
    unfold bne
    congr 1
    rw [Bool.eq_iff_iff, beq_iff_eq, decide_eq_true_eq]
    exact ⟨fun e => by unfold KBw.bInts; rw [e], fun e => congrArg Array.toList (bInts_inj e)⟩
  rw [e]; exact hq
theorem cb_item {i : Int} {ui : Tok} {value slice : PySem.Expr} (hz : b.size ≤ 1048576) (h0 : 0 ≤ i) (h1 : i < (b.size : Int))
    (hq : ∀ t k', 0 ≤ (bInts b).getD i.toNat 0 → (bInts b).getD i.toNat 0 < 256 → Q (.int ((bInts b).getD i.toNat 0) t) ⟨h, gs, d, k', o⟩)
    (hs : subscripted slice false (.bytes b t) (.int i ui) = operate [.bytes b t, .int i ui] (getItem (.bytes b t) (.int i ui)) := by with_unfolding_all rfl)
    (ht : ∀ r, letTemporaryGo value (.bytes b t) r = pure () := by intro _; with_unfolding_all rfl) : wpAny (model prog w) A (subscriptTail value slice (.bytes b t) (.int i ui)) Q E ⟨h, gs, d, k, o⟩ :=
  KBw.item_K rfl (by rw [KBw.ints_length]; omega) h0 (by rw [KBw.ints_length]; exact h1) (fun t' k' a b => hq t' k' a b) hs ht
theorem cb_make {l : Addr} {vs : List Value} {ns : List Int} (F : Fr g L h m) (N : News g L h news) (hh : A.handled = none) (hl : h.IsList l vs.toArray) (hi : IntsAre vs ns) (hr : ∀ n ∈ ns, 0 ≤ n ∧ n < 256) (hn : ns.length ≤ 1048576)
    (hq : ∀ b' t h' k', Fr g L h' m → News g L h' news → bInts b' = ns → b'.size = ns.length → Q (.bytes b' t) ⟨h', gs, d, k', o⟩) : wpAny (model prog w) A (call (.type "bytes") [.ref l]) Q E ⟨h, gs, d, k, o⟩ :=
  KBa.make_K (s := ⟨h, gs, d, k, o⟩) F N hh hl hi hr (by omega) fun h' t' k' F' N' _ => hq _ t' h' k' F' N' (bInts_byteArr hr) (byteArr_size ns)
/-- a cut -/
def cut (ks : List Int) (lo hi : Option Int) : List Int := (ks.drop (lo.elim 0 (clipAt ks.length))).take (hi.elim ks.length (clipAt ks.length) - lo.elim 0 (clipAt ks.length))
theorem cb_slice {value slice : PySem.Expr} {l v : Value} {lo hi : Option Int} (F : Fr g L h m) (N : News g L h news) (hl : IsPart l lo) (hu : IsPart v hi) (hz : b.size ≤ 1048576)
    (hq : ∀ b' t h' k', Fr g L h' m → News g L h' news → bInts b' = cut (bInts b) lo hi → b'.size ≤ b.size → Q (.bytes b' t) ⟨h', gs, d, k', o⟩)
    (hs : subscripted slice false (.bytes b t) (.ref h.objs.size) = operate [.ref h.objs.size, .bytes b t] (getItem (.bytes b t) (.ref h.objs.size)) := by with_unfolding_all rfl)
    (ht : ∀ r, letTemporaryGo value (.bytes b t) r = pure () := by intro _; with_unfolding_all rfl) :
    wpAny (model prog w) A (subscriptTail value slice (.bytes b t) (.ref h.objs.size)) Q E ⟨h.push { cls := .type "slice", data := .fields #[l, v, .none] }, gs, d, k, o⟩ :=
  KBc.slice_K (s := ⟨h, gs, d, k, o⟩) F N rfl hl hu (by rw [KBw.ints_length]; omega) (fun h' t' k' F' N' e => hq _ t' h' k' F' N' e (KBc.size_picked_le b lo hi)) hs ht
theorem cb_mul {n : Int} (hb : 0 < b.size) (hlo : -1048576 ≤ n) (hn : n ≤ 1048576) (hz : b.size ≤ 16) (hq : ∀ b' t k', bInts b' = (List.replicate n.toNat (bInts b)).flatten → Q (.bytes b' t) ⟨h, gs, d, k', o⟩) :
    wpAny (model prog w) A (binaryOp .Mult (.bytes b t) (.int n u)) Q E ⟨h, gs, d, k, o⟩ := by
  have e : b.toList.toArray = b := Array.toArray_toList
  rw [← e]
  refine bytes_mul_any (fun q => ?_) hlo hn (by simpa using hz) fun t' k' => hq _ t' k' ?_
  · rw [← Array.length_toList, q] at hb; exact absurd hb (Nat.lt_irrefl _)
  · rw [bInts_list, List.map_flatten, List.map_replicate]; rfl
theorem cb_truthy {Q : Bool → Shared → Prop} (hz : b.size ≤ 1048576) (hq : ∀ k', Q ((b.size : Int) != 0) ⟨h, gs, d, k', o⟩) : wpAny (model prog w) A (truthy (.bytes b t)) Q E ⟨h, gs, d, k, o⟩ := truthy_bytes (by omega) (hq _)

theorem clip_nn {n : Nat} {a : Int} (h0 : 0 ≤ a) : clipAt n a = min a.toNat n := by
  obtain ⟨m, rfl⟩ := Int.eq_ofNat_of_zero_le h0
  unfold clipAt
  rw [if_neg (Int.not_lt.mpr h0), Int.max_eq_right (Int.le_min.mpr ⟨h0, Int.natCast_nonneg n⟩)]
  show (min (m : Int) (n : Int)).toNat = min m n
  rcases Nat.le_total m n with h | h
  · rw [Nat.min_eq_left h, Int.min_eq_left (Int.ofNat_le.mpr h)]; rfl
  · rw [Nat.min_eq_right h, Int.min_eq_right (Int.ofNat_le.mpr h)]; rfl
theorem toNat_sub' {a b : Int} (h0 : 0 ≤ a) (h1 : a ≤ b) : (b - a).toNat = b.toNat - a.toNat := by
  obtain ⟨m, rfl⟩ := Int.eq_ofNat_of_zero_le h0
  obtain ⟨n, rfl⟩ := Int.eq_ofNat_of_zero_le (Int.le_trans h0 h1)
  exact Int.toNat_sub n m
theorem cut_nat {ks : List Int} {x y : Nat} : (ks.drop (min x ks.length)).take (min y ks.length - min x ks.length) = (ks.drop x).take (y - x) := by
  by_cases hx : x ≤ ks.length
  · rw [Nat.min_eq_left hx]
    by_cases hy : y ≤ ks.length
    · rw [Nat.min_eq_left hy]
    · have hy' := Nat.le_of_not_le hy
      rw [Nat.min_eq_right hy', List.take_of_length_le (by rw [List.length_drop]; exact Nat.le_refl _), List.take_of_length_le (by rw [List.length_drop]; exact Nat.sub_le_sub_right hy' x)]
  · have hx' := Nat.le_of_not_le hx
    rw [Nat.min_eq_right hx', List.drop_of_length_le (Nat.le_refl _), List.drop_of_length_le hx', List.take_nil, List.take_nil]
theorem cut_nn {ks : List Int} {a b : Int} (h0 : 0 ≤ a) (h1 : a ≤ b) : cut ks (some a) (some b) = (ks.drop a.toNat).take (b - a).toNat := by
  unfold cut
  simp only [Option.elim]
  rw [clip_nn h0, clip_nn (Int.le_trans h0 h1), toNat_sub' h0 h1]
  exact cut_nat
theorem cut_0n {ks : List Int} {b : Int} (h1 : 0 ≤ b) : cut ks none (some b) = ks.take b.toNat := by
  unfold cut
  simp only [Option.elim, List.drop_zero, Nat.sub_zero]
  rw [clip_nn h1]
  by_cases hy : b.toNat ≤ ks.length
  · rw [Nat.min_eq_left hy]
  · have hy' := Nat.le_of_not_le hy
    rw [Nat.min_eq_right hy', List.take_of_length_le (Nat.le_refl _), List.take_of_length_le hy']
theorem cut_neg {ks : List Int} {b : Int} (h1 : b < 0) : cut ks none (some b) = ks.take (ks.length - b.natAbs) := by
  unfold cut
  simp only [Option.elim, List.drop_zero, Nat.sub_zero]
  have hb := clipAt_cast ks.length b
  have e2 : clipAt ks.length b = ks.length - b.natAbs := by omega
  rw [e2]
end
/-- the walk halts here -/
def Stop (P : Prop) : Prop := P
theorem stop_intro {P : Prop} (h : Stop P) : P := h

/-- the end of a loop's turn -/
def TEnd (h₀ : Heap) (L : Addr) (own : List (Addr × Obj)) (adr : List Addr) (J : (Str → Option Value) → List (Addr × Obj) → Prop) (s : Shared) (Q : Flow → Shared → Prop) (fl : Flow) (s' : Shared) : Prop :=
  match fl with
  | .ret v => Q (.ret v) s'
  | .brk => Q .next s'
  | _ => ∃ h' tk' m' nx, s' = { s with heap := h', toks := tk' } ∧ Fr h₀ L h' m' ∧ News h₀ L h' (nx ++ own) ∧ nx.map (·.1) = adr ∧ J m' nx
theorem tend_next {h₀ : Heap} {L : Addr} {own : List (Addr × Obj)} {adr : List Addr} {J : (Str → Option Value) → List (Addr × Obj) → Prop} {s : Shared} {Q : Flow → Shared → Prop} {h' : Heap} {tk' : Nat} {m' : Str → Option Value} {nx news' : List (Addr × Obj)}
    (F : Fr h₀ L h' m') (N : News h₀ L h' news') (hs : ∀ p ∈ nx, p ∈ news') (ho : ∀ p ∈ own, p ∈ news') (ha : nx.map (·.1) = adr) (hj : J m' nx) : TEnd h₀ L own adr J s Q .next { s with heap := h', toks := tk' } :=
  ⟨h', tk', m', nx, rfl, F, fun p hp => N p ((List.mem_append.mp hp).elim (hs p) (ho p)), ha, hj⟩
theorem tend_cont {h₀ : Heap} {L : Addr} {own : List (Addr × Obj)} {adr : List Addr} {J : (Str → Option Value) → List (Addr × Obj) → Prop} {s : Shared} {Q : Flow → Shared → Prop} {h' : Heap} {tk' : Nat} {m' : Str → Option Value} {nx news' : List (Addr × Obj)}
    (F : Fr h₀ L h' m') (N : News h₀ L h' news') (hs : ∀ p ∈ nx, p ∈ news') (ho : ∀ p ∈ own, p ∈ news') (ha : nx.map (·.1) = adr) (hj : J m' nx) : TEnd h₀ L own adr J s Q .cont { s with heap := h', toks := tk' } :=
  ⟨h', tk', m', nx, rfl, F, fun p hp => N p ((List.mem_append.mp hp).elim (hs p) (ho p)), ha, hj⟩

section
variable {prog : Program} {w : World} {A : Around} {E : Value → Shared → Prop} {s : Shared} {env : Env} {h₀ : Heap} {target : PySem.Expr} {body : List Stmt} {Q : Flow → Shared → Prop}

theorem turns_of {I : Addr} {fp wr : List Addr} {n : Nat} {P Md : Nat → Value → Heap → Prop} {St : Nat → Heap → Prop} {m : Str → Option Value} {news : List (Addr × Obj)}
    (W : KTurns prog w A target I fp wr n P Md St) (hLf : env.locals ∉ fp) (hwr : ∀ b ∈ wr, h₀.get? b = none) (hfn : ∀ p ∈ news, p.1 ∉ fp) (hst : St 0 s.heap) (F : Fr h₀ env.locals s.heap m) (N : News h₀ env.locals s.heap news)
    (J : Nat → (Str → Option Value) → List (Addr × Obj) → Prop) (h0 : J 0 m news)
    (turn : ∀ i v m₁ nx h tk own, i < n → P i v h → nx.map (·.1) = news.map (·.1) → J i m₁ nx → OwnOff own (news.map (·.1)) → Fr h₀ env.locals h m₁ → News h₀ env.locals h (nx ++ own) →
      wpAny (model prog w) A (assign target env v) (fun _ s₃ => wpAny (model prog w) A (execs body env) (TEnd h₀ env.locals own (news.map (·.1)) (J (i + 1)) s Q) E s₃) E { s with heap := h, toks := tk })
    (done : ∀ m₁ nx h tk, nx.map (·.1) = news.map (·.1) → J n m₁ nx → Fr h₀ env.locals h m₁ → News h₀ env.locals h nx → Q .next { s with heap := h, toks := tk }) :
    TurnsAt prog w A h₀ env target body Q E (.ref I) s := by
  refine ⟨I, fp, wr, n, P, Md, St, m, news, fun i m nx => nx.map (·.1) = news.map (·.1) ∧ J i m nx, rfl, W, hLf, hwr, fun p hp hq => hfn p hp (W.sub _ hq), hst, F, N, ⟨rfl, h0⟩, ?_, ?_⟩
  · rintro i v m₁ nx h tk own hi hP ⟨ha, hJ⟩ _ hown _ _ _ F₁ N₁
    have hoff : OwnOff own (news.map (·.1)) := by
      intro p hp b hb e
      obtain ⟨q, hq, rfl⟩ := List.mem_map.mp hb
      exact hfn q hq (e ▸ hown p hp)
    have N₂ : News h₀ env.locals h (nx ++ own) := fun p hp => N₁ p ((List.mem_append.mp hp).elim (fun h => List.mem_append.mpr (.inr h)) fun h => List.mem_append.mpr (.inl h))
    refine wpAny_mono (turn i v m₁ nx h tk own hi hP ha hJ hoff F₁ N₂) (fun _ s₃ h₃ => wpAny_mono h₃ (fun f s₄ h₄ => ?_) fun _ _ e => e) fun _ _ e => e
    have fin : (∃ h' tk' m' nx, s₄ = { s with heap := h', toks := tk' } ∧ Fr h₀ env.locals h' m' ∧ News h₀ env.locals h' (nx ++ own) ∧ nx.map (·.1) = news.map (·.1) ∧ J (i + 1) m' nx) →
        LoopStepU h₀ env.locals wr own (fun m nx => nx.map (·.1) = news.map (·.1) ∧ J (i + 1) m nx) { s with heap := h, toks := tk } .next s₄ := by
      rintro ⟨h', tk', m', nx', e, F', N', ha', hJ'⟩
      refine ⟨rfl, h', tk', m', nx', e, F', fun p hp => N' p ((List.mem_append.mp hp).elim (fun h => List.mem_append.mpr (.inr h)) fun h => List.mem_append.mpr (.inl h)), fun p hp hq => ?_, ha', hJ'⟩
      have h1 : p.1 ∈ nx'.map (·.1) := List.mem_map.mpr ⟨p, hp, rfl⟩
      rw [ha'] at h1
      obtain ⟨q, hq1, hq2⟩ := List.mem_map.mp h1
      exact hfn q hq1 (by rw [hq2]; exact W.sub _ hq)
    cases f with
    | ret v => exact .ret h₄
    | brk => exact .brk h₄
    | next => exact .next (fin h₄)
    | cont => exact .cont (fin h₄)
  · rintro h' tk m' nx F' N' _ ⟨ha, hJ⟩
    exact done m' nx h' tk ha hJ F' N'

/-- a for, its source first -/
theorem for_go {iter : PySem.Expr} {pos : Pos} {m : Str → Option Value} (F : Fr h₀ env.locals s.heap m)
    (h : wpAny (model prog w) A (eval iter env) (fun xv s₁ => Stop (wpAny (model prog w) A (pyIter xv) (fun it s₂ => TurnsAt prog w A h₀ env target body Q E it s₂) E s₁)) E s)
    (hs : ∀ x, foldedSetIterable iter env x = pure x) (hE : PassesOwn (model prog w) A env E) :
    wpAny (model prog w) A (exec (.For target iter body [] pos) env) Q E s := For_turns F h hs hE

theorem for_range {r : Addr} {a b c : Int} {t₀ u₀ v₀ : Tok} {n : Nat} {m : Str → Option Value} {news : List (Addr × Obj)} {x : Str} {px : Pos}
    (hh : A.handled = none) (hr : IsRange s.heap r a b c t₀ u₀ v₀) (hsmall : Builtin.Range.small a b c = true) (hn : Builtin.Range.rangeSize a b c = (n : Int)) (F : Fr h₀ env.locals s.heap m) (N : News h₀ env.locals s.heap news)
    (J : Nat → (Str → Option Value) → List (Addr × Obj) → Prop) (h0 : J 0 m news)
    (turn : ∀ (i : Nat) t m₁ nx h tk own, i < n → nx.map (·.1) = news.map (·.1) → J i m₁ nx → OwnOff own (news.map (·.1)) → Fr h₀ env.locals h m₁ → News h₀ env.locals h (nx ++ own) →
      wpAny (model prog w) A (assign (.Name x px) env (.int (a + i * c) t)) (fun _ s₃ => wpAny (model prog w) A (execs body env) (TEnd h₀ env.locals own (news.map (·.1)) (J (i + 1)) s Q) E s₃) E { s with heap := h, toks := tk })
    (done : ∀ m₁ nx h tk, nx.map (·.1) = news.map (·.1) → J n m₁ nx → Fr h₀ env.locals h m₁ → News h₀ env.locals h nx → Q .next { s with heap := h, toks := tk }) :
    wpAny (model prog w) A (pyIter (.ref r)) (fun it s₂ => TurnsAt prog w A h₀ env (.Name x px) body Q E it s₂) E s := by
  refine wpAny_pyIter_range hr hsmall ?_
  rw [hn]
  have W : KTurns prog w A (.Name x px) s.heap.objs.size [s.heap.objs.size] [s.heap.objs.size] n (fun i v _ => ∃ t, v = .int (a + (i : Int) * c) t) _ _ :=
    KTurns.ofWalks (Walks.range hh s.heap.objs.size a c n) fun _ _ _ _ _ _ q => wpAny_pure q
  refine turns_of (s := { s with heap := s.heap.push _ }) W ?_ ?_ ?_ (by simpa using Heap.get?_push_size _ rfl) (F.push _) (fun p hp => ⟨Heap.get?_push_of_some _ (N p hp).1, (N p hp).2⟩) J h0 ?_ done
  · intro hm
    exact absurd F.ns.lt ((List.mem_singleton.mp hm) ▸ Nat.lt_irrefl _)
  · intro b' hb
    rw [List.mem_singleton.mp hb]
    exact next_is_new F
  · intro p hp hI
    exact absurd (Heap.lt_size (N p hp).1) ((List.mem_singleton.mp hI) ▸ Nat.lt_irrefl _)
  · rintro i v m₁ nx h tk own hi ⟨t, rfl⟩ ha hJ hoff F₁ N₁
    exact turn i t m₁ nx h tk own hi ha hJ hoff F₁ N₁

theorem for_bytes {b : Array UInt8} {tb : Tok} {m : Str → Option Value} {news : List (Addr × Obj)} {x : Str} {px : Pos}
    (hh : A.handled = none) (F : Fr h₀ env.locals s.heap m) (N : News h₀ env.locals s.heap news)
    (J : Nat → (Str → Option Value) → List (Addr × Obj) → Prop) (h0 : J 0 m news)
    (turn : ∀ (i : Nat) (k : Int) t m₁ nx h tk own, (KBw.bInts b)[i]? = some k → 0 ≤ k → k < 256 → nx.map (·.1) = news.map (·.1) → J i m₁ nx → OwnOff own (news.map (·.1)) → Fr h₀ env.locals h m₁ → News h₀ env.locals h (nx ++ own) →
      wpAny (model prog w) A (assign (.Name x px) env (.int k t)) (fun _ s₃ => wpAny (model prog w) A (execs body env) (TEnd h₀ env.locals own (news.map (·.1)) (J (i + 1)) s Q) E s₃) E { s with heap := h, toks := tk })
    (done : ∀ m₁ nx h tk, nx.map (·.1) = news.map (·.1) → J b.size m₁ nx → Fr h₀ env.locals h m₁ → News h₀ env.locals h nx → Q .next { s with heap := h, toks := tk }) :
    wpAny (model prog w) A (pyIter (.bytes b tb)) (fun it s₂ => TurnsAt prog w A h₀ env (.Name x px) body Q E it s₂) E s := by
  refine KBw.pyIter_bytes ?_
  refine turns_of (s := { s with heap := s.heap.push _ }) (KTurns.ofWalks (KBw.walks (prog := prog) (w := w) hh s.heap.objs.size b tb) fun _ _ _ _ _ _ q => wpAny_pure q) ?_ ?_ ?_ ⟨_, Heap.get?_push_size _ rfl, rfl, rfl⟩ (F.push _) (fun p hp => ⟨Heap.get?_push_of_some _ (N p hp).1, (N p hp).2⟩) J h0 ?_ done
  · intro hm
    exact absurd F.ns.lt ((List.mem_singleton.mp hm) ▸ Nat.lt_irrefl _)
  · intro b' hb
    rw [List.mem_singleton.mp hb]
    exact next_is_new F
  · intro p hp hI
    exact absurd (Heap.lt_size (N p hp).1) ((List.mem_singleton.mp hI) ▸ Nat.lt_irrefl _)
  · rintro i v m₁ nx h tk own hi ⟨c, u, hc, rfl⟩ ha hJ hoff F₁ N₁
    have e := KBw.ints_get hc
    have hb := KBw.ints_in (b := b) (List.mem_of_getElem? e)
    exact turn i _ u m₁ nx h tk own e hb.1 hb.2 ha hJ hoff F₁ N₁

/-- over a list that the loop does not turn; its items any values -/
theorem for_list {l : Addr} {vs : List Value} {m : Str → Option Value} {news : List (Addr × Obj)} {x : Str} {px : Pos}
    (hh : A.handled = none) (hl : s.heap.IsList l vs.toArray) (hlL : l ≠ env.locals) (hln : ∀ p ∈ news, p.1 ≠ l) (F : Fr h₀ env.locals s.heap m) (N : News h₀ env.locals s.heap news)
    (J : Nat → (Str → Option Value) → List (Addr × Obj) → Prop) (h0 : J 0 m news)
    (turn : ∀ (i : Nat) v m₁ nx h tk own, vs[i]? = some v → nx.map (·.1) = news.map (·.1) → J i m₁ nx → OwnOff own (news.map (·.1)) → Fr h₀ env.locals h m₁ → News h₀ env.locals h (nx ++ own) →
      wpAny (model prog w) A (assign (.Name x px) env v) (fun _ s₃ => wpAny (model prog w) A (execs body env) (TEnd h₀ env.locals own (news.map (·.1)) (J (i + 1)) s Q) E s₃) E { s with heap := h, toks := tk })
    (done : ∀ m₁ nx h tk, nx.map (·.1) = news.map (·.1) → J vs.length m₁ nx → Fr h₀ env.locals h m₁ → News h₀ env.locals h nx → Q .next { s with heap := h, toks := tk }) :
    wpAny (model prog w) A (pyIter (.ref l)) (fun it s₂ => TurnsAt prog w A h₀ env (.Name x px) body Q E it s₂) E s := by
  have hlt : l < s.heap.objs.size := by obtain ⟨ol, hol, _⟩ := id hl; exact Heap.lt_size hol
  have hne : l ≠ s.heap.objs.size := Nat.ne_of_lt hlt
  refine wpAny_pyIter_list hl ?_
  refine turns_of (s := { s with heap := s.heap.push _ }) (KTurns.ofWalks (Walks.list hh s.heap.objs.size l hne vs.toArray) fun _ _ _ _ _ _ q => wpAny_pure q) ?_ ?_ ?_ ⟨⟨_, Heap.get?_push_size _ rfl, rfl, rfl⟩, hl.at fun o e => Heap.get?_push_of_some _ e⟩ (F.push _) (fun p hp => ⟨Heap.get?_push_of_some _ (N p hp).1, (N p hp).2⟩) J h0 ?_ ?_
  · intro hm
    rcases List.mem_cons.mp hm with e | hm
    · exact absurd F.ns.lt (e ▸ Nat.lt_irrefl _)
    · exact hlL (List.mem_singleton.mp hm).symm
  · intro b' hb
    rw [List.mem_singleton.mp hb]
    exact next_is_new F
  · intro p hp hI
    rcases List.mem_cons.mp hI with e | hI
    · exact absurd (Heap.lt_size (N p hp).1) (e ▸ Nat.lt_irrefl _)
    · exact hln p hp (List.mem_singleton.mp hI)
  · rintro i v m₁ nx h tk own hi hv ha hJ hoff F₁ N₁
    exact turn i v m₁ nx h tk own (by simpa using hv) ha hJ hoff F₁ N₁
  · intro m₁ nx h tk ha hJ F₁ N₁
    exact done m₁ nx h tk ha (by simpa using hJ) F₁ N₁

theorem for_tuple {l : Addr} {vs : List Value} {m : Str → Option Value} {news : List (Addr × Obj)} {x : Str} {px : Pos}
    (hh : A.handled = none) (hl : s.heap.IsTuple l vs.toArray) (hlL : l ≠ env.locals) (hln : ∀ p ∈ news, p.1 ≠ l) (F : Fr h₀ env.locals s.heap m) (N : News h₀ env.locals s.heap news)
    (J : Nat → (Str → Option Value) → List (Addr × Obj) → Prop) (h0 : J 0 m news)
    (turn : ∀ (i : Nat) v m₁ nx h tk own, vs[i]? = some v → nx.map (·.1) = news.map (·.1) → J i m₁ nx → OwnOff own (news.map (·.1)) → Fr h₀ env.locals h m₁ → News h₀ env.locals h (nx ++ own) →
      wpAny (model prog w) A (assign (.Name x px) env v) (fun _ s₃ => wpAny (model prog w) A (execs body env) (TEnd h₀ env.locals own (news.map (·.1)) (J (i + 1)) s Q) E s₃) E { s with heap := h, toks := tk })
    (done : ∀ m₁ nx h tk, nx.map (·.1) = news.map (·.1) → J vs.length m₁ nx → Fr h₀ env.locals h m₁ → News h₀ env.locals h nx → Q .next { s with heap := h, toks := tk }) :
    wpAny (model prog w) A (pyIter (.ref l)) (fun it s₂ => TurnsAt prog w A h₀ env (.Name x px) body Q E it s₂) E s := by
  have hlt : l < s.heap.objs.size := by obtain ⟨ol, hol, _⟩ := id hl; exact Heap.lt_size hol
  have hne : l ≠ s.heap.objs.size := Nat.ne_of_lt hlt
  refine wpAny_pyIter_tuple hl ?_
  refine turns_of (s := { s with heap := s.heap.push _ }) (KTurns.ofWalks (Walks.tuple hh s.heap.objs.size l hne vs.toArray) fun _ _ _ _ _ _ q => wpAny_pure q) ?_ ?_ ?_ ⟨⟨_, Heap.get?_push_size _ rfl, rfl, rfl⟩, hl.at fun o e => Heap.get?_push_of_some _ e⟩ (F.push _) (fun p hp => ⟨Heap.get?_push_of_some _ (N p hp).1, (N p hp).2⟩) J h0 ?_ ?_
  · intro hm
    rcases List.mem_cons.mp hm with e | hm
    · exact absurd F.ns.lt (e ▸ Nat.lt_irrefl _)
    · exact hlL (List.mem_singleton.mp hm).symm
  · intro b' hb
    rw [List.mem_singleton.mp hb]
    exact next_is_new F
  · intro p hp hI
    rcases List.mem_cons.mp hI with e | hI
    · exact absurd (Heap.lt_size (N p hp).1) (e ▸ Nat.lt_irrefl _)
    · exact hln p hp (List.mem_singleton.mp hI)
  · rintro i v m₁ nx h tk own hi hv ha hJ hoff F₁ N₁
    exact turn i v m₁ nx h tk own (by simpa using hv) ha hJ hoff F₁ N₁
  · intro m₁ nx h tk ha hJ F₁ N₁
    exact done m₁ nx h tk ha (by simpa using hJ) F₁ N₁
end

theorem wstep {h₀ : Heap} {L : Addr} {s : Shared} {J : Nat → (Str → Option Value) → List (Addr × Obj) → Prop} {Q : Flow → Shared → Prop} {n n' : Nat} {h' : Heap} {tk : Nat} {m₂ : Str → Option Value} {nx news' : List (Addr × Obj)}
    (F : Fr h₀ L h' m₂) (N : News h₀ L h' news') (hs : ∀ p ∈ nx, p ∈ news') (hlt : n' < n) (hj : J n' m₂ nx) : WhileStep2 h₀ L s J Q n .next { s with heap := h', toks := tk } :=
  ⟨h', tk, m₂, nx, n', rfl, F, fun p hp => N p (hs p hp), hlt, hj⟩
/-- a loop's measure -/
theorem meas {n : Nat} {a b : Int} (h0 : 0 ≤ a) (h1 : a < (n : Int)) (h2 : a < b) : n - b.toNat < n - a.toNat := by omega
set_option inductive.autoPromoteIndices false in
/-- behind a test: the frame and the ledger stand, and P is known of the answer -/
inductive Mid (g : Heap) (L : Addr) (m : Str → Option Value) (news : List (Addr × Obj)) (s : Shared) (P : Bool → Prop) : Bool → Shared → Prop
  | mk (b : Bool) (h' : Heap) (tk' : Nat) : Fr g L h' m → News g L h' news → P b → Mid g L m news s P b { s with heap := h', toks := tk' }
theorem if_mid {prog : Program} {w : World} {A : Around} {E : Value → Shared → Prop} {s : Shared} {env : Env} {g : Heap} {L : Addr} {m : Str → Option Value} {Q : Flow → Shared → Prop} {test body orelse pos} {news : List (Addr × Obj)} (P : Bool → Prop)
    (F : Fr g L s.heap m) (N : News g L s.heap news) (test' : wpAny (model prog w) A (isTrue test env (eval test env)) (Mid g L m news s P) E s)
    (yes : ∀ h' tk', Fr g L h' m → News g L h' news → P true → wpAny (model prog w) A (execs body env) Q E { s with heap := h', toks := tk' })
    (no : ∀ h' tk', Fr g L h' m → News g L h' news → P false → wpAny (model prog w) A (execs orelse env) Q E { s with heap := h', toks := tk' }) :
    wpAny (model prog w) A (exec (.If test body orelse pos) env) Q E s := by
  refine wpAny_If (wpAny_mono test' (fun b s' h => ?_) fun _ _ x => x)
  obtain ⟨_, h', tk', a1, a2, a3⟩ := h
  cases b with
  | true => exact yes h' tk' a1 a2 a3
  | false => exact no h' tk' a1 a2 a3
theorem test_mid {M : Model} {A : Around} {E : Value → Shared → Prop} {s : Shared} {g : Heap} {L : Addr} {m : Str → Option Value} {t : Sem Bool} {X Y : Shared → Prop} {news : List (Addr × Obj)} (P : Bool → Prop)
    (F : Fr g L s.heap m) (N : News g L s.heap news) (test' : wpAny M A t (Mid g L m news s P) E s)
    (yes : ∀ h' tk', Fr g L h' m → News g L h' news → P true → X { s with heap := h', toks := tk' })
    (no : ∀ h' tk', Fr g L h' m → News g L h' news → P false → Y { s with heap := h', toks := tk' }) :
    wpAny M A t (fun b s₂ => if b = true then X s₂ else Y s₂) E s := by
  refine wpAny_mono test' (fun b s' h => ?_) fun _ _ x => x
  obtain ⟨_, h', tk', a1, a2, a3⟩ := h
  cases b with
  | true => exact yes h' tk' a1 a2 a3
  | false => exact no h' tk' a1 a2 a3
section
variable {prog : Program} {w : World} {A : Around} {E : Value → Shared → Prop} {s : Shared}
abbrev ByteAt (b : Array UInt8) (i : Nat) (v : Value) : Prop := ∃ c u, b[i]? = some c ∧ v = .int (c.toNat : Int) u
theorem extend_bytes {R : Result → Shared → Prop} (hh : A.handled = none) (b : Array UInt8) (t : Tok) (S : Addr) (res : Value) (c₀ : Nat) (hS : s.heap.get? S = some { cls := .type "list", data := .seq #[] c₀ }) (hn : b.size ≤ sizeLine)
    (hR : ∀ h' tk acc' c', (∀ a o, a ≠ S → s.heap.get? a = some o → h'.get? a = some o) → h'.get? S = some { cls := .type "list", dict := none, data := .seq acc' c', slots := #[] } →
      ItemsOf (ByteAt b) acc' b.size → R (.ok (.ret res)) { s with heap := h', toks := tk }) :
    wpAny (model prog w) A.in1 (Builtin.List.listExtendWith (.ref S) (.bytes b t) res)
      (fun fin s' => match fin with | .done f => R (.ok f) s' | .again c' => c'.quiet = true ∧ codeAny (model prog w) A c' R s') (fun e s' => R (.error e) s') s := by
  have hSI : S ≠ s.heap.objs.size := Nat.ne_of_lt (Heap.lt_size hS)
  have hSf : S ∉ [s.heap.objs.size] := fun hm => hSI (List.mem_singleton.mp hm)
  unfold Builtin.List.listExtendWith
  refine wpAny_bind (wpAny_typeOf (T := "bytes") (v := .bytes b t) rfl ?_)
  have h1 : Builtin.List.listSameRef (.ref S) (.bytes b t) = false := rfl
  have h2 : (Value.type "bytes" == Value.type "list") = false := by decide
  have h3 : (Value.type "bytes" == Value.type "tuple") = false := by decide
  simp only [h1, h2, h3, Bool.or_false, Bool.false_eq_true, if_false]
  refine wpAny_bind (KBw.pyIter_bytes ?_)
  refine wpAny_bind (wpAny_holding ?_)
  unfold Builtin.List.listLengthHint
  refine wpAny_bind (wpAny_specialOf (T := "bytes") (v := .bytes b t) rfl FB.slot_bytes_len.lookup ?_)
  wp_delta
  refine wpAny_bind (wpAny_isInstance (T := "bytes") (v := .bytes b t) (b := true) rfl (by rw [isSubtype_type]; kernel_rfl) ?_)
  show wpAny _ _ (typeOf (Value.bytes b t) >>= _) _ _ _
  refine wpAny_bind (wpAny_typeOf (T := "bytes") (v := .bytes b t) rfl ?_)
  refine wpAny_pure ?_
  rw [if_neg (by decide)]
  refine wpAny_pure ⟨plainId_quiet F.plain_extend_loop _, codeAny_extend_loopS (Walks.toS (KBw.walks (A := A.in1) hh s.heap.objs.size b t)) hn _ hSf _ b.size 0 _ _ _ rfl (Nat.zero_le _) ⟨_, Heap.get?_push_size _ rfl, rfl, rfl⟩ (Heap.get?_push_of_some _ hS) (ItemsOf.nil _) fun s' acc' c' hm hS' hacc => ?_⟩
  rw [Moved.eq_with hm]
  refine hR s'.heap s'.toks acc' c' (fun a ob hb e => hm.heap a ob (fun hmem => ?_) (Heap.get?_push_of_some _ e)) hS' hacc
  rcases List.mem_cons.mp hmem with e' | hmem
  · exact hb e'
  · exact absurd (Heap.lt_size e) (by rw [List.mem_singleton.mp hmem]; exact Nat.lt_irrefl _)
theorem init_bytes {R : Result → Shared → Prop} (hh : A.handled = none) (b : Array UInt8) (t : Tok) (S : Addr) (hS : s.heap.get? S = some { cls := .type "list", data := .seq #[] }) (hn : b.size ≤ sizeLine)
    (hR : ∀ h' tk acc' c', (∀ a o, a ≠ S → s.heap.get? a = some o → h'.get? a = some o) → h'.get? S = some { cls := .type "list", dict := none, data := .seq acc' c', slots := #[] } →
      ItemsOf (ByteAt b) acc' b.size → R (.ok (.ret .none)) { s with heap := h', toks := tk }) :
    wpAny (model prog w) A.in1 (Builtin.«list.__init__» ⟨[.ref S, .bytes b t], []⟩)
      (fun fin s' => match fin with | .done f => R (.ok f) s' | .again c' => c'.quiet = true ∧ codeAny (model prog w) A c' R s') (fun e s' => R (.error e) s') s := by
  show wpAny _ _ (do let old ← Builtin.List.listItems (.ref S); Builtin.List.listUpdate (.ref S) (fun _ => #[]); letGo old.toList.reverse; Builtin.List.listExtendWith (.ref S) (.bytes b t) .none) _ _ s
  refine wpAny_bind ?_
  unfold Builtin.List.listItems
  refine wpAny_bind (wpAny_seqItems hS rfl (wpAny_pure ?_))
  show wpAny _ _ (updateSeq S (fun _ => #[]) >>= fun _ => letGo (#[] : Array Value).toList.reverse >>= fun _ => Builtin.List.listExtendWith (.ref S) (.bytes b t) .none) _ _ s
  refine wpAny_bind (wpAny_updateSeq hS rfl ?_)
  have hS₂ := Heap.get?_update_self (Obj.mapSeq (fun _ => (#[] : Array Value))) hS rfl
  have oth : ∀ a o, a ≠ S → s.heap.get? a = some o → (s.heap.update S (Obj.mapSeq (fun _ => (#[] : Array Value)))).get? a = some o :=
    fun a o hb e => (Heap.get?_update_other _ _ (Ne.symm hb)).trans e
  refine wpAny_bind (wpAny_letGo ?_)
  refine extend_bytes hh b t S .none _ hS₂ hn fun h' tk acc' c' hk hS' hacc => ?_
  exact hR h' tk acc' c' (fun a o hb e => hk a o hb (oth a o hb e)) hS' hacc
theorem call_list_bytes {Q : Value → Shared → Prop} (hh : A.handled = none) (b : Array UInt8) (t : Tok) (hn : b.size ≤ sizeLine)
    (hQ : ∀ h' tk acc' c', (∀ a o, s.heap.get? a = some o → h'.get? a = some o) →
      h'.get? s.heap.objs.size = some { cls := .type "list", dict := none, data := .seq acc' c', slots := #[] } → ItemsOf (ByteAt b) acc' b.size → Q (.ref s.heap.objs.size) { s with heap := h', toks := tk }) :
    wpAny (model prog w) A (call (.type "list") [.bytes b t]) Q E s := by
  refine callType_codes (Q₁ := fun obj s₁ => obj = .ref s.heap.objs.size ∧ s₁ = { s with heap := s.heap.push { cls := .type "list", data := .seq #[] } }) F.called_list (F.typeCall_list_1 _) F.entry_list_init
    (code_list_new _ ⟨rfl, rfl⟩) fun obj s₁ h₁ => ?_
  obtain ⟨rfl, rfl⟩ := h₁
  have hS : (s.heap.push { cls := .type "list", data := .seq #[] }).get? s.heap.objs.size = some { cls := .type "list", data := .seq #[] } := Heap.get?_push_size _ rfl
  refine ⟨⟨_, hS, rfl⟩, F.args_list_init_2 _ _, init_bytes (A := A.in1) hh b t _ hS hn fun h' tk acc' c' hk hS' hacc => ?_⟩
  exact ⟨rfl, hQ h' tk acc' c' (fun a o e => hk a o (Nat.ne_of_lt (Heap.lt_size e)) (Heap.get?_push_of_some _ e)) hS' hacc⟩
end
theorem ints_of_at : ∀ (l : List UInt8) (vs : List Value), vs.length = l.length → (∀ (j : Nat) (v : Value), vs[j]? = some v → ∃ (c : UInt8) (u : Tok), l[j]? = some c ∧ v = Value.int (c.toNat : Int) u) → IntsAre vs (l.map fun c => (c.toNat : Int))
  | [], [], _, _ => .nil
  | [], _ :: _, h, _ => absurd h (Nat.succ_ne_zero _)
  | _ :: _, [], h, _ => absurd h.symm (Nat.succ_ne_zero _)
  | c :: l, v :: vs, h, hp => by
    obtain ⟨c', u, e, rfl⟩ := hp 0 v rfl
    cases e
    exact .cons _ _ (ints_of_at l vs (Nat.succ.inj h) fun j v hj => hp (j + 1) v hj)
theorem ints_of_items {b : Array UInt8} {acc : Array Value} (h : ItemsOf (ByteAt b) acc b.size) : IntsAre acc.toList (KBw.bInts b) :=
  ints_of_at b.toList acc.toList (by simpa using h.1) fun j v hj => by
    obtain ⟨c, u, e, rfl⟩ := h.2 j v (by simpa using hj)
    exact ⟨c, u, by simpa using e, rfl⟩
section
variable {prog : Program} {w : World} {A : Around} {E : Value → Shared → Prop} {Q : Value → Shared → Prop} {h : Heap} {gs : Array GenState} {d : Drawn} {k : Nat} {o : OsState} {b : Array UInt8} {t u : Tok} {g : Heap} {L D : Addr} {m : Str → Option Value} {news : List (Addr × Obj)}
theorem fr_all {h' : Heap} (F : Fr g L h m) (k : ∀ a o, h.get? a = some o → h'.get? a = some o) : Fr g L h' m := fr_k F fun a o _ e => k a o e
theorem news_all {h' : Heap} (N : News g L h news) (k : ∀ a o, h.get? a = some o → h'.get? a = some o) : News g L h' news := news_k N fun a o _ e => k a o e
theorem new_none {a : Addr} (F : Fr g L h m) (ha : h.objs.size ≤ a) : g.get? a = none := by
  cases e : g.get? a with
  | none => rfl
  | some o => exact absurd (Heap.lt_size (F.keep _ _ e)) (Nat.not_lt.mpr ha)
theorem cl_bytes (F : Fr g L h m) (N : News g L h news) (hh : A.handled = none) (hz : b.size ≤ 1048576)
    (hq : ∀ l vs c h' k', (∀ p ∈ news, p.1 < l) → Fr g L h' m → News g L h' ((l, listOf vs.toArray c) :: news) → IntsAre vs (KBw.bInts b) → vs.length = b.size → Q (.ref l) ⟨h', gs, d, k', o⟩) :
    wpAny (model prog w) A (call (.type "list") [.bytes b t]) Q E ⟨h, gs, d, k, o⟩ := by
  refine call_list_bytes hh b t (by rw [sizeLine_eq]; omega) fun h' tk acc' c' hk hS hacc => ?_
  have N' := news_all N hk
  refine hq h.objs.size acc'.toList c' h' tk (fun p hp => Heap.lt_size (N p hp).1) (fr_all F hk) (fun p hp => ?_) (ints_of_items hacc) (by simpa using hacc.1)
  rcases List.mem_cons.mp hp with rfl | hp
  · exact ⟨by simpa using hS, Nat.ne_of_gt F.ns.lt, new_none F (Nat.le_refl _)⟩
  · exact N' p hp
theorem cl_extend {l : Addr} {vs us : List Value} {n n2 : Nat} {f : Obj → List (Addr × Obj)} (F : Fr g L h m) (N : News g L h news) (U : UpdF D (listOf vs.toArray n) news f) (hb : (l, listOf us.toArray n2) ∈ news) (hz : vs.length + us.length ≤ 1048576)
    (hq : ∀ h' n' k', Fr g L h' m → News g L h' (f (listOf (vs ++ us).toArray n')) → Q .none ⟨h', gs, d, k', o⟩) :
    wpAny (model prog w) A (call (.builtin "list.extend") [.ref D, .ref l]) Q E ⟨h, gs, d, k, o⟩ := by
  obtain ⟨pre, post, rfl, hf, h1, h2⟩ := U.split
  have upd : ∀ o', Upd D (listOf vs.toArray n) o' (pre ++ (D, listOf vs.toArray n) :: post) (f o') := by
    intro o'
    rw [hf]
    clear hf U hb N
    induction pre with
    | nil => exact .head h2
    | cons p r ih => exact .tail (h1 p (.head _)) (ih fun q hq => h1 q (.tail _ hq))
  have hlong : ¬ (!vs.toArray.isEmpty && Builtin.List.listTooLong (vs.toArray.size + us.toArray.size)) = true := by
    have : Builtin.List.listTooLong (vs.toArray.size + us.toArray.size) = false := by
      unfold Builtin.List.listTooLong
      rw [decide_eq_false_iff_not, List.size_toArray, List.size_toArray, sizeLine_eq]
      omega
    rw [this]
    simp
  by_cases hu : us = []
  · subst hu
    refine kxn_extend (s := ⟨h, gs, d, k, o⟩) F N hb rfl (upd _) hlong (by rw [sizeLine_eq]; simp; omega) (by rw [sizeLine_eq]; simp; omega) fun h' F' N' => ?_
    exact hq h' n k F' (by rw [List.append_nil]; exact N')
  · refine kl_extend (s := ⟨h, gs, d, k, o⟩) (l := vs ++ us) F N hb rfl (by simpa using hu) (upd _) hlong (by rw [sizeLine_eq]; simp; omega) (by rw [sizeLine_eq]; simp; omega) fun h' F' N' => ?_
    exact hq h' (n + 1) k F' N'
theorem cl_len {l : Addr} {vs : List Value} (hl : h.IsList l vs.toArray) (hz : vs.length ≤ 1048576) (hq : ∀ t k', Q (.int vs.length t) ⟨h, gs, d, k', o⟩) : wpAny (model prog w) A (call (.builtin "len") [.ref l]) Q E ⟨h, gs, d, k, o⟩ :=
  len_list (s := ⟨h, gs, d, k, o⟩) hl (by rw [List.size_toArray]; omega) (by rw [List.size_toArray]; exact hq _ _)
theorem cl_add {l b : Addr} {vs us : List Value} {ns ms : List Int} (F : Fr g L h m) (N : News g L h news) (hl : h.IsList l vs.toArray) (hb : h.IsList b us.toArray) (hi : IntsAre vs ns) (hj : IntsAre us ms) (hz : vs.length + us.length ≤ 1048576)
    (hq : ∀ D ws c h' k', (∀ p ∈ news, p.1 < D) → Fr g L h' m → News g L h' ((D, listOf ws.toArray c) :: news) → IntsAre ws (ns ++ ms) → ws.length = (ns ++ ms).length → Q (.ref D) ⟨h', gs, d, k', o⟩) : wpAny (model prog w) A (binaryOp .Add (.ref l) (.ref b)) Q E ⟨h, gs, d, k, o⟩ :=
  add_lists_ints (s := ⟨h, gs, d, k, o⟩) F N hl hb hi hj (fun h' F' N' hI => hq h.objs.size (vs ++ us) 0 h' k (fun p hp => Heap.lt_size (N p hp).1) F' N' hI hI.length) (by rw [sizeLine_eq, ← hi.length, ← hj.length]; omega)
theorem cl_append {vs : List Value} {n : Nat} {x : Value} {f : Obj → List (Addr × Obj)} (F : Fr g L h m) (N : News g L h news) (U : UpdF D (listOf vs.toArray n) news f) (hz : vs.length ≤ 1048576)
    (hq : ∀ h' k', Fr g L h' m → News g L h' (f (listOf (vs ++ [x]).toArray (n + 1))) → Q .none ⟨h', gs, d, k', o⟩) :
    wpAny (model prog w) A (call (.builtin "list.append") [.ref D, x]) Q E ⟨h, gs, d, k, o⟩ := by
  obtain ⟨pre, post, rfl, hf, h1, h2⟩ := U.split
  have upd : ∀ o', Upd D (listOf vs.toArray n) o' (pre ++ (D, listOf vs.toArray n) :: post) (f o') := by
    intro o'
    rw [hf]
    clear hf U N
    induction pre with
    | nil => exact .head h2
    | cons p r ih => exact .tail (h1 p (.head _)) (ih fun q hq => h1 q (.tail _ hq))
  refine append_K (s := ⟨h, gs, d, k, o⟩) F N (upd _) (fun h' F' N' => hq h' k F' ?_) (by rw [List.size_toArray, sizeLine_eq]; omega)
  rw [← List.push_toArray]
  exact N'
theorem cl_upto {value slice : PySem.Expr} {l : Addr} {vs : List Value} {ns : List Int} {y : Int} {ty : Tok} (F : Fr g L h m) (N : News g L h news) (hl : h.IsList l vs.toArray) (hi : IntsAre vs ns) (h0 : 0 ≤ y) (hz : vs.length ≤ 1048576)
    (hq : ∀ D ws c h' k', (∀ p ∈ news, p.1 < D) → Fr g L h' m → News g L h' ((D, listOf ws.toArray c) :: news) → IntsAre ws (ns.take y.toNat) → ws.length = (ns.take y.toNat).length → Q (.ref D) ⟨h', gs, d, k', o⟩)
    (hs : subscripted slice false (.ref l) (.ref h.objs.size) = operate [.ref h.objs.size, .ref l] (getItem (.ref l) (.ref h.objs.size)) := by with_unfolding_all rfl)
    (ht : ∀ r, letTemporaryGo value (.ref l) r = pure () := by intro _; with_unfolding_all rfl) :
    wpAny (model prog w) A (subscriptTail value slice (.ref l) (.ref h.objs.size)) Q E ⟨h.push { cls := .type "slice", data := .fields #[.none, .int y ty, .none] }, gs, d, k, o⟩ :=
  kmk_slice_ints (s := ⟨h, gs, d, k, o⟩) F N hl .none (.int y ty) hi (kmk_upto hi h0) rfl (fun D ws h' F' N' l1 hI _ _ => hq D ws 0 h' k l1 F' N' hI hI.length) hs ht (by rw [List.size_toArray, sizeLine_eq]; omega)
end
theorem keeps_self {s : Shared} {k : Nat} : Keeps s { s with toks := k } := ⟨s.heap, k, rfl, fun _ _ e => e⟩
theorem paired_ints {f : Int → Int} : ∀ {vs ys : List Value} {ns : List Int}, IntsAre vs ns → Paired (fun v y => ∀ a t, v = .int a t → ∃ u, y = .int (f a) u) vs ys → IntsAre ys (ns.map f)
  | [], _, _, h, p => by cases p; cases h; exact .nil
  | v :: vs, _, _, h, p => by
    cases p with
    | cons hv hr =>
      cases h with
      | cons a t hi =>
        obtain ⟨u, rfl⟩ := hv _ _ rfl
        exact .cons _ _ (paired_ints hi hr)
inductive SrcL (prog : Program) (w : World) (A : Around) (env : Env) (f : Int → Int) (elt : PySem.Expr) (scope : Scope) (cl : List (Str × Addr)) (g : Heap) (L : Addr) (x : Str) (Q : Value → Shared → Prop) (xv : Value) (s₁ : Shared) : Prop
  | mk (l : Addr) (us : List Value) (ns : List Int) (m : Str → Option Value) (news : List (Addr × Obj)) : xv = .ref l → s₁.heap.IsList l us.toArray → IntsAre us ns → us.length ≤ 1048576 → Fr g L s₁.heap m → News g L s₁.heap news → (∀ C a t s₂ m₂, a ∈ ns → Fr g C s₂.heap m₂ → m₂ x = some (.int a t) → wpAny (model prog w) A (eval elt (compEnvC scope cl C env)) (fun y s₃ => (∃ u, y = .int (f a) u) ∧ Keeps s₂ s₃) (fun _ _ => False) s₂) → (∀ D ws c h' k', (∀ p ∈ news, p.1 ≠ D) → Fr g L h' m → News g L h' ((D, listOf ws.toArray c) :: news) → IntsAre ws (ns.map f) → ws.length = (ns.map f).length → Q (.ref D) { s₁ with heap := h', toks := k' }) → SrcL prog w A env f elt scope cl g L x Q xv s₁
section
variable {prog : Program} {w : World} {A : Around} {E : Value → Shared → Prop} {env : Env}
theorem ld_comp {M : Model} {A : Around} {s : Shared} {x : Str} {pos : Pos} {v : Value} {scope : Scope} {cl : List (Str × Addr)} {C : Addr} {m : Str → Option Value} {g : Heap} {Q : Value → Shared → Prop} (F : Fr g C s.heap m) (hv : m x = some v) (h : Q v s)
    (hk : (relabel scope env).kind = .function := by rfl) (hl : (compEnvC scope cl C env).kindOf x = some .local := by rfl) (hd : (x == ("__debug__" : Str)) = false := by decide) :
    wpAny M A (eval (.Name x pos) (compEnvC scope cl C env)) Q E s := wpAny_Name (wpAny_loadName_local hk hl F.ns hv h) hd
theorem comp_list {s : Shared} {elt iter : PySem.Expr} {x : Str} {px : Pos} {scope : Scope} {cl : List (Str × Addr)} {pos : Pos} {Q : Value → Shared → Prop} {g : Heap} {L : Addr} {m₀ : Str → Option Value} (_ : Fr g L s.heap m₀) (f : Int → Int)
    (hh : A.handled = none) (hclos : closureFor scope env = pure cl) (hcell : ∀ y ∈ scope.names, y.2 ≠ .cell) (hkind : scope.kind = .function)
    (hnames : ∀ y ∈ scope.names, y.2 = .local → scope.names.lookup y.1 = some .local) (hx : scope.names.lookup x = some .local)
    (h : wpAny (model prog w) A (eval iter env) (fun xv s₁ => Stop (SrcL prog w A env f elt scope cl g L x Q xv s₁)) E s)
    (hs : ∀ x, foldedSetIterable iter env x = pure x := by intro _; rfl) :
    wpAny (model prog w) A (eval (.ListComp elt [⟨.Name x px, iter, [], 0⟩] scope pos) env) Q E s := by
  refine wpAny_ListComp_free (fun _ => true) (fun v y => ∀ a t, v = .int a t → ∃ u, y = .int (f a) u) hclos hcell hkind hnames hx (wpAny_mono h (fun xv s₁ h₁ => ?_) fun _ _ e => e) hs
  obtain ⟨l, us, ns, m, news, rfl, hl, hi, hz, F, N, helt, hQ⟩ := h₁
  have hlt : l < s₁.heap.objs.size := by obtain ⟨ol, hol, _⟩ := id hl; exact Heap.lt_size hol
  have hne : l ≠ s₁.heap.objs.size := Nat.ne_of_lt hlt
  refine wpAny_pyIter_list hl ?_
  have keep : ∀ (h3 : Heap), (∀ b o, b ∉ [s₁.heap.objs.size] → (s₁.heap.push { cls := .type "list_iterator", data := .fields #[.ref l, .int 0 0] }).get? b = some o → h3.get? b = some o) → ∀ b o, s₁.heap.get? b = some o → h3.get? b = some o :=
    fun h3 hk b o e => hk b o (fun hm => by rcases List.mem_cons.mp hm with rfl | hm; exact Nat.lt_irrefl _ (Heap.lt_size e); cases hm) (Heap.get?_push_of_some _ e)
  refine ⟨s₁.heap.objs.size, _, _, _, _, _, rfl, Walks.list hh s₁.heap.objs.size l hne us.toArray, by rw [List.size_toArray, sizeLine_eq]; omega, ⟨⟨_, Heap.get?_push_size _ rfl, rfl, rfl⟩, hl.at fun o e => Heap.get?_push_of_some _ e⟩, ?_, ⟨?_, ?_⟩, ?_⟩
  · intro b hb
    show b < (s₁.heap.push _).objs.size
    rw [Heap.size_push]
    rcases List.mem_cons.mp hb with rfl | hb
    · exact Nat.lt_succ_self _
    · rw [List.mem_singleton.mp hb]; exact Nat.lt_succ_of_lt hlt
  · intro C i v s₃ m₃ E' _ _ _ _ _ _
    exact wpAny_pure ⟨rfl, ⟨_, _, rfl, fun _ _ e => e⟩⟩
  · intro C i v s₃ m₃ E' hC hP _ hn' hm hk _
    obtain ⟨a, t, rfl, ha⟩ := hi.at i v (by simpa using hP)
    have hk' := keep _ hk
    refine wpAny_mono (wpAny_noRaise (helt C a t s₃ m₃ (List.mem_of_getElem? ha) ⟨hn', fun b o e => hk' b o (F.keep b o e), ?_⟩ hm)) (fun y s₄ h₄ => ⟨?_, h₄.2⟩) fun _ _ e => e
    · have := F.ns.lt
      have h1 := F.above
      rw [Heap.size_push] at hC
      exact Nat.le_trans h1 (Nat.le_trans (Nat.le_of_lt this) (Nat.le_of_succ_le hC))
    · intro a' t' e
      cases e
      exact h₄.1
  · intro D h' tk ys vs hD hlD hplD hlen hP hF hk
    have hk' := keep _ hk
    have e : vs = us := by
      apply List.ext_getElem? fun j => ?_
      by_cases hj : j < vs.length
      · rw [List.getElem?_eq_getElem hj]
        have := hP j _ (List.getElem?_eq_getElem hj)
        exact (by simpa using this : us[j]? = some vs[j]).symm
      · rw [List.getElem?_eq_none (by omega), List.getElem?_eq_none (by rw [hlen, List.size_toArray] at hj; omega)]
    subst e
    rw [List.filter_eq_self.mpr fun _ _ => rfl] at hF
    have hI := paired_ints hi hF
    have fresh : ∀ b o, s₁.heap.get? b = some o → b ≠ D := fun b o e q => by rw [← q, Heap.get?_push_of_some _ e] at hD; cases hD
    obtain ⟨c, hplD⟩ := hplD
    refine hQ D ys.toList c h' tk (fun p hp => fresh _ _ (N p hp).1) (F.keeps hk') (fun p hp => ?_) hI hI.length
    rcases List.mem_cons.mp hp with rfl | hp
    · refine ⟨by simpa [PySem.W.listOf] using hplD, ?_, ?_⟩
      · obtain ⟨oL, _, _, hL', _⟩ := F.ns
        exact fun q => fresh _ _ hL' q.symm
      · cases e : g.get? D with
        | none => rfl
        | some o => exact absurd rfl (fresh _ _ (F.keep _ _ e))
    · exact ⟨hk' _ _ (N p hp).1, (N p hp).2⟩
end
set_option maxHeartbeats 1000000 in
theorem meets_enum_bytes (x : Array UInt8) (t : Tok) :
    Meets (Builtin.«enumerate.__new__» ⟨[.type "enumerate", .bytes x t], []⟩) (fun _ R s =>
      R (.ok (.ret (.ref (s.heap.push { cls := .type "bytes_iterator", data := .fields #[.bytes x t, .int 0 0] }).objs.size)))
        { s with heap := (s.heap.push { cls := .type "bytes_iterator", data := .fields #[.bytes x t, .int 0 0] }).push { cls := .type "enumerate", data := .fields #[.none, .bool false, .ref s.heap.objs.size, rawInt 0, .none, .none] } }) :=
  .of_wp fun prog w A R s h => by
    obtain ⟨hp, g, d, tk, os⟩ := s
    have hsub := sub_enumerate
    wp_walk
    refine wpAny_stack_any fun st => wpAny_pure ?_
    split
    · rename_i c _ _ _ _ _
      cases (c == Value.type "enumerate")
      · wp_walk using KBw.pyIter_bytes
        exact ⟨_, rfl, h⟩
      · wp_walk using KBw.pyIter_bytes
        exact ⟨_, rfl, h⟩
    · wp_walk using KBw.pyIter_bytes
      exact ⟨_, rfl, h⟩
structure EnumAt (g : Heap) (L : Addr) (h : Heap) (news : List (Addr × Obj)) (e it : Addr) (b : Array UInt8) (t : Tok) : Prop where
  en : IsEnum h e it 0 .none
  bi : KBw.IsBytesIter h it b t 0
  ei : e ≠ it
  Le : L ≠ e
  Li : L ≠ it
  ge : g.get? e = none
  gi : g.get? it = none
  ne : ∀ p ∈ news, p.1 ≠ e ∧ p.1 ≠ it
section
variable {prog : Program} {w : World} {A : Around} {E : Value → Shared → Prop} {Q : Value → Shared → Prop} {h : Heap} {gs : Array GenState} {d : Drawn} {k : Nat} {o : OsState} {b : Array UInt8} {t : Tok} {g : Heap} {L : Addr} {m : Str → Option Value} {news : List (Addr × Obj)}
theorem cb_enum (F : Fr g L h m) (N : News g L h news) (hq : ∀ e it h', EnumAt g L h' news e it b t → Fr g L h' m → News g L h' news → Q (.ref e) ⟨h', gs, d, k, o⟩) :
    wpAny (model prog w) A (call (.type "enumerate") [.bytes b t]) Q E ⟨h, gs, d, k, o⟩ := by
  refine callType_new PySem.F.called_enumerate (by decide) (PySem.F.typeCall_enumerate_1 _) (PySem.F.newCall_enumerate_1 _) (fun obj => PySem.F.args_object_init_2 obj _) PySem.F.entry_enumerate_new
    (meets_enum_bytes b t) ?_
  have hz : (h.push { cls := .type "bytes_iterator", data := .fields #[.bytes b t, .int 0 0] }).objs.size = h.objs.size + 1 := Heap.size_push ..
  show _ ∧ _
  have he := Heap.get?_push_size (h.push { cls := .type "bytes_iterator", data := .fields #[.bytes b t, .int 0 0] })
      (o := { cls := .type "enumerate", data := .fields #[.none, .bool false, .ref h.objs.size, rawInt 0, .none, .none] }) rfl
  rw [hz] at he ⊢
  refine ⟨⟨_, he, rfl⟩, ?_⟩
  have kp : ∀ b' o', h.get? b' = some o' → ((h.push { cls := .type "bytes_iterator", data := .fields #[.bytes b t, .int 0 0] }).push { cls := .type "enumerate", data := .fields #[.none, .bool false, .ref h.objs.size, rawInt 0, .none, .none] }).get? b' = some o' :=
    fun b' o' e => Heap.get?_push_of_some _ (Heap.get?_push_of_some _ e)
  exact hq (h.objs.size + 1) h.objs.size _ ⟨he, ⟨_, Heap.get?_push_of_some _ (Heap.get?_push_size _ rfl), rfl, rfl⟩, Nat.succ_ne_self _, Nat.ne_of_lt (Nat.lt_succ_of_lt F.ns.lt), Nat.ne_of_lt F.ns.lt,
    new_none F (Nat.le_succ _), new_none F (Nat.le_refl _), fun p hp => ⟨Nat.ne_of_lt (Nat.lt_succ_of_lt (Heap.lt_size (N p hp).1)), Nat.ne_of_lt (Heap.lt_size (N p hp).1)⟩⟩ (fr_all F kp) (news_all N kp)
end
section
variable {prog : Program} {w : World} {A : Around} {E : Value → Shared → Prop} {s : Shared} {b : Array UInt8} {t : Tok}
theorem next_bytes {it : Addr} {i : Nat} {c : UInt8} {Q : Value → Shared → Prop} (hit : KBw.IsBytesIter s.heap it b t i) (hx : b[i]? = some c)
    (hQ : ∀ h', KBw.IsBytesIter h' it b t (i + 1) → Heap.SameBut it s.heap h' → Q (.int (c.toNat : Int) s.toks) { s with heap := h', toks := s.toks + 1 }) : wpAny (model prog w) A (Builtin.SmallTypes.nextOf (.ref it)) Q E s := by
  obtain ⟨o, ho, hc, hd⟩ := id hit
  unfold Builtin.SmallTypes.nextOf
  refine wpAny_bind (wpAny_callSpecial?_slot (name := Str.ofString "__next__") (KBw.iter_typeIs hit) KBw.slot_next
    (wpAny_call_entry KBw.slot_next (KBw.iter_typeIs hit) KBw.entry_next ?_ (KBw.args_next _)))
  show wpAny _ _ (field (.ref it) 0 >>= _) _ _ s
  refine wpAny_bind (wpAny_field ho hd (x := .bytes b t) rfl ?_)
  show wpAny _ _ (if (Value.bytes b t == Value.none) = true then _ else _) _ _ s
  rw [if_neg (show ¬ ((Value.bytes b t == Value.none) = true) from Bool.false_ne_true)]
  show wpAny _ _ (field (.ref it) 1 >>= _) _ _ s
  refine wpAny_bind (wpAny_field ho hd (x := .int i 0) rfl ?_)
  refine wpAny_bind (wpAny_of_eq (a := b) rfl ?_)
  simp only [Int.toNat_natCast, hx]
  refine wpAny_bind (wpAny_setField ho hd (by simp) (wpAny_bind (wpAny_mkInt (wpAny_pure ⟨_, rfl, wpAny_pure (hQ _ ?_ (Heap.SameBut.update ..))⟩))))
  exact ⟨_, Heap.get?_update_self _ ho (Obj.isFreed_of_fields (Obj.data_mapFields hd _)), (Obj.cls_mapFields ..).trans hc, by
    rw [Obj.data_mapFields hd]; simp [rawInt]⟩
theorem next_bytes_end {it : Addr} {i : Nat} {Q : Value → Shared → Prop} (hh : A.handled = none) (hit : KBw.IsBytesIter s.heap it b t i) (hx : b[i]? = none)
    (hE : ∀ h' e, Heap.ExtBut it s.heap h' → (∃ o, h'.get? e = some o ∧ o.cls = .type "StopIteration") → E (.ref e) { s with heap := h' }) : wpAny (model prog w) A (Builtin.SmallTypes.nextOf (.ref it)) Q E s := by
  obtain ⟨o, ho, hc, hd⟩ := id hit
  unfold Builtin.SmallTypes.nextOf
  refine wpAny_bind (wpAny_callSpecial?_slot (name := Str.ofString "__next__") (KBw.iter_typeIs hit) KBw.slot_next
    (wpAny_call_entry KBw.slot_next (KBw.iter_typeIs hit) KBw.entry_next ?_ (KBw.args_next _)))
  show wpAny _ _ (field (.ref it) 0 >>= _) _ _ s
  refine wpAny_bind (wpAny_field ho hd (x := .bytes b t) rfl ?_)
  show wpAny _ _ (if (Value.bytes b t == Value.none) = true then _ else _) _ _ s
  rw [if_neg (show ¬ ((Value.bytes b t == Value.none) = true) from Bool.false_ne_true)]
  show wpAny _ _ (field (.ref it) 1 >>= _) _ _ s
  refine wpAny_bind (wpAny_field ho hd (x := .int i 0) rfl ?_)
  refine wpAny_bind (wpAny_of_eq (a := b) rfl ?_)
  simp only [Int.toNat_natCast, hx]
  refine wpAny_bind (wpAny_rule (wpAny_bind (wpAny_setField ho hd (by simp) ?_)))
  show wpAny _ _ (newExc (.type "StopIteration") [] >>= _) _ _ _
  refine wpAny_bind ?_
  simp only [newExc, newTuple]
  refine wpAny_bind (wpAny_newObj_type ?_ (by size_fits))
  refine wpAny_bind (m := firstArgMember _ _) (wpAny_of_eq (a := Value.none) (by first | rfl | (simp only [firstArgMember]; rfl)) ?_)
  refine wpAny_newObj_type ?_ (by size_fits)
  simp only [raiseNew]
  refine wpAny_bind (wpAny_handled ?_)
  first | rw [show A.in1.handled = none from hh] | rw [hh]
  refine wpAny_bind (wpAny_pure (wpAny_throw ?_))
  exact hE _ _ (((Heap.SameBut.update ..).extBut.push _).push _) ⟨_, Heap.get?_push_size _ rfl, rfl⟩
end
theorem draws_bytes {prog : Program} {w : World} {A : Around} (hh : A.handled = none) (it : Addr) (b : Array UInt8) (t : Tok) :
    Draws prog w A it [it] b.size (fun i v => ∃ c u, b[i]? = some c ∧ v = .int (c.toNat : Int) u) (fun i h => KBw.IsBytesIter h it b t i) where
  live := fun _ _ st => let ⟨o, ho, _⟩ := st; ⟨o, ho⟩
  frame := fun _ _ _ st hk => let ⟨o, ho, r⟩ := st; ⟨o, hk it (by simp) o ho, r⟩
  item := fun i s Q E hi st hQ => by
    refine next_bytes st (c := b[i]) (by simp [hi]) fun h' hit' hs' => ?_
    exact hQ _ h' (s.toks + 1) ⟨_, _, by simp [hi], rfl⟩ hit' hs'
  done := fun s Q E st hE => next_bytes_end hh st (by simp) hE

/-- the end of a turn; the ledger's places may change -/
def EEnd (h₀ : Heap) (L : Addr) (own : List (Addr × Obj)) (J : (Str → Option Value) → List (Addr × Obj) → Prop) (s : Shared) (Q : Flow → Shared → Prop) (fl : Flow) (s' : Shared) : Prop :=
  match fl with
  | .ret v => Q (.ret v) s'
  | .brk => Q .next s'
  | _ => ∃ h' tk' m' nx, s' = { s with heap := h', toks := tk' } ∧ Fr h₀ L h' m' ∧ News h₀ L h' (nx ++ own) ∧ OwnOff own (nx.map (·.1)) ∧ J m' nx
theorem eend_next {h₀ : Heap} {L : Addr} {own : List (Addr × Obj)} {J : (Str → Option Value) → List (Addr × Obj) → Prop} {s : Shared} {Q : Flow → Shared → Prop} {h' : Heap} {tk' : Nat} {m' : Str → Option Value} {nx news' : List (Addr × Obj)}
    (F : Fr h₀ L h' m') (N : News h₀ L h' news') (hs : ∀ p ∈ nx, p ∈ news') (ho : ∀ p ∈ own, p ∈ news') (ha : OwnOff own (nx.map (·.1))) (hj : J m' nx) : EEnd h₀ L own J s Q .next { s with heap := h', toks := tk' } :=
  ⟨h', tk', m', nx, rfl, F, fun p hp => N p ((List.mem_append.mp hp).elim (hs p) (ho p)), ha, hj⟩
theorem eend_cont {h₀ : Heap} {L : Addr} {own : List (Addr × Obj)} {J : (Str → Option Value) → List (Addr × Obj) → Prop} {s : Shared} {Q : Flow → Shared → Prop} {h' : Heap} {tk' : Nat} {m' : Str → Option Value} {nx news' : List (Addr × Obj)}
    (F : Fr h₀ L h' m') (N : News h₀ L h' news') (hs : ∀ p ∈ nx, p ∈ news') (ho : ∀ p ∈ own, p ∈ news') (ha : OwnOff own (nx.map (·.1))) (hj : J m' nx) : EEnd h₀ L own J s Q .cont { s with heap := h', toks := tk' } :=
  ⟨h', tk', m', nx, rfl, F, fun p hp => N p ((List.mem_append.mp hp).elim (hs p) (ho p)), ha, hj⟩
section
variable {prog : Program} {w : World} {A : Around} {E : Value → Shared → Prop} {s : Shared} {env : Env} {h₀ : Heap} {body : List Stmt} {Q : Flow → Shared → Prop}
theorem for_enum {e it : Addr} {b : Array UInt8} {tb : Tok} {m : Str → Option Value} {news : List (Addr × Obj)} {xi xc : Str} {pk pv pt : Pos} {x1 : Nat}
    (hh : A.handled = none) (en : EnumAt h₀ env.locals s.heap news e it b tb) (hxi : env.kindOf xi = some .local) (hxc : env.kindOf xc = some .local)
    (hp : (env.scope.kind == .class || (env.scope.kind == .module && env.locals != env.globals)) = false) (F : Fr h₀ env.locals s.heap m) (N : News h₀ env.locals s.heap news)
    (J : Nat → (Str → Option Value) → List (Addr × Obj) → Prop) (h0 : J 0 m news)
    (turn : ∀ (i : Nat) (k : Int) t t' m₁ nx h tk own, (KBw.bInts b)[i]? = some k → 0 ≤ k → k < 256 → J i m₁ nx → OwnOff own (nx.map (·.1)) →
      Fr h₀ env.locals h (fun y => if y = xc then some (.int k t) else if y = xi then some (.int i t') else m₁ y) → News h₀ env.locals h (nx ++ own) →
      wpAny (model prog w) A (execs body env) (EEnd h₀ env.locals own (J (i + 1)) s Q) E { s with heap := h, toks := tk })
    (done : ∀ m₁ nx h tk, J b.size m₁ nx → Fr h₀ env.locals h m₁ → News h₀ env.locals h nx → Q .next { s with heap := h, toks := tk }) :
    wpAny (model prog w) A (pyIter (.ref e)) (fun it s₂ => TurnsAt prog w A h₀ env (.Tuple [.Name xi pk, .Name xc pv] x1 pt) body Q E it s₂) E s := by
  have hei := en.ei
  refine wpAny_pyIter_enum en.en ?_
  have W := KTurns.ofWalksU (elts := [.Name xi pk, .Name xc pv]) (k := x1) (pos := pt) (WalksT.enumerateD (draws_bytes (prog := prog) (w := w) (A := A.in1) hh it b tb) e hei (by simpa using hei) (by simp)).toU
  refine ⟨e, [e, it], [e, it], b.size, _, _, _, m, news, J, rfl, W, ?_, ?_, ?_, ⟨⟨.none, by simpa using en.en⟩, en.bi⟩, F, N, h0, ?_, ?_⟩
  · intro hm
    rcases List.mem_cons.mp hm with q | hm
    · exact en.Le q
    · exact en.Li (List.mem_singleton.mp hm)
  · intro b' hb
    rcases List.mem_cons.mp hb with rfl | hb
    · exact en.ge
    · rw [List.mem_singleton.mp hb]; exact en.gi
  · intro p hp hb
    rcases List.mem_cons.mp hb with q | hb
    · exact (en.ne p hp).1 q
    · exact (en.ne p hp).2 (List.mem_singleton.mp hb)
  · rintro i v m₁ news₁ h₁ tk₁ own hi ⟨T, vals, rfl, ⟨t', x, ⟨c, u, hc, rfl⟩, rfl⟩, hT⟩ hJ hnw hown hget hall hst F₁ N₁
    refine wpAny_assign_Tuple hh hT rfl rfl fun h₃ hx₃ => ?_
    replace hx₃ : Heap.ExtBut h₁.objs.size h₁ h₃ := hx₃
    have up₃ : ∀ b o, h₁.get? b = some o → h₃.get? b = some o := fun b o x => hx₃ b o (Nat.ne_of_lt (Heap.lt_size x)) x
    have F₃ := fr_all F₁ up₃
    have N₃ := news_all N₁ up₃
    show wpAny _ A (do holding [.int (c.toNat : Int) u] (assign (.Name xi pk) env (.int i t')); do holding [] (assign (.Name xc pv) env (.int (c.toNat : Int) u)); pure ()) _ _ _
    refine wpAny_bind (wpAny_holding (wpAny_assign_Name (wpAny_storeName_local hxi F₃.ns (fun h₄ hn₄ hs₄ => ?_) hp)))
    replace hs₄ : Heap.SameBut env.locals h₃ h₄ := hs₄
    have F₄ := F₃.set hn₄ hs₄
    refine wpAny_bind (wpAny_holding (wpAny_assign_Name (wpAny_storeName_local hxc F₄.ns (fun h₅ hn₅ hs₅ => wpAny_pure ?_) hp)))
    replace hs₅ : Heap.SameBut env.locals h₄ h₅ := hs₅
    have F₅ := F₄.set hn₅ hs₅
    have N₅ : News h₀ env.locals h₅ (own ++ news₁) := (N₃.set hs₄).set hs₅
    have N₆ : News h₀ env.locals h₅ (news₁ ++ own) := fun p hp => N₅ p ((List.mem_append.mp hp).elim (fun h => List.mem_append.mpr (.inr h)) fun h => List.mem_append.mpr (.inl h))
    have hoff : OwnOff own (news₁.map (·.1)) := by
      intro p hp b hb e'
      obtain ⟨q, hq, rfl⟩ := List.mem_map.mp hb
      exact hnw q hq (e' ▸ hown p hp)
    have hk := KBw.ints_get hc
    have hb := KBw.ints_in (b := b) (List.mem_of_getElem? hk)
    have hwr : ∀ bb ∈ [e, it], ∃ oo, (bb, oo) ∈ own := by
      intro bb hb2
      rcases List.mem_cons.mp hb2 with rfl | hb2
      · obtain ⟨old, he⟩ := hst.1
        exact ⟨_, hall _ (by simp) en.ge _ he⟩
      · rw [List.mem_singleton.mp hb2]
        obtain ⟨oo, ho, _⟩ := hst.2
        exact ⟨_, hall _ (by simp) en.gi _ ho⟩
    refine wpAny_mono (turn i _ u t' m₁ news₁ h₅ _ own hk hb.1 hb.2 hJ hoff F₅ N₆) (fun f s₄ h₄ => ?_) fun _ _ e => e
    have fin : (∃ h' tk' m' nx, s₄ = { s with heap := h', toks := tk' } ∧ Fr h₀ env.locals h' m' ∧ News h₀ env.locals h' (nx ++ own) ∧ OwnOff own (nx.map (·.1)) ∧ J (i + 1) m' nx) →
        LoopStepU h₀ env.locals [e, it] own (J (i + 1)) { s with heap := h₁, toks := tk₁ } .next s₄ := by
      rintro ⟨h', tk', m', nx', e', F', N', ha', hJ'⟩
      refine ⟨rfl, h', tk', m', nx', e', F', fun p hp => N' p ((List.mem_append.mp hp).elim (fun h => List.mem_append.mpr (.inr h)) fun h => List.mem_append.mpr (.inl h)), fun p hp hq => ?_, hJ'⟩
      obtain ⟨oo, ho⟩ := hwr _ hq
      exact ha' _ ho p.1 (List.mem_map.mpr ⟨p, hp, rfl⟩) rfl
    cases f with
    | ret v => exact .ret h₄
    | brk => exact .brk h₄
    | next => exact .next (fin h₄)
    | cont => exact .cont (fin h₄)
  · intro h' tk m' nx F' N' _ hJ
    exact done m' nx h' tk hJ F' N'
end
section
variable {prog : Program} {w : World} {A : Around} {E : Value → Shared → Prop} {s : Shared} {mean : ExcName → Option Value} {mg mb : Str → Option Value} {h₀ : Heap}
theorem enterC {name qual : Str} {params : Arguments} {body : List Stmt} {scope : Scope} {dV kV doc pm cdv ct oc : Value} {an od : Option Addr} {osl : Array (Option Value)} {f : Addr} {vals : List Value} {binds : List (Str × Value)} {Post : Value → Heap → Prop}
    (G : Gd w mean mg mb h₀) (st : h₀.StaysIn s.heap) (hroom : A.depth < recursionLimit)
    (ho : (hd.heap_39 w.params).lookup f = some ⟨oc, od, .func (fnOf name qual params body scope dV kV doc pm an cdv ct), osl⟩) (hcd : codeIn (hd.heap_39 w.params) cdv qual = true)
    (hbind : BindsTo s (fnOf name qual params body scope dV kV doc pm an cdv ct) ⟨vals, []⟩ binds) (hloc : (binds.all fun y => scope.names.lookup y.1 == some .local || scope.names.lookup y.1 == some .cell) = true)
    (h : ∀ g L' h₁ tk cells, Gd w mean mg mb g → (∀ b o, s.heap.get? b = some o → g.get? b = some o) → Fr g L' h₁ (bindL (envOfC qual scope L' f cdv).kindOf binds fun _ => none) → News g L' h₁ cells →
      CellsAre (bindC (envOfC qual scope L' f cdv).kindOf binds fun _ => none) (cellsFrom (L' + 1) scope.names []) cells →
      let ev := envOfC qual scope L' f cdv
      let Ak := A.deeper ev
      wpAny (model PySem.Challenge.pw_og0155_01 w) Ak (execs body ev) (Fin g L' s Post) (fun _ _ => False) { s with heap := h₁, toks := tk })
    (hco : scope.isCoroutine = false) (hgen : scope.isGenerator = false) (hk : scope.kind = .function)
    (hcell : ((cellsFrom 0 scope.names []).map (·.1)).Nodup) : wpAny (model PySem.Challenge.pw_og0155_01 w) A (call (.ref f) vals) (Ok s [] Post) E s := by
  refine wpAny_noRaise (wpAny_call ?_)
  have X : (hd.heap_39 w.params).In s.heap := Frag.In.keeps G.X st
  refine codeAny_call_function hroom (X _ _ ho) rfl hco hgen rfl (codeRec_of X hcd) (hbind _ _ _ _ ?_)
  refine wpAny_newFunctionEnv_cells hk (kindsX hloc _) fun env' he s' x => ?_
  subst he
  refine ⟨(G.T.nolimit.keeps st).keeps x.toInCall.keep, codeAny_func ?_⟩
  obtain ⟨h₁, tk, rfl, _⟩ := x.done
  have hk₁ := x.toInCall.keep
  obtain ⟨cells, NC, Y⟩ := Cl.news (h₀ := s.heap) (Nat.le_refl _) fun n c hm => ⟨x.cell n c (lookup_of_mem_nodup (cellsFrom_names scope.names 0 (s.heap.objs.size + 1) [] [] rfl ▸ hcell) hm), x.above n c hm⟩
  refine wpAny_mono (h s.heap s.heap.objs.size h₁ tk cells (G.keeps st) (fun _ _ e => e) ⟨x.toInCall.ns, hk₁, Nat.le_refl _⟩ NC Y) (fun fl s' hl => ?_) fun _ _ y => y.elim
  obtain ⟨h', tk', m', rfl, F', hp⟩ := hl
  exact ⟨h', tk', rfl, fun b o _ e => F'.keep b o e, hp⟩
end
theorem ints_of_pt : ∀ {ns : List Int} {vs : List Value}, vs.length = ns.length → (∀ (j : Nat) (v : Value), vs[j]? = some v → ∃ (k : Int) (u : Tok), ns[j]? = some k ∧ v = Value.int k u) → IntsAre vs ns
  | [], [], _, _ => .nil
  | [], _ :: _, h, _ => absurd h (Nat.succ_ne_zero _)
  | _ :: _, [], h, _ => absurd h.symm (Nat.succ_ne_zero _)
  | k :: ns, v :: vs, h, hp => by
    obtain ⟨k', u, e, rfl⟩ := hp 0 v rfl
    cases e
    exact .cons _ _ (ints_of_pt (Nat.succ.inj h) fun j v hj => hp (j + 1) v hj)
theorem walks_lt {prog : Program} {w : World} {A : Around} {I : Addr} {fp wr : List Addr} {n : Nat} {P : Nat → Value → Prop} {St : Nat → Heap → Prop} (W : Walks prog w A I fp wr n P St) : Walks prog w A I fp wr n (fun i v => i < n ∧ P i v) St :=
  { W with item := fun i s Q E hi st hQ => W.item i s Q E hi st fun v h' tk hp => hQ v h' tk ⟨hi, hp⟩ }
inductive SrcR (prog : Program) (w : World) (A : Around) (env : Env) (f : Int → Int) (elt : PySem.Expr) (scope : Scope) (cl : List (Str × Addr)) (g : Heap) (L : Addr) (x : Str) (Q : Value → Shared → Prop) (xv : Value) (s₁ : Shared) : Prop
  | mk (r : Addr) (a b c : Int) (t u v : Tok) (n : Nat) (m : Str → Option Value) (news : List (Addr × Obj)) : xv = .ref r → IsRange s₁.heap r a b c t u v → Builtin.Range.small a b c = true → Builtin.Range.rangeSize a b c = ((n : Nat) : Int) → n ≤ 1048576 → Fr g L s₁.heap m → News g L s₁.heap news → (∀ C (j : Nat) t s₂ m₂, j < n → Fr g C s₂.heap m₂ → News g C s₂.heap news → m₂ x = some (.int (a + j * c) t) → wpAny (model prog w) A (eval elt (compEnvC scope cl C env)) (fun y s₃ => (∃ u, y = .int (f (a + j * c)) u) ∧ Keeps s₂ s₃) (fun _ _ => False) s₂) → (∀ D ws c' h' k', (∀ p ∈ news, p.1 ≠ D) → Fr g L h' m → News g L h' ((D, listOf ws.toArray c') :: news) → IntsAre ws ((List.range n).map fun (j : Nat) => f (a + j * c)) → ws.length = n → Q (.ref D) { s₁ with heap := h', toks := k' }) → SrcR prog w A env f elt scope cl g L x Q xv s₁
section
variable {prog : Program} {w : World} {A : Around} {E : Value → Shared → Prop} {env : Env}
theorem comp_range {s : Shared} {elt iter : PySem.Expr} {x : Str} {px : Pos} {scope : Scope} {cl : List (Str × Addr)} {pos : Pos} {Q : Value → Shared → Prop} {g : Heap} {L : Addr} {m₀ : Str → Option Value} (_ : Fr g L s.heap m₀) (f : Int → Int)
    (hh : A.handled = none) (hclos : closureFor scope env = pure cl) (hcell : ∀ y ∈ scope.names, y.2 ≠ .cell) (hkind : scope.kind = .function)
    (hnames : ∀ y ∈ scope.names, y.2 = .local → scope.names.lookup y.1 = some .local) (hx : scope.names.lookup x = some .local)
    (h : wpAny (model prog w) A (eval iter env) (fun xv s₁ => Stop (SrcR prog w A env f elt scope cl g L x Q xv s₁)) E s)
    (hs : ∀ x, foldedSetIterable iter env x = pure x := by intro _; rfl) :
    wpAny (model prog w) A (eval (.ListComp elt [⟨.Name x px, iter, [], 0⟩] scope pos) env) Q E s := by
  refine wpAny_ListComp_free (fun _ => true) (fun v y => ∀ a t, v = .int a t → ∃ u, y = .int (f a) u) hclos hcell hkind hnames hx (wpAny_mono h (fun xv s₁ h₁ => ?_) fun _ _ e => e) hs
  obtain ⟨r, a, b, c, t, u, v, n, m, news, rfl, hr, hsm, hn, hz, F, N, helt, hQ⟩ := h₁
  refine wpAny_pyIter_range hr hsm ?_
  rw [hn]
  have keep : ∀ (h3 : Heap) (it : Obj), (∀ b o, b ∉ [s₁.heap.objs.size] → (s₁.heap.push it).get? b = some o → h3.get? b = some o) → ∀ b o, s₁.heap.get? b = some o → h3.get? b = some o :=
    fun h3 it hk b o e => hk b o (fun hm => by rcases List.mem_cons.mp hm with rfl | hm; exact Nat.lt_irrefl _ (Heap.lt_size e); cases hm) (Heap.get?_push_of_some _ e)
  refine ⟨s₁.heap.objs.size, _, _, n, _, _, rfl, walks_lt (Walks.range hh s₁.heap.objs.size a c n), by rw [sizeLine_eq]; omega, by simpa using Heap.get?_push_size _ rfl, ?_, ⟨?_, ?_⟩, ?_⟩
  · intro b hb
    show b < (s₁.heap.push _).objs.size
    rw [Heap.size_push, List.mem_singleton.mp hb]
    exact Nat.lt_succ_self _
  · intro C i v s₃ m₃ E' _ _ _ _ _ _
    exact wpAny_pure ⟨rfl, ⟨_, _, rfl, fun _ _ e => e⟩⟩
  · intro C i v s₃ m₃ E' hC hP _ hn' hm hk _
    obtain ⟨hi, t, rfl⟩ := hP
    have hk' := keep _ _ hk
    have hCs : s₁.heap.objs.size ≤ C := by
      rw [Heap.size_push] at hC
      exact Nat.le_of_succ_le hC
    refine wpAny_mono (wpAny_noRaise (helt C i t s₃ m₃ hi ⟨hn', fun b o e => hk' b o (F.keep b o e), ?_⟩ (fun p hp => ⟨hk' _ _ (N p hp).1, fun q => ?_, (N p hp).2.2⟩) hm)) (fun y s₄ h₄ => ⟨?_, h₄.2⟩) fun _ _ e => e
    · have := F.ns.lt
      have h1 := F.above
      exact Nat.le_trans h1 (Nat.le_trans (Nat.le_of_lt this) hCs)
    · have := Heap.lt_size (N p hp).1
      rw [q] at this
      exact absurd this (Nat.not_lt.mpr hCs)
    · intro a' t' e
      cases e
      exact h₄.1
  · intro D h' tk ys vs hD hlD hplD hlen hP hF hk
    have hk' := keep _ _ hk
    have hi : IntsAre vs ((List.range n).map fun (j : Nat) => a + (j : Int) * c) := by
      refine ints_of_pt (by rw [hlen, List.length_map, List.length_range]) fun j v hj => ?_
      obtain ⟨hl, t, rfl⟩ := hP j v hj
      exact ⟨_, t, by rw [List.getElem?_map, List.getElem?_range hl]; rfl, rfl⟩
    rw [List.filter_eq_self.mpr fun _ _ => rfl] at hF
    have hI := paired_ints hi hF
    rw [List.map_map] at hI
    have fresh : ∀ b o, s₁.heap.get? b = some o → b ≠ D := fun b o e q => by rw [← q, Heap.get?_push_of_some _ e] at hD; cases hD
    obtain ⟨c', hplD⟩ := hplD
    refine hQ D ys.toList c' h' tk (fun p hp => fresh _ _ (N p hp).1) (F.keeps hk') (fun p hp => ?_) hI (by rw [hI.length, List.length_map, List.length_range])
    rcases List.mem_cons.mp hp with rfl | hp
    · refine ⟨by simpa [PySem.W.listOf] using hplD, ?_, ?_⟩
      · obtain ⟨oL, _, _, hL', _⟩ := F.ns
        exact fun q => fresh _ _ hL' q.symm
      · cases e : g.get? D with
        | none => rfl
        | some o => exact absurd rfl (fresh _ _ (F.keep _ _ e))
    · exact ⟨hk' _ _ (N p hp).1, (N p hp).2⟩
end
/-! loops that turn nothing of the ledger -/
def REnd (h₀ : Heap) (L : Addr) (all : List (Addr × Obj)) (J : (Str → Option Value) → Prop) (s : Shared) (Q : Flow → Shared → Prop) (fl : Flow) (s' : Shared) : Prop :=
  match fl with
  | .ret v => Q (.ret v) s'
  | .brk => Q .next s'
  | _ => ∃ h' tk' m', s' = { s with heap := h', toks := tk' } ∧ Fr h₀ L h' m' ∧ News h₀ L h' all ∧ J m'
theorem rend_next {h₀ : Heap} {L : Addr} {all : List (Addr × Obj)} {J : (Str → Option Value) → Prop} {s : Shared} {Q : Flow → Shared → Prop} {h' : Heap} {tk' : Nat} {m' : Str → Option Value} {news' : List (Addr × Obj)}
    (F : Fr h₀ L h' m') (N : News h₀ L h' news') (hs : ∀ p ∈ all, p ∈ news') (hj : J m') : REnd h₀ L all J s Q .next { s with heap := h', toks := tk' } :=
  ⟨h', tk', m', rfl, F, fun p hp => N p (hs p hp), hj⟩
section
variable {prog : Program} {w : World} {A : Around} {E : Value → Shared → Prop} {s : Shared} {env : Env} {h₀ : Heap} {target : PySem.Expr} {body : List Stmt} {Q : Flow → Shared → Prop}
theorem turns_ro {I : Addr} {fp wr : List Addr} {n : Nat} {P Md : Nat → Value → Heap → Prop} {St : Nat → Heap → Prop} {m : Str → Option Value} {news : List (Addr × Obj)}
    (W : KTurns prog w A target I fp wr n P Md St) (hLf : env.locals ∉ fp) (hwr : ∀ b ∈ wr, h₀.get? b = none) (hfn : ∀ p ∈ news, p.1 ∉ wr) (hst : St 0 s.heap) (F : Fr h₀ env.locals s.heap m) (N : News h₀ env.locals s.heap news)
    (J : Nat → (Str → Option Value) → Prop) (h0 : J 0 m)
    (turn : ∀ i v m₁ h tk own, i < n → P i v h → J i m₁ → Fr h₀ env.locals h m₁ → News h₀ env.locals h (news ++ own) →
      wpAny (model prog w) A (assign target env v) (fun _ s₃ => wpAny (model prog w) A (execs body env) (REnd h₀ env.locals (news ++ own) (J (i + 1)) s Q) E s₃) E { s with heap := h, toks := tk })
    (done : ∀ m₁ h tk, J n m₁ → Fr h₀ env.locals h m₁ → News h₀ env.locals h news → Q .next { s with heap := h, toks := tk }) :
    TurnsAt prog w A h₀ env target body Q E (.ref I) s := by
  refine ⟨I, fp, wr, n, P, Md, St, m, news, fun i m nx => nx = news ∧ J i m, rfl, W, hLf, hwr, hfn, hst, F, N, ⟨rfl, h0⟩, ?_, ?_⟩
  · rintro i v m₁ nx h tk own hi hP ⟨rfl, hJ⟩ _ hown _ _ _ F₁ N₁
    have N₂ : News h₀ env.locals h (nx ++ own) := fun p hp => N₁ p ((List.mem_append.mp hp).elim (fun h => List.mem_append.mpr (.inr h)) fun h => List.mem_append.mpr (.inl h))
    refine wpAny_mono (turn i v m₁ h tk own hi hP hJ F₁ N₂) (fun _ s₃ h₃ => wpAny_mono h₃ (fun f s₄ h₄ => ?_) fun _ _ e => e) fun _ _ e => e
    have fin : (∃ h' tk' m', s₄ = { s with heap := h', toks := tk' } ∧ Fr h₀ env.locals h' m' ∧ News h₀ env.locals h' (nx ++ own) ∧ J (i + 1) m') →
        LoopStepU h₀ env.locals wr own (fun m nx' => nx' = nx ∧ J (i + 1) m) { s with heap := h, toks := tk } .next s₄ := by
      rintro ⟨h', tk', m', e, F', N', hJ'⟩
      exact ⟨rfl, h', tk', m', nx, e, F', fun p hp => N' p ((List.mem_append.mp hp).elim (fun h => List.mem_append.mpr (.inr h)) fun h => List.mem_append.mpr (.inl h)), hfn, rfl, hJ'⟩
    cases f with
    | ret v => exact .ret h₄
    | brk => exact .brk h₄
    | next => exact .next (fin h₄)
    | cont => exact .cont (fin h₄)
  · rintro h' tk m' nx F' N' _ ⟨rfl, hJ⟩
    exact done m' h' tk hJ F' N'
theorem ro_list {l : Addr} {vs : List Value} {m : Str → Option Value} {news : List (Addr × Obj)} {x : Str} {px : Pos}
    (hh : A.handled = none) (hl : s.heap.IsList l vs.toArray) (hlL : l ≠ env.locals) (F : Fr h₀ env.locals s.heap m) (N : News h₀ env.locals s.heap news)
    (J : Nat → (Str → Option Value) → Prop) (h0 : J 0 m)
    (turn : ∀ (i : Nat) v m₁ h tk own, vs[i]? = some v → J i m₁ → Fr h₀ env.locals h m₁ → News h₀ env.locals h (news ++ own) →
      wpAny (model prog w) A (assign (.Name x px) env v) (fun _ s₃ => wpAny (model prog w) A (execs body env) (REnd h₀ env.locals (news ++ own) (J (i + 1)) s Q) E s₃) E { s with heap := h, toks := tk })
    (done : ∀ m₁ h tk, J vs.length m₁ → Fr h₀ env.locals h m₁ → News h₀ env.locals h news → Q .next { s with heap := h, toks := tk }) :
    wpAny (model prog w) A (pyIter (.ref l)) (fun it s₂ => TurnsAt prog w A h₀ env (.Name x px) body Q E it s₂) E s := by
  have hlt : l < s.heap.objs.size := by obtain ⟨ol, hol, _⟩ := id hl; exact Heap.lt_size hol
  have hne : l ≠ s.heap.objs.size := Nat.ne_of_lt hlt
  refine wpAny_pyIter_list hl ?_
  refine turns_ro (s := { s with heap := s.heap.push _ }) (KTurns.ofWalks (Walks.list hh s.heap.objs.size l hne vs.toArray) fun _ _ _ _ _ _ q => wpAny_pure q) ?_ ?_ ?_ ⟨⟨_, Heap.get?_push_size _ rfl, rfl, rfl⟩, hl.at fun o e => Heap.get?_push_of_some _ e⟩ (F.push _) (fun p hp => ⟨Heap.get?_push_of_some _ (N p hp).1, (N p hp).2⟩) J h0 ?_ ?_
  · intro hm
    rcases List.mem_cons.mp hm with e | hm
    · exact absurd F.ns.lt (e ▸ Nat.lt_irrefl _)
    · exact hlL (List.mem_singleton.mp hm).symm
  · intro b' hb
    rw [List.mem_singleton.mp hb]
    exact next_is_new F
  · intro p hp hI
    exact absurd (Heap.lt_size (N p hp).1) ((List.mem_singleton.mp hI) ▸ Nat.lt_irrefl _)
  · rintro i v m₁ h tk own hi hv hJ F₁ N₁
    exact turn i v m₁ h tk own (by simpa using hv) hJ F₁ N₁
  · intro m₁ h tk hJ F₁ N₁
    exact done m₁ h tk (by simpa using hJ) F₁ N₁
theorem ro_tuple {l : Addr} {vs : List Value} {m : Str → Option Value} {news : List (Addr × Obj)} {x : Str} {px : Pos}
    (hh : A.handled = none) (hl : s.heap.IsTuple l vs.toArray) (hlL : l ≠ env.locals) (F : Fr h₀ env.locals s.heap m) (N : News h₀ env.locals s.heap news)
    (J : Nat → (Str → Option Value) → Prop) (h0 : J 0 m)
    (turn : ∀ (i : Nat) v m₁ h tk own, vs[i]? = some v → J i m₁ → Fr h₀ env.locals h m₁ → News h₀ env.locals h (news ++ own) →
      wpAny (model prog w) A (assign (.Name x px) env v) (fun _ s₃ => wpAny (model prog w) A (execs body env) (REnd h₀ env.locals (news ++ own) (J (i + 1)) s Q) E s₃) E { s with heap := h, toks := tk })
    (done : ∀ m₁ h tk, J vs.length m₁ → Fr h₀ env.locals h m₁ → News h₀ env.locals h news → Q .next { s with heap := h, toks := tk }) :
    wpAny (model prog w) A (pyIter (.ref l)) (fun it s₂ => TurnsAt prog w A h₀ env (.Name x px) body Q E it s₂) E s := by
  have hlt : l < s.heap.objs.size := by obtain ⟨ol, hol, _⟩ := id hl; exact Heap.lt_size hol
  have hne : l ≠ s.heap.objs.size := Nat.ne_of_lt hlt
  refine wpAny_pyIter_tuple hl ?_
  refine turns_ro (s := { s with heap := s.heap.push _ }) (KTurns.ofWalks (Walks.tuple hh s.heap.objs.size l hne vs.toArray) fun _ _ _ _ _ _ q => wpAny_pure q) ?_ ?_ ?_ ⟨⟨_, Heap.get?_push_size _ rfl, rfl, rfl⟩, hl.at fun o e => Heap.get?_push_of_some _ e⟩ (F.push _) (fun p hp => ⟨Heap.get?_push_of_some _ (N p hp).1, (N p hp).2⟩) J h0 ?_ ?_
  · intro hm
    rcases List.mem_cons.mp hm with e | hm
    · exact absurd F.ns.lt (e ▸ Nat.lt_irrefl _)
    · exact hlL (List.mem_singleton.mp hm).symm
  · intro b' hb
    rw [List.mem_singleton.mp hb]
    exact next_is_new F
  · intro p hp hI
    exact absurd (Heap.lt_size (N p hp).1) ((List.mem_singleton.mp hI) ▸ Nat.lt_irrefl _)
  · rintro i v m₁ h tk own hi hv hJ F₁ N₁
    exact turn i v m₁ h tk own (by simpa using hv) hJ F₁ N₁
  · intro m₁ h tk hJ F₁ N₁
    exact done m₁ h tk (by simpa using hJ) F₁ N₁
end
local macro_rules | `(tactic| walk_at $s:str) => `(tactic| k_extra $s)
theorem fill0 : (∀ w : World, (hd.heap_39 w.params).length ≠ PySem.Challenge.rw_og0155_01.foot) ∨ True := by
  k_fill
  exact .inr trivial
local macro_rules | `(tactic| k_all) => `(tactic| first | with_reducible assumption | exact fun p hp => OwnOff.ne (by with_reducible assumption) (by k_mem) p hp | (refine' List.forall_mem_append.mpr ⟨?a, ?b⟩; (case a => k_all); (case b => k_all)))
local macro_rules | `(tactic| k_ne) => `(tactic| (refine neN ?_; (try dsimp only); first | with_reducible assumption | (refine Ne.symm ?_; with_reducible assumption) | omega))
theorem set_Small : True := by
  k_with_none
  k_with "my_in" => ((w_top off; (case ho => k_dflt k_is); (case hcd => k_dflt k_is); (case hbind => k_dflt (first | exact BindsTo.of_eq rfl | exact binds_K (K := hd.heap_39 _) (Frag.In.keeps (Gd.X (by assumption)) (by assumption)) rfl (by k_dflt k_is) rfl rfl rfl)); (case hloc => exact locs rfl); (case hco => exact rfl); (case hgen => exact rfl); (case hk => exact rfl); (case hcell => decide)))
  k_with "my_look" => (first | with_reducible assumption | exact rfl | (refine' lk_eq ?zk2r; (case zk2r => k_extra "my_look")) | (refine' lk_ne ?zk2n ?zk2r; (case zk2n => decide); (case zk2r => k_extra "my_look")))
  k_with "eval Name" => ((k_here; (with_reducible show wpAny _ _ (eval (PySem.Expr.Name _ _) (envOf _ _ _ _ _)) _ _ _); k_dflt (refine ld (by assumption) (by k_extra "my_look") ?_)))
  k_with "eval Constant int" => ((refine c_const ?_; intro _ _))
  k_with "binaryOp Add int int" => ((refine c_add ?_; intro _ _))
  k_with "binaryOp Sub int int" => ((refine c_sub ?_; intro _ _))
  k_with "binaryOp Mult int int" => ((refine c_mul (by mul_fits) ?_; intro _ _))
  k_with "binaryOp Mod int int" => ((refine c_mod (by omega) ?_; intro _ _ _ _))
  k_with "binaryOp FloorDiv int int" => ((refine c_div (by omega) (by omega) ?_; intro _ _))
  k_with "unaryOp USub int" => ((refine c_neg ?_; intro _ _))
  k_with "binaryOp Pow int int" => ((refine c_pow (by decide) (by decide) (by decide) ?_; intro _ _))
  k_with "my_for" => ((k_dflt (refine for_go (by assumption) ?_ (by intro _; rfl) PassesOwn.never)))
  k_with "my_room" => (first | assumption | ((try dsimp only [Rm]); omega))
  k_with "exec For Name Name cons nil" => (k_extra "my_for")
  k_with "exec For Name Call cons nil" => (k_extra "my_for")
  k_with "exec For Name BinOp cons nil" => (k_extra "my_for")
  k_with "exec For Name Tuple cons nil" => (k_extra "my_for")
  k_with "exec For Tuple Name cons nil" => (k_extra "my_for")
  k_with "exec For Tuple Call cons nil" => (k_extra "my_for")
  k_with "exec For Tuple BinOp cons nil" => (k_extra "my_for")
  k_with "exec For Tuple Tuple cons nil" => (k_extra "my_for")
  k_with "exec While Compare cons nil" => ((refine stop_intro ?_))
  k_with "exec While BoolOp cons nil" => ((refine stop_intro ?_))
  k_with "my_sub" => (first | exact List.forall_mem_nil _ | (refine' List.forall_mem_cons.mpr ⟨by k_mem, ?_⟩; k_extra "my_sub") | k_extra "my_own")
  k_with "my_own" => ((intro _ _; k_extra "my_mem"))
  k_with "my_mem" => (first | assumption | (refine' List.mem_append_left _ ?_; k_extra "my_mem") | (refine' List.mem_append_right _ ?_; k_extra "my_mem") | (refine' List.Mem.tail _ ?_; k_extra "my_mem"))
  k_with "my_size" => (first | exact Nat.le_trans (by with_reducible assumption) (Nat.le_of_ble_eq_true rfl) | omega | (simp only [KBw.ints_length, List.length_append, List.length_take, List.length_drop, List.length_cons, List.length_nil, Array.size_append] at *; omega))
  k_with "my_part" => (first | exact IsPart.none | exact IsPart.int _ _)
  k_with "eval Constant bytes" => ((refine cb_const ?_; intro _ _))
  k_with "call builtin:len" => (((with_reducible show wpAny _ _ (call (Value.builtin "len") [Value.bytes _ _]) _ _ _); refine cb_len (by k_extra "my_size") ?_; intro _ _))
  k_with "binaryOp Add bytes bytes" => ((refine cb_add (by k_extra "my_size") ?_; intro _ _ _ _ _))
  k_with "compareOp Eq bytes bytes" => ((refine cb_eq ?_))
  k_with "compareOp NotEq bytes bytes" => ((refine cb_ne ?_))
  k_with "truthy bytes" => ((refine cb_truthy (by k_extra "my_size") ?_; intro _))
  k_with "binaryOp Mult bytes int" => ((refine cb_mul (by omega) (by omega) (by omega) (by omega) ?_; intro _ _ _ _))
  k_with "call type:bytes" => (((with_reducible show wpAny _ _ (call (Value.type "bytes") [Value.ref _]) _ _ _); k_dflt (refine' cb_make ?zk36F ?zk36N rfl ?zk36l ?zk36i ?zk36r ?zk36n ?_; (case zk36F => assumption); (case zk36N => assumption); (case zk36l => first | exact News.isList (by assumption) (by k_mem) | assumption); (case zk36i => k_extra "my_ints"); (case zk36r => k_extra "my_range"); (case zk36n => k_extra "my_size")); intro _ _ _ _ _ _ _ _))
  k_with "my_ints" => (first | with_reducible assumption | exact IntsAre.nil | (refine' IntsAre.cons _ _ ?zk37c; (case zk37c => k_extra "my_ints")) | (with_reducible refine' IntsAre.append (by k_extra "my_ints") (by k_extra "my_ints")) | assumption)
  k_with "my_range" => (first | with_reducible assumption | exact List.forall_mem_nil _ | ((with_reducible refine' List.forall_mem_append.mpr ⟨?_, ?_⟩) <;> k_extra "my_range") | ((refine' List.forall_mem_cons.mpr ⟨⟨?_, ?_⟩, ?_⟩) <;> (first | omega | k_extra "my_range")))
  k_with "subscriptTail" => (((with_reducible show wpAny _ _ (subscriptTail _ _ (Value.bytes _ _) (Value.int _ _)) _ _ _); k_dflt (refine cb_item (by k_extra "my_size") (by omega) (by omega) ?_); intro _ _ _ _))
  k_with "subscriptTail" => (((with_reducible show wpAny _ _ (subscriptTail _ (Expr.Slice _ _ none _) (Value.bytes _ _) (Value.ref _)) _ _ _); k_dflt (refine' cb_slice ?zk40F ?zk40N ?zk40a ?zk40b ?zk40z ?_; (case zk40F => assumption); (case zk40N => assumption); (case zk40a => k_extra "my_part"); (case zk40b => k_extra "my_part"); (case zk40z => k_extra "my_size")); intro _ _ _ _ _ _ hC _; (first | rw [cut_nn (by omega) (by omega)] at hC | rw [cut_0n (by omega)] at hC | rw [cut_neg (by omega)] at hC); (have hN := congrArg List.length hC); (simp only [KBw.ints_length, List.length_take, List.length_drop] at hN)))
  k_with "call type:list" => (((with_reducible show wpAny _ _ (call (Value.type "list") [Value.bytes _ _]) _ _ _); k_dflt (refine' cl_bytes ?zk41F ?zk41N rfl ?zk41z ?_; (case zk41F => assumption); (case zk41N => assumption); (case zk41z => k_extra "my_size")); intro _ _ _ _ _ l1 _ _ _ _; (try k_lt l1)))
  k_with "call builtin:list.extend" => (((with_reducible show wpAny _ _ (call (Value.builtin _) [Value.ref _, Value.ref _]) _ _ _); k_dflt (refine' cl_extend ?zk42F ?zk42N ?zk42U ?zk42b ?zk42z ?_; (case zk42F => assumption); (case zk42N => assumption); (case zk42U => k_updF); (case zk42b => k_mem); (case zk42z => k_extra "my_lens")); intro _ _ _ _ N'; (try dsimp only at N')))
  k_with "my_lens" => (first | exact Nat.le_trans (by with_reducible assumption) (Nat.le_of_ble_eq_true rfl) | exact Nat.le_trans (Nat.add_le_add_right (by with_reducible assumption) _) (Nat.le_of_ble_eq_true rfl) | exact Nat.le_trans (Nat.add_le_add (by with_reducible assumption) (Nat.add_le_add_right (by with_reducible assumption) _)) (Nat.le_of_ble_eq_true rfl) | exact Nat.le_trans (Nat.add_le_add_right (Nat.add_le_add (by with_reducible assumption) (by with_reducible assumption)) _) (Nat.le_of_ble_eq_true rfl) | exact Nat.le_trans (Nat.add_le_add (by with_reducible assumption) (by with_reducible assumption)) (Nat.le_of_ble_eq_true rfl) | omega | (simp only [List.flatten_replicate_singleton, List.length_replicate]; omega) | ((repeat rw [IntsAre.length (by with_reducible assumption)]); k_extra "my_size"))
  k_with "exec Raise some none" => ((exfalso; omega))
  k_with "my_isl" => (first | exact News.isList (by assumption) (by k_mem) | assumption | exact Heap.IsList.at (by with_reducible assumption) fun o e => Fr.keep (by assumption) _ o e)
  k_with "call builtin:len" => (((with_reducible show wpAny _ _ (call (Value.builtin "len") [Value.ref _]) _ _ _); k_dflt (refine' cl_len ?zk46l ?zk46z ?_; (case zk46l => k_extra "my_isl"); (case zk46z => k_extra "my_lens")); intro _ _; (try simp only [List.length_append, List.length_cons, List.length_nil])))
  k_with "binaryOp Add ref ref" => (((with_reducible show wpAny _ _ (binaryOp Operator.Add (Value.ref _) (Value.ref _)) _ _ _); k_dflt (refine' cl_add ?zk47F ?zk47N ?zk47l ?zk47b ?zk47i ?zk47j ?zk47z ?_; (case zk47F => assumption); (case zk47N => assumption); (case zk47l => k_extra "my_isl"); (case zk47b => k_extra "my_isl"); (case zk47i => k_extra "my_ints"); (case zk47j => k_extra "my_ints"); (case zk47z => k_extra "my_lens")); intro _ _ _ _ _ l1 _ _ _ _; (try k_lt l1)))
  k_with "call builtin:list.append" => (((with_reducible show wpAny _ _ (call (Value.builtin _) [Value.ref _, _]) _ _ _); k_dflt (refine' cl_append ?zk48F ?zk48N ?zk48U ?zk48z ?_; (case zk48F => assumption); (case zk48N => assumption); (case zk48U => k_updF); (case zk48z => k_extra "my_lens")); intro _ _ _ N'; (try dsimp only at N')))
  k_with "subscriptTail Name Slice ref ref" => (((with_reducible show wpAny _ _ (subscriptTail _ (Expr.Slice none (some _) none _) (Value.ref _) (Value.ref _)) _ _ _); k_dflt (refine' cl_upto ?zk49F ?zk49N ?zk49l ?zk49i ?zk49a ?zk49z ?_; (case zk49F => assumption); (case zk49N => assumption); (case zk49l => k_extra "my_isl"); (case zk49i => k_extra "my_ints"); (case zk49a => omega); (case zk49z => k_extra "my_lens")); intro _ _ _ _ _ l1 _ _ _ _; (try k_lt l1)))
  k_with "execs cons" => ((k_here; first | k_fold | (k_made; walk_at "execs cons") | k_gentoks | (with_reducible refine execs_one ?_) | ((with_reducible refine wpAny_execs_cons ?_); (try dsimp only); k_fold)))
  k_with "spliced" => ((k_here; first | (refine args_last ?_; (try dsimp only [List.cons_append, List.nil_append])) | refine args_cons ?_ | (refine args_nil ?_; (try dsimp only [List.cons_append, List.nil_append]))))
  k_with "storeName" => ((k_here; k_dflt (refine' storeM ?zk52F ?zk52N ?_ ?zk52a ?zk52b; (case zk52F => k_asm); (case zk52N => k_asm); (case zk52a => rfl); (case zk52b => rfl); k_whole; intro _ _ _ _; (try k_sweep))))
  k_with "exec If" => ((refine stop_intro ?_))
  k_with "my_mid" => (first | exact Mid.mk true _ _ (by assumption) (fun _ q => nomatch q) ⟨fun _ => ⟨by with_reducible assumption, by with_reducible assumption⟩, fun q => nomatch q⟩ | exact Mid.mk false _ _ (by assumption) (fun _ q => nomatch q) ⟨(fun q => nomatch q), fun _ => not_lo (by with_reducible assumption)⟩ | exact Mid.mk false _ _ (by assumption) (fun _ q => nomatch q) ⟨(fun q => nomatch q), fun _ => not_hi (by with_reducible assumption)⟩ | exact Mid.mk _ _ _ (by assumption) (fun _ q => nomatch q) ⟨fun q => ⟨by with_reducible assumption, of_decide_eq_true q⟩, fun q => not_hi (of_decide_eq_false q)⟩)
  trivial
def isWhite (c : Int) : Bool := [0, 9, 10, 12, 13, 32].any (· == c)
set_option maxHeartbeats 8000000 in
theorem is_white_ok {w mean mg mb} {h₀ : Heap} {s : Shared} {dp un : Nat} {fr : Option (List Env)} {gd : Option (List Code)} (G : Gd w mean mg mb h₀) (st : h₀.StaysIn s.heap) (hdp : dp < recursionLimit) (c : Int) (t : Tok) :
    wpAny (model PySem.Challenge.pw_og0155_01 w) (Rm dp un fr gd) (call (.ref 29) [.int c t]) (Ok s [] (fun r _ => r = .bool (isWhite c))) (fun _ _ => False) s := by
  refine' enter (binds := [(Str.ofString "code", .int c t)]) (news := []) G st (fun _ hp => nomatch hp) hdp ?ho ?hcd ?hbind ?hloc ?h ?hco ?hgen ?hk ?hcell
  k_extra "my_in"
  intro g' L' h' ⟨X', T'⟩ hg' F' N' ev Ak
  (try k_fold)
  k_steps
  refine in_tuple_ints (tupK (Frag.In.keeps X' F'.keep) (by k_dflt k_is)) (ns := [0, 9, 10, 12, 13, 32]) (by repeat constructor) ?_
  exact fin_ret F' rfl

def worth (c : Int) : Int := if 48 ≤ c ∧ c ≤ 57 then c - 48 else if 65 ≤ c ∧ c ≤ 70 then c - 55 else if 97 ≤ c ∧ c ≤ 102 then c - 87 else -1
theorem worth1 {c : Int} (h : 48 ≤ c ∧ c ≤ 57) : worth c = c - 48 := if_pos h
theorem worth2 {c : Int} (h : ¬(48 ≤ c ∧ c ≤ 57)) (h2 : 65 ≤ c ∧ c ≤ 70) : worth c = c - 55 := by unfold worth; rw [if_neg h, if_pos h2]
theorem worth3 {c : Int} (h : ¬(48 ≤ c ∧ c ≤ 57)) (h2 : ¬(65 ≤ c ∧ c ≤ 70)) (h3 : 97 ≤ c ∧ c ≤ 102) : worth c = c - 87 := by unfold worth; rw [if_neg h, if_neg h2, if_pos h3]
theorem worth4 {c : Int} (h : ¬(48 ≤ c ∧ c ≤ 57)) (h2 : ¬(65 ≤ c ∧ c ≤ 70)) (h3 : ¬(97 ≤ c ∧ c ≤ 102)) : worth c = -1 := by unfold worth; rw [if_neg h, if_neg h2, if_neg h3]
theorem not_lo {a b c : Int} (h : ¬ a ≤ c) : ¬(a ≤ c ∧ c ≤ b) := fun q => h q.1
theorem not_hi {a b c : Int} (h : ¬ c ≤ b) : ¬(a ≤ c ∧ c ≤ b) := fun q => h q.2
set_option maxHeartbeats 8000000 in
theorem figure_worth_ok {w mean mg mb} {h₀ : Heap} {s : Shared} {dp un : Nat} {fr : Option (List Env)} {gd : Option (List Code)} (G : Gd w mean mg mb h₀) (st : h₀.StaysIn s.heap) (hdp : dp < recursionLimit) (c : Int) (t : Tok) :
    wpAny (model PySem.Challenge.pw_og0155_01 w) (Rm dp un fr gd) (call (.ref 84) [.int c t]) (Ok s [] (fun r _ => ∃ t, r = .int (worth c) t)) (fun _ _ => False) s := by
  refine' enter (binds := [(Str.ofString "code", .int c t)]) (news := []) G st (fun _ hp => nomatch hp) hdp ?ho ?hcd ?hbind ?hloc ?h ?hco ?hgen ?hk ?hcell
  k_extra "my_in"
  intro g' L' h' ⟨X', T'⟩ hg' F' N' ev Ak
  (try k_fold)
  k_steps
  unfold Stop
  refine if_mid (news := []) (fun b => (b = true → 48 ≤ c ∧ c ≤ 57) ∧ (b = false → ¬(48 ≤ c ∧ c ≤ 57))) (by assumption) (fun _ q => nomatch q) ?t1 ?y1 ?n1
  case t1 =>
    k_steps
    all_goals k_extra "my_mid"
  case y1 =>
    intro h1 tk1 Fy _ hy
    k_steps
    exact fin_ret (by assumption) ⟨_, congrArg (fun k => Value.int k _) (worth1 (hy.1 rfl)).symm⟩
  intro h1 tk1 F1 _ hn1
  replace hn1 := hn1.2 rfl
  k_steps
  unfold Stop
  refine if_mid (news := []) (fun b => (b = true → 65 ≤ c ∧ c ≤ 70) ∧ (b = false → ¬(65 ≤ c ∧ c ≤ 70))) (by assumption) (fun _ q => nomatch q) ?t2 ?y2 ?n2
  case t2 => k_steps; all_goals k_extra "my_mid"
  case y2 =>
    intro h1 tk1 Fy _ hy
    k_steps
    exact fin_ret (by assumption) ⟨_, congrArg (fun k => Value.int k _) (worth2 hn1 (hy.1 rfl)).symm⟩
  intro h2 tk2 F2 _ hn2
  replace hn2 := hn2.2 rfl
  k_steps
  unfold Stop
  refine if_mid (news := []) (fun b => (b = true → 97 ≤ c ∧ c ≤ 102) ∧ (b = false → ¬(97 ≤ c ∧ c ≤ 102))) (by assumption) (fun _ q => nomatch q) ?t3 ?y3 ?n3
  case t3 => k_steps; all_goals k_extra "my_mid"
  case y3 =>
    intro h1 tk1 Fy _ hy
    k_steps
    exact fin_ret (by assumption) ⟨_, congrArg (fun k => Value.int k _) (worth3 hn1 hn2 (hy.1 rfl)).symm⟩
  intro h3 tk3 F3 _ hn3
  replace hn3 := hn3.2 rfl
  k_steps
  exact fin_ret (by assumption) ⟨_, congrArg (fun k => Value.int k _) (worth4 hn1 hn2 hn3).symm⟩
theorem set_Draw : True := by
  k_with_none
  k_with "my_in" => ((w_top off; (case ho => k_dflt k_is); (case hcd => k_dflt k_is); (case hbind => k_dflt (first | exact BindsTo.of_eq rfl | exact binds_K (K := hd.heap_39 _) (Frag.In.keeps (Gd.X (by assumption)) (by assumption)) rfl (by k_dflt k_is) rfl rfl rfl)); (case hloc => exact locs rfl); (case hco => exact rfl); (case hgen => exact rfl); (case hk => exact rfl); (case hcell => decide)))
  k_with "my_look" => (first | with_reducible assumption | exact rfl | (refine' lk_eq ?zk2r; (case zk2r => k_extra "my_look")) | (refine' lk_ne ?zk2n ?zk2r; (case zk2n => decide); (case zk2r => k_extra "my_look")))
  k_with "eval Name" => ((k_here; (with_reducible show wpAny _ _ (eval (PySem.Expr.Name _ _) (envOf _ _ _ _ _)) _ _ _); k_dflt (refine ld (by assumption) (by k_extra "my_look") ?_)))
  k_with "eval Constant int" => ((refine c_const ?_; intro _ _))
  k_with "binaryOp Add int int" => ((refine c_add ?_; intro _ _))
  k_with "binaryOp Sub int int" => ((refine c_sub ?_; intro _ _))
  k_with "binaryOp Mult int int" => ((refine c_mul (by mul_fits) ?_; intro _ _))
  k_with "binaryOp Mod int int" => ((refine c_mod (by omega) ?_; intro _ _ _ _))
  k_with "binaryOp FloorDiv int int" => ((refine c_div (by omega) (by omega) ?_; intro _ _))
  k_with "unaryOp USub int" => ((refine c_neg ?_; intro _ _))
  k_with "binaryOp Pow int int" => ((refine c_pow (by decide) (by decide) (by decide) ?_; intro _ _))
  k_with "my_for" => ((k_dflt (refine for_go (by assumption) ?_ (by intro _; rfl) PassesOwn.never)))
  k_with "my_room" => (first | assumption | ((try dsimp only [Rm]); omega))
  k_with "exec For Name Name cons nil" => (k_extra "my_for")
  k_with "exec For Name Call cons nil" => (k_extra "my_for")
  k_with "exec For Name BinOp cons nil" => (k_extra "my_for")
  k_with "exec For Name Tuple cons nil" => (k_extra "my_for")
  k_with "exec For Tuple Name cons nil" => (k_extra "my_for")
  k_with "exec For Tuple Call cons nil" => (k_extra "my_for")
  k_with "exec For Tuple BinOp cons nil" => (k_extra "my_for")
  k_with "exec For Tuple Tuple cons nil" => (k_extra "my_for")
  k_with "exec While Compare cons nil" => ((refine stop_intro ?_))
  k_with "exec While BoolOp cons nil" => ((refine stop_intro ?_))
  k_with "my_sub" => (first | exact List.forall_mem_nil _ | (refine' List.forall_mem_cons.mpr ⟨by k_mem, ?_⟩; k_extra "my_sub") | k_extra "my_own")
  k_with "my_own" => ((intro _ _; k_extra "my_mem"))
  k_with "my_mem" => (first | assumption | (refine' List.mem_append_left _ ?_; k_extra "my_mem") | (refine' List.mem_append_right _ ?_; k_extra "my_mem") | (refine' List.Mem.tail _ ?_; k_extra "my_mem"))
  k_with "my_size" => (first | exact Nat.le_trans (by with_reducible assumption) (Nat.le_of_ble_eq_true rfl) | omega | (simp only [KBw.ints_length, List.length_append, List.length_take, List.length_drop, List.length_cons, List.length_nil, Array.size_append] at *; omega))
  k_with "my_part" => (first | exact IsPart.none | exact IsPart.int _ _)
  k_with "eval Constant bytes" => ((refine cb_const ?_; intro _ _))
  k_with "call builtin:len" => (((with_reducible show wpAny _ _ (call (Value.builtin "len") [Value.bytes _ _]) _ _ _); refine cb_len (by k_extra "my_size") ?_; intro _ _))
  k_with "binaryOp Add bytes bytes" => ((refine cb_add (by k_extra "my_size") ?_; intro _ _ _ _ _))
  k_with "compareOp Eq bytes bytes" => ((refine cb_eq ?_))
  k_with "compareOp NotEq bytes bytes" => ((refine cb_ne ?_))
  k_with "truthy bytes" => ((refine cb_truthy (by k_extra "my_size") ?_; intro _))
  k_with "binaryOp Mult bytes int" => ((refine cb_mul (by omega) (by omega) (by omega) (by omega) ?_; intro _ _ _ _))
  k_with "call type:bytes" => (((with_reducible show wpAny _ _ (call (Value.type "bytes") [Value.ref _]) _ _ _); k_dflt (refine' cb_make ?zk36F ?zk36N rfl ?zk36l ?zk36i ?zk36r ?zk36n ?_; (case zk36F => assumption); (case zk36N => assumption); (case zk36l => first | exact News.isList (by assumption) (by k_mem) | assumption); (case zk36i => k_extra "my_ints"); (case zk36r => k_extra "my_range"); (case zk36n => k_extra "my_size")); intro _ _ _ _ _ _ _ _))
  k_with "my_ints" => (first | with_reducible assumption | exact IntsAre.nil | (refine' IntsAre.cons _ _ ?zk37c; (case zk37c => k_extra "my_ints")) | (with_reducible refine' IntsAre.append (by k_extra "my_ints") (by k_extra "my_ints")) | assumption)
  k_with "my_range" => (first | with_reducible assumption | exact List.forall_mem_nil _ | ((with_reducible refine' List.forall_mem_append.mpr ⟨?_, ?_⟩) <;> k_extra "my_range") | ((refine' List.forall_mem_cons.mpr ⟨⟨?_, ?_⟩, ?_⟩) <;> (first | omega | k_extra "my_range")))
  k_with "subscriptTail" => (((with_reducible show wpAny _ _ (subscriptTail _ _ (Value.bytes _ _) (Value.int _ _)) _ _ _); k_dflt (refine cb_item (by k_extra "my_size") (by omega) (by omega) ?_); intro _ _ _ _))
  k_with "subscriptTail" => (((with_reducible show wpAny _ _ (subscriptTail _ (Expr.Slice _ _ none _) (Value.bytes _ _) (Value.ref _)) _ _ _); k_dflt (refine' cb_slice ?zk40F ?zk40N ?zk40a ?zk40b ?zk40z ?_; (case zk40F => assumption); (case zk40N => assumption); (case zk40a => k_extra "my_part"); (case zk40b => k_extra "my_part"); (case zk40z => k_extra "my_size")); intro _ _ _ _ _ _ hC _; (first | rw [cut_nn (by omega) (by omega)] at hC | rw [cut_0n (by omega)] at hC | rw [cut_neg (by omega)] at hC); (have hN := congrArg List.length hC); (simp only [KBw.ints_length, List.length_take, List.length_drop] at hN)))
  k_with "call type:list" => (((with_reducible show wpAny _ _ (call (Value.type "list") [Value.bytes _ _]) _ _ _); k_dflt (refine' cl_bytes ?zk41F ?zk41N rfl ?zk41z ?_; (case zk41F => assumption); (case zk41N => assumption); (case zk41z => k_extra "my_size")); intro _ _ _ _ _ l1 _ _ _ _; (try k_lt l1)))
  k_with "call builtin:list.extend" => (((with_reducible show wpAny _ _ (call (Value.builtin _) [Value.ref _, Value.ref _]) _ _ _); k_dflt (refine' cl_extend ?zk42F ?zk42N ?zk42U ?zk42b ?zk42z ?_; (case zk42F => assumption); (case zk42N => assumption); (case zk42U => k_updF); (case zk42b => k_mem); (case zk42z => k_extra "my_lens")); intro _ _ _ _ N'; (try dsimp only at N')))
  k_with "my_lens" => (first | exact Nat.le_trans (by with_reducible assumption) (Nat.le_of_ble_eq_true rfl) | exact Nat.le_trans (Nat.add_le_add_right (by with_reducible assumption) _) (Nat.le_of_ble_eq_true rfl) | exact Nat.le_trans (Nat.add_le_add (by with_reducible assumption) (Nat.add_le_add_right (by with_reducible assumption) _)) (Nat.le_of_ble_eq_true rfl) | exact Nat.le_trans (Nat.add_le_add_right (Nat.add_le_add (by with_reducible assumption) (by with_reducible assumption)) _) (Nat.le_of_ble_eq_true rfl) | exact Nat.le_trans (Nat.add_le_add (by with_reducible assumption) (by with_reducible assumption)) (Nat.le_of_ble_eq_true rfl) | omega | (simp only [List.flatten_replicate_singleton, List.length_replicate]; omega) | ((repeat rw [IntsAre.length (by with_reducible assumption)]); k_extra "my_size"))
  k_with "exec Raise some none" => ((exfalso; omega))
  k_with "my_isl" => (first | exact News.isList (by assumption) (by k_mem) | assumption | exact Heap.IsList.at (by with_reducible assumption) fun o e => Fr.keep (by assumption) _ o e)
  k_with "call builtin:len" => (((with_reducible show wpAny _ _ (call (Value.builtin "len") [Value.ref _]) _ _ _); k_dflt (refine' cl_len ?zk46l ?zk46z ?_; (case zk46l => k_extra "my_isl"); (case zk46z => k_extra "my_lens")); intro _ _; (try simp only [List.length_append, List.length_cons, List.length_nil])))
  k_with "binaryOp Add ref ref" => (((with_reducible show wpAny _ _ (binaryOp Operator.Add (Value.ref _) (Value.ref _)) _ _ _); k_dflt (refine' cl_add ?zk47F ?zk47N ?zk47l ?zk47b ?zk47i ?zk47j ?zk47z ?_; (case zk47F => assumption); (case zk47N => assumption); (case zk47l => k_extra "my_isl"); (case zk47b => k_extra "my_isl"); (case zk47i => k_extra "my_ints"); (case zk47j => k_extra "my_ints"); (case zk47z => k_extra "my_lens")); intro _ _ _ _ _ l1 _ _ _ _; (try k_lt l1)))
  k_with "call builtin:list.append" => (((with_reducible show wpAny _ _ (call (Value.builtin _) [Value.ref _, _]) _ _ _); k_dflt (refine' cl_append ?zk48F ?zk48N ?zk48U ?zk48z ?_; (case zk48F => assumption); (case zk48N => assumption); (case zk48U => k_updF); (case zk48z => k_extra "my_lens")); intro _ _ _ N'; (try dsimp only at N')))
  k_with "subscriptTail Name Slice ref ref" => (((with_reducible show wpAny _ _ (subscriptTail _ (Expr.Slice none (some _) none _) (Value.ref _) (Value.ref _)) _ _ _); k_dflt (refine' cl_upto ?zk49F ?zk49N ?zk49l ?zk49i ?zk49a ?zk49z ?_; (case zk49F => assumption); (case zk49N => assumption); (case zk49l => k_extra "my_isl"); (case zk49i => k_extra "my_ints"); (case zk49a => omega); (case zk49z => k_extra "my_lens")); intro _ _ _ _ _ l1 _ _ _ _; (try k_lt l1)))
  k_with "execs cons" => ((k_here; first | k_fold | (k_made; walk_at "execs cons") | k_gentoks | (with_reducible refine execs_one ?_) | ((with_reducible refine wpAny_execs_cons ?_); (try dsimp only); k_fold)))
  k_with "spliced" => ((k_here; first | (refine args_last ?_; (try dsimp only [List.cons_append, List.nil_append])) | refine args_cons ?_ | (refine args_nil ?_; (try dsimp only [List.cons_append, List.nil_append]))))
  k_with "storeName" => ((k_here; k_dflt (refine' storeM ?zk52F ?zk52N ?_ ?zk52a ?zk52b; (case zk52F => k_asm); (case zk52N => k_asm); (case zk52a => rfl); (case zk52b => rfl); k_whole; intro _ _ _ _; (try k_sweep))))
  trivial
abbrev penObj (cells : Addr) (spot great salt : Int) (t1 t2 t3 : Tok) (c : Nat) : Obj := listOf #[.ref cells, .int spot t1, .int great t2, .int salt t3] c
structure PenIn (n : Nat) (spot great salt : Int) : Prop where
  h1 : 0 ≤ spot
  h2 : spot ≤ n
  h3 : 0 ≤ great
  h4 : 0 ≤ salt
  h5 : salt < 1009
theorem PenIn.mono {n n' : Nat} {spot great salt : Int} (h : PenIn n spot great salt) (hn : n ≤ n') : PenIn n' spot great salt := ⟨h.h1, by have := h.h2; omega, h.h3, h.h4, h.h5⟩
inductive PenOk (h : Heap) (pen cells : Addr) (n : Nat) : Prop
  | mk (spot great salt : Int) (t1 t2 t3 : Tok) (c : Nat) : h.get? pen = some (penObj cells spot great salt t1 t2 t3 c) → PenIn n spot great salt → PenOk h pen cells n
inductive IntBelow (many : Int) (r : Value) : Prop
  | mk (k : Int) (t : Tok) : r = .int k t → 0 ≤ k → k < many → IntBelow many r

set_option maxHeartbeats 8000000 in
theorem draw_ok {w mean mg mb} {h₀ : Heap} {s : Shared} {dp un : Nat} {fr : Option (List Env)} {gd : Option (List Code)} (G : Gd w mean mg mb h₀) (st : h₀.StaysIn s.heap) (hdp : dp < recursionLimit) 
    (pen cells : Addr) (n : Nat) (hn : n < 1000) (hp : PenOk s.heap pen cells n) (hpf : h₀.get? pen = none) (vs : List Value) (ns : List Int) (hc : s.heap.IsList cells vs.toArray) (hi : IntsAre vs ns) (hlen : ns.length ≤ 63)
    (many : Int) (t : Tok) (hm : 1 ≤ many) (hm2 : many ≤ 256) :
    wpAny (model PySem.Challenge.pw_og0155_01 w) (Rm dp un fr gd) (call (.ref 157) [.ref pen, .int many t]) (Ok s [pen] (fun r h' => IntBelow many r ∧ PenOk h' pen cells (n + 1))) (fun _ _ => False) s := by
  obtain ⟨spot, great, salt, t1, t2, t3, c, hp, ⟨h1, h2, h3, h4, h5⟩⟩ := hp
  refine' enter (binds := [(Str.ofString "pen", .ref pen), (Str.ofString "many", .int many t)]) (news := [(pen, penObj cells spot great salt t1 t2 t3 c)]) G st ?hnews hdp ?ho ?hcd ?hbind ?hloc ?h ?hco ?hgen ?hk ?hcell
  k_extra "my_in"
  case hnews => exact List.forall_mem_cons.mpr ⟨⟨hp, hpf⟩, fun _ q => nomatch q⟩
  intro g' L' h' ⟨X', T'⟩ hg' F' N' ev Ak
  have hcg : g'.IsList cells vs.toArray := by
    obtain ⟨ob, hob, r⟩ := hc
    refine ⟨ob, hg' cells ob (fun q => ?_) hob, r⟩
    rw [List.mem_singleton.mp q, hp] at hob
    cases hob
    obtain ⟨_, n', hd⟩ := r
    cases hi with
    | nil => cases hd
    | cons _ _ _ => cases hd
  clear hc hp
  (try k_fold)
  k_steps
  all_goals (
    (try dsimp only)
    refine fin_ret (by assumption) ⟨⟨_, _, rfl, by assumption, by assumption⟩, _, _, _, _, _, _, _, News.get (by assumption) (List.Mem.head _), ⟨?_, ?_, ?_, h4, h5⟩⟩)
  all_goals first
    | omega
    | (refine Int.ediv_nonneg ?_ (by omega); first | omega | (generalize (if ns.getD spot.toNat 0 < 0 then -ns.getD spot.toNat 0 else ns.getD spot.toNat 0) = X at *; generalize (10 : Int) ^ Int.toNat 18 = T at *; omega))

theorem updF_ins {d : Addr} {o : Obj} {news : List (Addr × Obj)} {u : Obj → List (Addr × Obj)} (U : UpdF d o news u) : (d, o) ∈ news := by
  obtain ⟨pre, post, rfl, _, _, _⟩ := U.split
  exact List.mem_append_right _ (.head _)
theorem news_updF {g h h' : Heap} {L d : Addr} {o o' : Obj} {news : List (Addr × Obj)} {u : Obj → List (Addr × Obj)} (N : News g L h news) (U : UpdF d o news u) (k : KeepsX [d] h h') (ho : h'.get? d = some o') : News g L h' (u o') := by
  obtain ⟨pre, post, rfl, hu, h1, h2⟩ := U.split
  have hd := N (d, o) (List.mem_append_right _ (.head _))
  intro p hp
  rw [hu] at hp
  rcases List.mem_append.mp hp with q | q
  · have P := N p (List.mem_append_left _ q)
    exact ⟨k _ _ (fun z => h1 p q (List.mem_singleton.mp z)) P.1, P.2⟩
  · rcases List.mem_cons.mp q with rfl | q
    · exact ⟨ho, hd.2⟩
    · have P := N p (List.mem_append_right _ (.tail _ q))
      exact ⟨k _ _ (fun z => h2 p q (List.mem_singleton.mp z)) P.1, P.2⟩

/-- a draw within a frame -/
theorem use_draw {w mean mg mb} {g : Heap} {s : Shared} {dp un : Nat} {fr : Option (List Env)} {gd : Option (List Code)} {L : Addr} {m : Str → Option Value} {news : List (Addr × Obj)} {u : Obj → List (Addr × Obj)} {pen cells : Addr} {n c : Nat} {spot great salt : Int} {t1 t2 t3 : Tok} {vs : List Value} {ns : List Int} {many : Int} {t : Tok} {Q E : Value → Shared → Prop}
    (G : Gd w mean mg mb g) (F : Fr g L s.heap m) (N : News g L s.heap news) (U : UpdF pen (penObj cells spot great salt t1 t2 t3 c) news u) (B : PenIn n spot great salt) (hc : g.IsList cells vs.toArray) (hi : IntsAre vs ns) (hlen : ns.length ≤ 63)
    (hdp : dp < recursionLimit) (hn : n < 1000) (hm : 1 ≤ many) (hm2 : many ≤ 256)
    (h : ∀ k t h' tk' spot' great' salt' t1' t2' t3' c', 0 ≤ k → k < many → PenIn (n + 1) spot' great' salt' → Fr g L h' m → News g L h' (u (penObj cells spot' great' salt' t1' t2' t3' c')) → Q (.int k t) { s with heap := h', toks := tk' }) :
    wpAny (model PySem.Challenge.pw_og0155_01 w) (Rm dp un fr gd) (call (.ref 157) [.ref pen, .int many t]) Q E s := by
  have hpn := N _ (updF_ins U)
  obtain ⟨oc, hoc, r⟩ := hc
  refine use_ok (draw_ok G F.keep hdp pen cells n hn ⟨_, _, _, _, _, _, _, hpn.1, B⟩ hpn.2.2 vs ns ⟨oc, F.keep _ _ hoc, r⟩ hi hlen many t hm hm2) ?_
  rintro r h' tk' k ⟨⟨k1, t', rfl, a, b⟩, spot', great', salt', t1', t2', t3', c', ho, B'⟩
  exact h k1 t' h' tk' _ _ _ _ _ _ _ a b B' (fr_kx F k (fun q => hpn.2.1 (List.mem_singleton.mp q).symm) fun a q => by rw [List.mem_singleton.mp q]; exact hpn.2.2) (news_updF N U k ho)
theorem set_Octets : True := by
  k_with_none
  k_with "my_in" => ((w_top off; (case ho => k_dflt k_is); (case hcd => k_dflt k_is); (case hbind => k_dflt (first | exact BindsTo.of_eq rfl | exact binds_K (K := hd.heap_39 _) (Frag.In.keeps (Gd.X (by assumption)) (by assumption)) rfl (by k_dflt k_is) rfl rfl rfl)); (case hloc => exact locs rfl); (case hco => exact rfl); (case hgen => exact rfl); (case hk => exact rfl); (case hcell => decide)))
  k_with "my_look" => (first | with_reducible assumption | exact rfl | (refine' lk_eq ?zk2r; (case zk2r => k_extra "my_look")) | (refine' lk_ne ?zk2n ?zk2r; (case zk2n => decide); (case zk2r => k_extra "my_look")))
  k_with "eval Name" => ((k_here; (with_reducible show wpAny _ _ (eval (PySem.Expr.Name _ _) (envOf _ _ _ _ _)) _ _ _); k_dflt (refine ld (by assumption) (by k_extra "my_look") ?_)))
  k_with "eval Constant int" => ((refine c_const ?_; intro _ _))
  k_with "binaryOp Add int int" => ((refine c_add ?_; intro _ _))
  k_with "binaryOp Sub int int" => ((refine c_sub ?_; intro _ _))
  k_with "binaryOp Mult int int" => ((refine c_mul (by mul_fits) ?_; intro _ _))
  k_with "binaryOp Mod int int" => ((refine c_mod (by omega) ?_; intro _ _ _ _))
  k_with "binaryOp FloorDiv int int" => ((refine c_div (by omega) (by omega) ?_; intro _ _))
  k_with "unaryOp USub int" => ((refine c_neg ?_; intro _ _))
  k_with "binaryOp Pow int int" => ((refine c_pow (by decide) (by decide) (by decide) ?_; intro _ _))
  k_with "my_for" => ((k_dflt (refine for_go (by assumption) ?_ (by intro _; rfl) PassesOwn.never)))
  k_with "my_room" => (first | assumption | ((try dsimp only [Rm]); omega))
  k_with "exec For Name Name cons nil" => (k_extra "my_for")
  k_with "exec For Name Call cons nil" => (k_extra "my_for")
  k_with "exec For Name BinOp cons nil" => (k_extra "my_for")
  k_with "exec For Name Tuple cons nil" => (k_extra "my_for")
  k_with "exec For Tuple Name cons nil" => (k_extra "my_for")
  k_with "exec For Tuple Call cons nil" => (k_extra "my_for")
  k_with "exec For Tuple BinOp cons nil" => (k_extra "my_for")
  k_with "exec For Tuple Tuple cons nil" => (k_extra "my_for")
  k_with "exec While Compare cons nil" => ((refine stop_intro ?_))
  k_with "exec While BoolOp cons nil" => ((refine stop_intro ?_))
  k_with "my_sub" => (first | exact List.forall_mem_nil _ | (refine' List.forall_mem_cons.mpr ⟨by k_mem, ?_⟩; k_extra "my_sub") | k_extra "my_own")
  k_with "my_own" => ((intro _ _; k_extra "my_mem"))
  k_with "my_mem" => (first | assumption | (refine' List.mem_append_left _ ?_; k_extra "my_mem") | (refine' List.mem_append_right _ ?_; k_extra "my_mem") | (refine' List.Mem.tail _ ?_; k_extra "my_mem"))
  k_with "my_size" => (first | exact Nat.le_trans (by with_reducible assumption) (Nat.le_of_ble_eq_true rfl) | omega | (simp only [KBw.ints_length, List.length_append, List.length_take, List.length_drop, List.length_cons, List.length_nil, Array.size_append] at *; omega))
  k_with "my_part" => (first | exact IsPart.none | exact IsPart.int _ _)
  k_with "eval Constant bytes" => ((refine cb_const ?_; intro _ _))
  k_with "call builtin:len" => (((with_reducible show wpAny _ _ (call (Value.builtin "len") [Value.bytes _ _]) _ _ _); refine cb_len (by k_extra "my_size") ?_; intro _ _))
  k_with "binaryOp Add bytes bytes" => ((refine cb_add (by k_extra "my_size") ?_; intro _ _ _ _ _))
  k_with "compareOp Eq bytes bytes" => ((refine cb_eq ?_))
  k_with "compareOp NotEq bytes bytes" => ((refine cb_ne ?_))
  k_with "truthy bytes" => ((refine cb_truthy (by k_extra "my_size") ?_; intro _))
  k_with "binaryOp Mult bytes int" => ((refine cb_mul (by omega) (by omega) (by omega) (by omega) ?_; intro _ _ _ _))
  k_with "call type:bytes" => (((with_reducible show wpAny _ _ (call (Value.type "bytes") [Value.ref _]) _ _ _); k_dflt (refine' cb_make ?zk36F ?zk36N rfl ?zk36l ?zk36i ?zk36r ?zk36n ?_; (case zk36F => assumption); (case zk36N => assumption); (case zk36l => first | exact News.isList (by assumption) (by k_mem) | assumption); (case zk36i => k_extra "my_ints"); (case zk36r => k_extra "my_range"); (case zk36n => k_extra "my_size")); intro _ _ _ _ _ _ _ _))
  k_with "my_ints" => (first | with_reducible assumption | exact IntsAre.nil | (refine' IntsAre.cons _ _ ?zk37c; (case zk37c => k_extra "my_ints")) | (with_reducible refine' IntsAre.append (by k_extra "my_ints") (by k_extra "my_ints")) | assumption)
  k_with "my_range" => (first | with_reducible assumption | exact List.forall_mem_nil _ | ((with_reducible refine' List.forall_mem_append.mpr ⟨?_, ?_⟩) <;> k_extra "my_range") | ((refine' List.forall_mem_cons.mpr ⟨⟨?_, ?_⟩, ?_⟩) <;> (first | omega | k_extra "my_range")))
  k_with "subscriptTail" => (((with_reducible show wpAny _ _ (subscriptTail _ _ (Value.bytes _ _) (Value.int _ _)) _ _ _); k_dflt (refine cb_item (by k_extra "my_size") (by omega) (by omega) ?_); intro _ _ _ _))
  k_with "subscriptTail" => (((with_reducible show wpAny _ _ (subscriptTail _ (Expr.Slice _ _ none _) (Value.bytes _ _) (Value.ref _)) _ _ _); k_dflt (refine' cb_slice ?zk40F ?zk40N ?zk40a ?zk40b ?zk40z ?_; (case zk40F => assumption); (case zk40N => assumption); (case zk40a => k_extra "my_part"); (case zk40b => k_extra "my_part"); (case zk40z => k_extra "my_size")); intro _ _ _ _ _ _ hC _; (first | rw [cut_nn (by omega) (by omega)] at hC | rw [cut_0n (by omega)] at hC | rw [cut_neg (by omega)] at hC); (have hN := congrArg List.length hC); (simp only [KBw.ints_length, List.length_take, List.length_drop] at hN)))
  k_with "call type:list" => (((with_reducible show wpAny _ _ (call (Value.type "list") [Value.bytes _ _]) _ _ _); k_dflt (refine' cl_bytes ?zk41F ?zk41N rfl ?zk41z ?_; (case zk41F => assumption); (case zk41N => assumption); (case zk41z => k_extra "my_size")); intro _ _ _ _ _ l1 _ _ _ _; (try k_lt l1)))
  k_with "call builtin:list.extend" => (((with_reducible show wpAny _ _ (call (Value.builtin _) [Value.ref _, Value.ref _]) _ _ _); k_dflt (refine' cl_extend ?zk42F ?zk42N ?zk42U ?zk42b ?zk42z ?_; (case zk42F => assumption); (case zk42N => assumption); (case zk42U => k_updF); (case zk42b => k_mem); (case zk42z => k_extra "my_lens")); intro _ _ _ _ N'; (try dsimp only at N')))
  k_with "my_lens" => (first | exact Nat.le_trans (by with_reducible assumption) (Nat.le_of_ble_eq_true rfl) | exact Nat.le_trans (Nat.add_le_add_right (by with_reducible assumption) _) (Nat.le_of_ble_eq_true rfl) | exact Nat.le_trans (Nat.add_le_add (by with_reducible assumption) (Nat.add_le_add_right (by with_reducible assumption) _)) (Nat.le_of_ble_eq_true rfl) | exact Nat.le_trans (Nat.add_le_add_right (Nat.add_le_add (by with_reducible assumption) (by with_reducible assumption)) _) (Nat.le_of_ble_eq_true rfl) | exact Nat.le_trans (Nat.add_le_add (by with_reducible assumption) (by with_reducible assumption)) (Nat.le_of_ble_eq_true rfl) | omega | (simp only [List.flatten_replicate_singleton, List.length_replicate]; omega) | ((repeat rw [IntsAre.length (by with_reducible assumption)]); k_extra "my_size"))
  k_with "exec Raise some none" => ((exfalso; omega))
  k_with "my_isl" => (first | exact News.isList (by assumption) (by k_mem) | assumption | exact Heap.IsList.at (by with_reducible assumption) fun o e => Fr.keep (by assumption) _ o e)
  k_with "call builtin:len" => (((with_reducible show wpAny _ _ (call (Value.builtin "len") [Value.ref _]) _ _ _); k_dflt (refine' cl_len ?zk46l ?zk46z ?_; (case zk46l => k_extra "my_isl"); (case zk46z => k_extra "my_lens")); intro _ _; (try simp only [List.length_append, List.length_cons, List.length_nil])))
  k_with "binaryOp Add ref ref" => (((with_reducible show wpAny _ _ (binaryOp Operator.Add (Value.ref _) (Value.ref _)) _ _ _); k_dflt (refine' cl_add ?zk47F ?zk47N ?zk47l ?zk47b ?zk47i ?zk47j ?zk47z ?_; (case zk47F => assumption); (case zk47N => assumption); (case zk47l => k_extra "my_isl"); (case zk47b => k_extra "my_isl"); (case zk47i => k_extra "my_ints"); (case zk47j => k_extra "my_ints"); (case zk47z => k_extra "my_lens")); intro _ _ _ _ _ l1 _ _ _ _; (try k_lt l1)))
  k_with "call builtin:list.append" => (((with_reducible show wpAny _ _ (call (Value.builtin _) [Value.ref _, _]) _ _ _); k_dflt (refine' cl_append ?zk48F ?zk48N ?zk48U ?zk48z ?_; (case zk48F => assumption); (case zk48N => assumption); (case zk48U => k_updF); (case zk48z => k_extra "my_lens")); intro _ _ _ N'; (try dsimp only at N')))
  k_with "subscriptTail Name Slice ref ref" => (((with_reducible show wpAny _ _ (subscriptTail _ (Expr.Slice none (some _) none _) (Value.ref _) (Value.ref _)) _ _ _); k_dflt (refine' cl_upto ?zk49F ?zk49N ?zk49l ?zk49i ?zk49a ?zk49z ?_; (case zk49F => assumption); (case zk49N => assumption); (case zk49l => k_extra "my_isl"); (case zk49i => k_extra "my_ints"); (case zk49a => omega); (case zk49z => k_extra "my_lens")); intro _ _ _ _ _ l1 _ _ _ _; (try k_lt l1)))
  k_with "execs cons" => ((k_here; first | k_fold | (k_made; walk_at "execs cons") | k_gentoks | (with_reducible refine execs_one ?_) | ((with_reducible refine wpAny_execs_cons ?_); (try dsimp only); k_fold)))
  k_with "spliced" => ((k_here; first | (refine args_last ?_; (try dsimp only [List.cons_append, List.nil_append])) | refine args_cons ?_ | (refine args_nil ?_; (try dsimp only [List.cons_append, List.nil_append]))))
  k_with "storeName" => ((k_here; k_dflt (refine' storeM ?zk52F ?zk52N ?_ ?zk52a ?zk52b; (case zk52F => k_asm); (case zk52N => k_asm); (case zk52a => rfl); (case zk52b => rfl); k_whole; intro _ _ _ _; (try k_sweep))))
  k_with "call ref" => (((with_reducible show wpAny _ _ (call (Value.ref 157) _) _ _ _); k_dflt (refine' use_draw ?zk55G ?zk55F ?zk55N ?zk55U ?zk55B ?zk55c ?zk55i ?zk55l ?zk55d ?zk55n ?zk55a ?zk55b ?_; (case zk55G => assumption); (case zk55F => assumption); (case zk55N => assumption); (case zk55U => k_updF); (case zk55B => assumption); (case zk55c => assumption); (case zk55i => assumption); (case zk55l => assumption); (case zk55d => k_extra "my_room"); (case zk55n => first | exact Nat.lt_of_lt_of_le (by with_reducible assumption) (Nat.le_of_ble_eq_true rfl) | exact Nat.lt_of_lt_of_le (Nat.add_lt_add_right (by with_reducible assumption) 1) (Nat.le_of_ble_eq_true rfl) | omega); (case zk55a => omega); (case zk55b => omega)); intro _ _ _ _ _ _ _ _ _ _ _ _ _ _ _ N'; (try dsimp only at N')))
  trivial
inductive OctRes (r : Value) : Prop
  | mk (b : Array UInt8) (t : Tok) : r = .bytes b t → b.size ≤ 16 → OctRes r
inductive OctJ (l' pen cells : Addr) (n : Nat) : Nat → (Str → Option Value) → List (Addr × Obj) → Prop
  | mk (i : Nat) (m : Str → Option Value) (us : List Value) (xs : List Int) (c : Nat) (sp gr sa : Int) (v1 v2 v3 : Tok) (c2 q : Nat) : IntsAre us xs → xs.length = i → (∀ x ∈ xs, 0 ≤ x ∧ x < 256) → PenIn q sp gr sa → q ≤ n + 1 + 2 * i → m (Str.ofString "found") = some (.ref l') → m (Str.ofString "pen") = some (.ref pen) →
      OctJ l' pen cells n i m [(l', listOf us.toArray c), (pen, penObj cells sp gr sa v1 v2 v3 c2)]
theorem in_snoc {xs : List Int} {k : Int} (h : ∀ x ∈ xs, 0 ≤ x ∧ x < 256) (h0 : 0 ≤ k) (h1 : k < 256) : ∀ x ∈ xs ++ [k], 0 ≤ x ∧ x < 256 := by
  intro x hx
  rcases List.mem_append.mp hx with h9 | h9
  · exact h x h9
  · rw [List.mem_singleton.mp h9]; exact ⟨h0, h1⟩
theorem in_menu {xs : List Int} {j : Nat} (h : ∀ x ∈ xs, 0 ≤ x ∧ x < 256) : 0 ≤ (xs ++ [255]).getD j 0 ∧ (xs ++ [255]).getD j 0 < 256 := KBw.getD_in (in_snoc h (by decide) (by decide))
set_option maxHeartbeats 8000000 in
theorem octets_ok {w mean mg mb} {h₀ : Heap} {s : Shared} {dp un : Nat} {fr : Option (List Env)} {gd : Option (List Code)} (G : Gd w mean mg mb h₀) (st : h₀.StaysIn s.heap) (hdp : dp + 1 < recursionLimit) 
    (pen cells : Addr) (n : Nat) (hn : n + 40 < 1000) (hp : PenOk s.heap pen cells n) (hpf : h₀.get? pen = none) (vs : List Value) (ns : List Int) (hc : s.heap.IsList cells vs.toArray) (hi : IntsAre vs ns) (hlen : ns.length ≤ 63)
    (most : Int) (t : Tok) (hm : 0 ≤ most) (hm2 : most ≤ 16) :
    wpAny (model PySem.Challenge.pw_og0155_01 w) (Rm dp un fr gd) (call (.ref 171) [.ref pen, .int most t]) (Ok s [pen] (fun r h' => OctRes r ∧ PenOk h' pen cells (n + 33))) (fun _ _ => False) s := by
  obtain ⟨spot, great, salt, t1, t2, t3, c, hp, B0⟩ := hp
  refine' enter (binds := [(Str.ofString "pen", .ref pen), (Str.ofString "most", .int most t)]) (news := [(pen, penObj cells spot great salt t1 t2 t3 c)]) G st ?hnews (Nat.lt_of_succ_lt hdp) ?ho ?hcd ?hbind ?hloc ?h ?hco ?hgen ?hk ?hcell
  k_extra "my_in"
  case hnews => exact List.forall_mem_cons.mpr ⟨⟨hp, hpf⟩, fun _ q => nomatch q⟩
  intro g' L' h' G' hg' F' N' ev Ak
  have hcg : g'.IsList cells vs.toArray := by
    obtain ⟨ob, hob, r⟩ := hc
    refine ⟨ob, hg' cells ob (fun q => ?_) hob, r⟩
    rw [List.mem_singleton.mp q, hp] at hob
    cases hob
    obtain ⟨_, n', hd⟩ := r
    cases hi with
    | nil => cases hd
    | cons _ _ _ => cases hd
  have X' := G'.X
  have T' := G'.T
  clear hc hp
  (try k_fold)
  k_steps
  rename_i l' _ hl' _ _ _ _ _ _ _ _ _ _ kk _ _ _ sp gr sa u1 u2 u3 cc lo' hi' B' F' N' _ _ _ _ _ _ hrg F1 N1 _
  unfold Stop
  refine for_range (n := (kk - 0).toNat) rfl hrg (small_one (by omega) (by omega) (by omega) (by omega)) (rangeSize_nat _ _) F1 N1
    (OctJ l' pen cells n)
    (OctJ.mk _ _ [] [] _ _ _ _ _ _ _ _ (n + 1) .nil rfl (fun _ h => nomatch h) B' (Nat.le_refl _) rfl rfl) ?turn ?done
  case turn =>
    rintro i tI m1 nx h1 tk1 own hi1 ha ⟨us, xs, c1, sp, gr, sa, v1, v2, v3, c2, qn, hus, hlen', hrng, Bp, hqn, hmf, hmp⟩ hoff F2 N2
    simp only [List.cons_append, List.nil_append, List.map_cons, List.map_nil] at N2 hoff
    have hi16 : i ≤ 16 := by omega
    have hxb : xs.length ≤ 16 := by rw [hlen']; exact hi16
    have hub : us.length ≤ 16 := by rw [hus.length]; exact hxb
    have hqb : qn < 998 := by omega
    clear F1 N1 hrg F' N'
    (try k_fold)
    k_steps
    all_goals (
      (rename News _ _ _ _ => nE)
      (try simp only [List.push_toArray] at nE)
      refine' tend_next (nx := [(l', listOf (us ++ [Value.int _ _]).toArray _), (pen, penObj cells _ _ _ _ _ _ _)]) (by assumption) nE ?sub ?own ?adr (OctJ.mk _ _ (us ++ [Value.int _ _]) (xs ++ [_]) _ _ _ _ _ _ _ _ _ (IntsAre.append hus (.cons _ _ .nil)) ?_ ?rg (by assumption) ?_ ?l1 ?l2)
      (case sub => k_extra "my_sub")
      (case own => k_extra "my_own")
      (case adr => rfl)
      (case l1 => k_extra "my_look")
      (case l2 => k_extra "my_look")
      (case rg => first
        | exact in_snoc hrng (by assumption) (by assumption)
        | exact in_snoc hrng (in_menu hrng).1 (in_menu hrng).2
        | exact in_snoc hrng (by decide) (by decide)))
    all_goals first
      | (rw [List.length_append, hlen']; rfl)
      | omega
  case done =>
    rintro m1 nx h1 tk1 ha ⟨us, xs, c1, sp, gr, sa, v1, v2, v3, c2, qn, hus, hlen', hrng, Bp, hqn, hmf, hmp⟩ F2 N2
    clear F1 N1 hrg F' N'
    (try dsimp only)
    (try k_fold)
    k_steps
    refine fin_ret (by assumption) ⟨⟨_, _, rfl, ?_⟩, _, _, _, _, _, _, _, News.get (by assumption) (List.Mem.tail _ (List.Mem.head _)), PenIn.mono Bp (by omega)⟩
    (rename Array.size _ = List.length _ => hS9)
    omega
theorem set_Runs : True := by
  k_with_none
  k_with "my_in" => ((w_top off; (case ho => k_dflt k_is); (case hcd => k_dflt k_is); (case hbind => k_dflt (first | exact BindsTo.of_eq rfl | exact binds_K (K := hd.heap_39 _) (Frag.In.keeps (Gd.X (by assumption)) (by assumption)) rfl (by k_dflt k_is) rfl rfl rfl)); (case hloc => exact locs rfl); (case hco => exact rfl); (case hgen => exact rfl); (case hk => exact rfl); (case hcell => decide)))
  k_with "my_look" => (first | with_reducible assumption | exact rfl | (refine' lk_eq ?zk2r; (case zk2r => k_extra "my_look")) | (refine' lk_ne ?zk2n ?zk2r; (case zk2n => decide); (case zk2r => k_extra "my_look")))
  k_with "eval Name" => ((k_here; (with_reducible show wpAny _ _ (eval (PySem.Expr.Name _ _) (envOf _ _ _ _ _)) _ _ _); k_dflt (refine ld (by assumption) (by k_extra "my_look") ?_)))
  k_with "eval Constant int" => ((refine c_const ?_; intro _ _))
  k_with "binaryOp Add int int" => ((refine c_add ?_; intro _ _))
  k_with "binaryOp Sub int int" => ((refine c_sub ?_; intro _ _))
  k_with "binaryOp Mult int int" => ((refine c_mul (by mul_fits) ?_; intro _ _))
  k_with "binaryOp Mod int int" => ((refine c_mod (by omega) ?_; intro _ _ _ _))
  k_with "binaryOp FloorDiv int int" => ((refine c_div (by omega) (by omega) ?_; intro _ _))
  k_with "unaryOp USub int" => ((refine c_neg ?_; intro _ _))
  k_with "binaryOp Pow int int" => ((refine c_pow (by decide) (by decide) (by decide) ?_; intro _ _))
  k_with "my_for" => ((k_dflt (refine for_go (by assumption) ?_ (by intro _; rfl) PassesOwn.never)))
  k_with "my_room" => (first | assumption | ((try dsimp only [Rm]); omega))
  k_with "exec For Name Name cons nil" => (k_extra "my_for")
  k_with "exec For Name Call cons nil" => (k_extra "my_for")
  k_with "exec For Name BinOp cons nil" => (k_extra "my_for")
  k_with "exec For Name Tuple cons nil" => (k_extra "my_for")
  k_with "exec For Tuple Name cons nil" => (k_extra "my_for")
  k_with "exec For Tuple Call cons nil" => (k_extra "my_for")
  k_with "exec For Tuple BinOp cons nil" => (k_extra "my_for")
  k_with "exec For Tuple Tuple cons nil" => (k_extra "my_for")
  k_with "exec While Compare cons nil" => ((refine stop_intro ?_))
  k_with "exec While BoolOp cons nil" => ((refine stop_intro ?_))
  k_with "my_sub" => (first | exact List.forall_mem_nil _ | (refine' List.forall_mem_cons.mpr ⟨by k_mem, ?_⟩; k_extra "my_sub") | k_extra "my_own")
  k_with "my_own" => ((intro _ _; k_extra "my_mem"))
  k_with "my_mem" => (first | assumption | (refine' List.mem_append_left _ ?_; k_extra "my_mem") | (refine' List.mem_append_right _ ?_; k_extra "my_mem") | (refine' List.Mem.tail _ ?_; k_extra "my_mem"))
  k_with "my_size" => (first | exact Nat.le_trans (by with_reducible assumption) (Nat.le_of_ble_eq_true rfl) | omega | (simp only [KBw.ints_length, List.length_append, List.length_take, List.length_drop, List.length_cons, List.length_nil, Array.size_append] at *; omega))
  k_with "my_part" => (first | exact IsPart.none | exact IsPart.int _ _)
  k_with "eval Constant bytes" => ((refine cb_const ?_; intro _ _))
  k_with "call builtin:len" => (((with_reducible show wpAny _ _ (call (Value.builtin "len") [Value.bytes _ _]) _ _ _); refine cb_len (by k_extra "my_size") ?_; intro _ _))
  k_with "binaryOp Add bytes bytes" => ((refine cb_add (by k_extra "my_size") ?_; intro _ _ _ _ _))
  k_with "compareOp Eq bytes bytes" => ((refine cb_eq ?_))
  k_with "compareOp NotEq bytes bytes" => ((refine cb_ne ?_))
  k_with "truthy bytes" => ((refine cb_truthy (by k_extra "my_size") ?_; intro _))
  k_with "binaryOp Mult bytes int" => ((refine cb_mul (by omega) (by omega) (by omega) (by omega) ?_; intro _ _ _ _))
  k_with "call type:bytes" => (((with_reducible show wpAny _ _ (call (Value.type "bytes") [Value.ref _]) _ _ _); k_dflt (refine' cb_make ?zk36F ?zk36N rfl ?zk36l ?zk36i ?zk36r ?zk36n ?_; (case zk36F => assumption); (case zk36N => assumption); (case zk36l => first | exact News.isList (by assumption) (by k_mem) | assumption); (case zk36i => k_extra "my_ints"); (case zk36r => k_extra "my_range"); (case zk36n => k_extra "my_size")); intro _ _ _ _ _ _ _ _))
  k_with "my_ints" => (first | with_reducible assumption | exact IntsAre.nil | (refine' IntsAre.cons _ _ ?zk37c; (case zk37c => k_extra "my_ints")) | (with_reducible refine' IntsAre.append (by k_extra "my_ints") (by k_extra "my_ints")) | assumption)
  k_with "my_range" => (first | with_reducible assumption | exact List.forall_mem_nil _ | ((with_reducible refine' List.forall_mem_append.mpr ⟨?_, ?_⟩) <;> k_extra "my_range") | ((refine' List.forall_mem_cons.mpr ⟨⟨?_, ?_⟩, ?_⟩) <;> (first | omega | k_extra "my_range")))
  k_with "subscriptTail" => (((with_reducible show wpAny _ _ (subscriptTail _ _ (Value.bytes _ _) (Value.int _ _)) _ _ _); k_dflt (refine cb_item (by k_extra "my_size") (by omega) (by omega) ?_); intro _ _ _ _))
  k_with "subscriptTail" => (((with_reducible show wpAny _ _ (subscriptTail _ (Expr.Slice _ _ none _) (Value.bytes _ _) (Value.ref _)) _ _ _); k_dflt (refine' cb_slice ?zk40F ?zk40N ?zk40a ?zk40b ?zk40z ?_; (case zk40F => assumption); (case zk40N => assumption); (case zk40a => k_extra "my_part"); (case zk40b => k_extra "my_part"); (case zk40z => k_extra "my_size")); intro _ _ _ _ _ _ hC _; (first | rw [cut_nn (by omega) (by omega)] at hC | rw [cut_0n (by omega)] at hC | rw [cut_neg (by omega)] at hC); (have hN := congrArg List.length hC); (simp only [KBw.ints_length, List.length_take, List.length_drop] at hN)))
  k_with "call type:list" => (((with_reducible show wpAny _ _ (call (Value.type "list") [Value.bytes _ _]) _ _ _); k_dflt (refine' cl_bytes ?zk41F ?zk41N rfl ?zk41z ?_; (case zk41F => assumption); (case zk41N => assumption); (case zk41z => k_extra "my_size")); intro _ _ _ _ _ l1 _ _ _ _; (try k_lt l1)))
  k_with "call builtin:list.extend" => (((with_reducible show wpAny _ _ (call (Value.builtin _) [Value.ref _, Value.ref _]) _ _ _); k_dflt (refine' cl_extend ?zk42F ?zk42N ?zk42U ?zk42b ?zk42z ?_; (case zk42F => assumption); (case zk42N => assumption); (case zk42U => k_updF); (case zk42b => k_mem); (case zk42z => k_extra "my_lens")); intro _ _ _ _ N'; (try dsimp only at N')))
  k_with "my_lens" => (first | exact Nat.le_trans (by with_reducible assumption) (Nat.le_of_ble_eq_true rfl) | exact Nat.le_trans (Nat.add_le_add_right (by with_reducible assumption) _) (Nat.le_of_ble_eq_true rfl) | exact Nat.le_trans (Nat.add_le_add (by with_reducible assumption) (Nat.add_le_add_right (by with_reducible assumption) _)) (Nat.le_of_ble_eq_true rfl) | exact Nat.le_trans (Nat.add_le_add_right (Nat.add_le_add (by with_reducible assumption) (by with_reducible assumption)) _) (Nat.le_of_ble_eq_true rfl) | exact Nat.le_trans (Nat.add_le_add (by with_reducible assumption) (by with_reducible assumption)) (Nat.le_of_ble_eq_true rfl) | omega | (simp only [List.flatten_replicate_singleton, List.length_replicate]; omega) | ((repeat rw [IntsAre.length (by with_reducible assumption)]); k_extra "my_size"))
  k_with "exec Raise some none" => ((exfalso; omega))
  k_with "my_isl" => (first | exact News.isList (by assumption) (by k_mem) | assumption | exact Heap.IsList.at (by with_reducible assumption) fun o e => Fr.keep (by assumption) _ o e)
  k_with "call builtin:len" => (((with_reducible show wpAny _ _ (call (Value.builtin "len") [Value.ref _]) _ _ _); k_dflt (refine' cl_len ?zk46l ?zk46z ?_; (case zk46l => k_extra "my_isl"); (case zk46z => k_extra "my_lens")); intro _ _; (try simp only [List.length_append, List.length_cons, List.length_nil])))
  k_with "binaryOp Add ref ref" => (((with_reducible show wpAny _ _ (binaryOp Operator.Add (Value.ref _) (Value.ref _)) _ _ _); k_dflt (refine' cl_add ?zk47F ?zk47N ?zk47l ?zk47b ?zk47i ?zk47j ?zk47z ?_; (case zk47F => assumption); (case zk47N => assumption); (case zk47l => k_extra "my_isl"); (case zk47b => k_extra "my_isl"); (case zk47i => k_extra "my_ints"); (case zk47j => k_extra "my_ints"); (case zk47z => k_extra "my_lens")); intro _ _ _ _ _ l1 _ _ _ _; (try k_lt l1)))
  k_with "call builtin:list.append" => (((with_reducible show wpAny _ _ (call (Value.builtin _) [Value.ref _, _]) _ _ _); k_dflt (refine' cl_append ?zk48F ?zk48N ?zk48U ?zk48z ?_; (case zk48F => assumption); (case zk48N => assumption); (case zk48U => k_updF); (case zk48z => k_extra "my_lens")); intro _ _ _ N'; (try dsimp only at N')))
  k_with "subscriptTail Name Slice ref ref" => (((with_reducible show wpAny _ _ (subscriptTail _ (Expr.Slice none (some _) none _) (Value.ref _) (Value.ref _)) _ _ _); k_dflt (refine' cl_upto ?zk49F ?zk49N ?zk49l ?zk49i ?zk49a ?zk49z ?_; (case zk49F => assumption); (case zk49N => assumption); (case zk49l => k_extra "my_isl"); (case zk49i => k_extra "my_ints"); (case zk49a => omega); (case zk49z => k_extra "my_lens")); intro _ _ _ _ _ l1 _ _ _ _; (try k_lt l1)))
  k_with "execs cons" => ((k_here; first | k_fold | (k_made; walk_at "execs cons") | k_gentoks | (with_reducible refine execs_one ?_) | ((with_reducible refine wpAny_execs_cons ?_); (try dsimp only); k_fold)))
  k_with "spliced" => ((k_here; first | (refine args_last ?_; (try dsimp only [List.cons_append, List.nil_append])) | refine args_cons ?_ | (refine args_nil ?_; (try dsimp only [List.cons_append, List.nil_append]))))
  k_with "storeName" => ((k_here; k_dflt (refine' storeM ?zk52F ?zk52N ?_ ?zk52a ?zk52b; (case zk52F => k_asm); (case zk52N => k_asm); (case zk52a => rfl); (case zk52b => rfl); k_whole; intro _ _ _ _; (try k_sweep))))
  k_with "call ref" => (((with_reducible show wpAny _ _ (call (Value.ref 157) _) _ _ _); k_dflt (refine' use_draw ?zk56G ?zk56F ?zk56N ?zk56U ?zk56B ?zk56c ?zk56i ?zk56l ?zk56d ?zk56n ?zk56a ?zk56b ?_; (case zk56G => assumption); (case zk56F => assumption); (case zk56N => assumption); (case zk56U => k_updF); (case zk56B => assumption); (case zk56c => assumption); (case zk56i => assumption); (case zk56l => assumption); (case zk56d => k_extra "my_room"); (case zk56n => first | exact Nat.lt_of_lt_of_le (by with_reducible assumption) (Nat.le_of_ble_eq_true rfl) | exact Nat.lt_of_lt_of_le (Nat.add_lt_add_right (by with_reducible assumption) 1) (Nat.le_of_ble_eq_true rfl) | omega); (case zk56a => omega); (case zk56b => omega)); intro _ _ _ _ _ _ _ _ _ _ _ _ _ _ _ N'; (try dsimp only at N')))
  k_with "subscriptTail" => (((with_reducible show wpAny _ _ (subscriptTail _ (Expr.Slice _ _ none _) (Value.bytes _ _) (Value.ref _)) _ _ _); k_dflt (refine' cb_slice ?zk57F ?zk57N ?zk57a ?zk57b ?zk57z ?_; (case zk57F => assumption); (case zk57N => assumption); (case zk57a => k_extra "my_part"); (case zk57b => k_extra "my_part"); (case zk57z => omega)); intro _ _ _ _ _ _ hC _; (first | (rw [cut_nn (by omega) (by omega)] at hC; (have hP := cut_pos hC (by assumption) (by omega) (by omega)); (replace hP := And.intro hP.1 hP.2)) | (rw [cut_0n (by omega)] at hC; (have hP := cut_one hC (by omega))))))
  k_with "exec If" => ((refine stop_intro ?_))
  trivial
/-- blocks of runs and what they hold -/
inductive Blocks : List Int → List Int → Prop where
  | nil : Blocks [] []
  | row (n : Int) (row rest out : List Int) : 0 ≤ n → n < 128 → (row.length : Int) = n + 1 → Blocks rest out → Blocks (n :: (row ++ rest)) (row ++ out)
  | run (c x : Int) (rest out : List Int) : 128 < c → c < 256 → Blocks rest out → Blocks (c :: x :: rest) (List.replicate (257 - c).toNat x ++ out)
theorem Blocks.append {a x b y : List Int} (h : Blocks a x) (h2 : Blocks b y) : Blocks (a ++ b) (x ++ y) := by
  induction h with
  | nil => exact h2
  | row n row rest out h0 h1 h3 _ ih =>
    have := Blocks.row n row _ _ h0 h1 h3 ih
    simpa [List.append_assoc] using this
  | run c x rest out h0 h1 _ ih =>
    have := Blocks.run c x _ _ h0 h1 ih
    simpa [List.append_assoc] using this
theorem Blocks.run1 {cb ks part : List Int} {a sz : Nat} {c : Int} (h : Blocks cb (ks.take a)) (hp : part = (ks.drop a).take sz) (he : part = (List.replicate part.length (part.take 1)).flatten) (h1 : 1 < part.length) (h2 : part.length ≤ 100) (hc : c = 257 - (part.length : Int)) :
    Blocks ((cb ++ [c]) ++ part.take 1) (ks.take (a + sz)) := by
  obtain ⟨x, r, rfl⟩ : ∃ x r, part = x :: r := by
    cases part with
    | nil => simp at h1
    | cons x r => exact ⟨x, r, rfl⟩
  have e : x :: r = List.replicate (x :: r).length x := by
    rw [he]
    simp
  have b := Blocks.run c x [] [] (by omega) (by omega) .nil
  have e2 : (257 - c).toNat = (x :: r).length := by omega
  rw [e2, ← e, List.append_nil] at b
  have := h.append b
  rw [List.take_add, ← hp]
  simpa using this
theorem Blocks.row1 {cb ks part : List Int} {a sz : Nat} {c : Int} (h : Blocks cb (ks.take a)) (hp : part = (ks.drop a).take sz) (h1 : 0 < part.length) (h2 : part.length ≤ 100) (hc : c = (part.length : Int) - 1) :
    Blocks ((cb ++ [c]) ++ part) (ks.take (a + sz)) := by
  have b := Blocks.row c part [] [] (by omega) (by omega) (by omega) .nil
  rw [List.append_nil] at b
  have := h.append b
  rw [List.take_add, ← hp]
  simpa using this
theorem same_of {part pm p1 : Array UInt8} (he : KBw.bInts part = KBw.bInts pm) (hM : KBw.bInts pm = (List.replicate (part.size : Int).toNat (KBw.bInts p1)).flatten) (hC1 : KBw.bInts p1 = (KBw.bInts part).take (Int.toNat 1)) :
    KBw.bInts part = (List.replicate part.size ((KBw.bInts part).take 1)).flatten := by
  rw [hC1, ← he] at hM
  exact hM
theorem toNat_step {a sz : Int} (h0 : 0 ≤ a) (hs0 : 0 ≤ sz) : (a + sz).toNat = a.toNat + (a + sz - a).toNat := by
  rw [show a + sz - a = sz by rw [Int.add_comm, Int.add_sub_cancel]]
  exact Int.toNat_add h0 hs0
theorem close_run {cb b2 b3 b1 bn part oc : Array UInt8} {at' sz : Int} (hA : KBw.bInts bn = KBw.bInts b2 ++ KBw.bInts b1) (hA1 : KBw.bInts b2 = KBw.bInts cb ++ KBw.bInts b3) (hB : KBw.bInts b3 = [257 - (part.size : Int)]) (hC' : KBw.bInts b1 = (KBw.bInts part).take (Int.toNat 1))
    (hC : KBw.bInts part = ((KBw.bInts oc).drop at'.toNat).take (at' + sz - at').toNat) (he : KBw.bInts part = (List.replicate part.size ((KBw.bInts part).take 1)).flatten)
    (hbl : Blocks (KBw.bInts cb) ((KBw.bInts oc).take at'.toNat)) (h1 : 1 < (part.size : Int)) (h2 : part.size ≤ 16) (h0 : 0 ≤ at') (hs0 : 0 ≤ sz) : Blocks (KBw.bInts bn) ((KBw.bInts oc).take (at' + sz).toNat) := by
  rw [hA, hA1, hB, hC', toNat_step h0 hs0]
  exact hbl.run1 hC (by rw [KBw.ints_length]; exact he) (by rw [KBw.ints_length]; exact Int.ofNat_lt.mp h1) (by rw [KBw.ints_length]; exact Nat.le_trans h2 (by decide)) (by rw [KBw.ints_length])
theorem close_row {cb b2 b3 bn part oc : Array UInt8} {at' sz : Int} (hA : KBw.bInts bn = KBw.bInts b2 ++ KBw.bInts part) (hA1 : KBw.bInts b2 = KBw.bInts cb ++ KBw.bInts b3) (hB : KBw.bInts b3 = [(part.size : Int) - 1])
    (hC : KBw.bInts part = ((KBw.bInts oc).drop at'.toNat).take (at' + sz - at').toNat)
    (hbl : Blocks (KBw.bInts cb) ((KBw.bInts oc).take at'.toNat)) (h1 : 0 < part.size) (h2 : part.size ≤ 16) (h0 : 0 ≤ at') (hs0 : 0 ≤ sz) : Blocks (KBw.bInts bn) ((KBw.bInts oc).take (at' + sz).toNat) := by
  rw [hA, hA1, hB, toNat_step h0 hs0]
  exact hbl.row1 hC (by rw [KBw.ints_length]; exact h1) (by rw [KBw.ints_length]; exact Nat.le_trans h2 (by decide)) (by rw [KBw.ints_length])
theorem cut_pos {b oc : Array UInt8} {a e : Int} (hC : KBw.bInts b = ((KBw.bInts oc).drop a.toNat).take (e - a).toNat) (h0 : 0 ≤ a) (h1 : a < (oc.size : Int)) (h2 : a < e) : 0 < b.size ∧ (b.size : Int) ≤ e - a := by
  have h := congrArg List.length hC
  simp only [KBw.ints_length, List.length_take, List.length_drop] at h
  omega
theorem cut_one {b p : Array UInt8} (hC : KBw.bInts b = (KBw.bInts p).take (Int.toNat 1)) (h : 0 < p.size) : b.size = 1 := by
  have h := congrArg List.length hC
  simp only [KBw.ints_length, List.length_take] at h
  omega
inductive RunsRes (oc : Array UInt8) (r : Value) : Prop
  | mk (b : Array UInt8) (t : Tok) : r = .bytes b t → b.size ≤ 40 → Blocks (KBw.bInts b) (KBw.bInts oc) → RunsRes oc r
inductive RunsJ (oc : Array UInt8) (t : Tok) (pen cells : Addr) (n : Nat) : Nat → (Str → Option Value) → List (Addr × Obj) → Prop
  | mk (cb : Array UInt8) (tb : Tok) (a : Int) (ta : Tok) (q : Nat) (sp gr sa : Int) (v1 v2 v3 : Tok) (c2 : Nat) (m : Str → Option Value) : 0 ≤ a → a ≤ (oc.size : Int) + 4 → (cb.size : Int) ≤ 2 * a → Blocks (KBw.bInts cb) ((KBw.bInts oc).take a.toNat) → PenIn q sp gr sa → (q : Int) ≤ n + 2 * a →
      m (Str.ofString "codes") = some (.bytes cb tb) → m (Str.ofString "at") = some (.int a ta) → m (Str.ofString "pen") = some (.ref pen) → m (Str.ofString "octets") = some (.bytes oc t) → RunsJ oc t pen cells n (oc.size - a.toNat) m [(pen, penObj cells sp gr sa v1 v2 v3 c2)]
set_option inductive.autoPromoteIndices false in
/-- behind the test -/
inductive RunsMid (g : Heap) (L : Addr) (m : Str → Option Value) (pen cells : Addr) (part : Array UInt8) (s : Shared) (N : Nat) : Bool → Shared → Prop
  | mk (b : Bool) (h' : Heap) (tk' q : Nat) (sp gr sa : Int) (v1 v2 v3 : Tok) (c2 : Nat) : Fr g L h' m → News g L h' [(pen, penObj cells sp gr sa v1 v2 v3 c2)] → PenIn q sp gr sa → q ≤ N →
      (b = true → 1 < (part.size : Int) ∧ KBw.bInts part = (List.replicate part.size ((KBw.bInts part).take 1)).flatten) → RunsMid g L m pen cells part s N b { s with heap := h', toks := tk' }
theorem if_runs {prog : Program} {w : World} {A : Around} {E : Value → Shared → Prop} {s : Shared} {env : Env} {g : Heap} {L : Addr} {m : Str → Option Value} {Q : Flow → Shared → Prop} {test body orelse pos} {pen cells : Addr} {part : Array UInt8} {tp : Tok} (N : Nat)
    (F : Fr g L s.heap m) (hm : m (Str.ofString "part") = some (.bytes part tp)) (test' : wpAny (model prog w) A (isTrue test env (eval test env)) (RunsMid g L m pen cells part s N) E s)
    (yes : ∀ h' tk' q sp gr sa v1 v2 v3 c2, Fr g L h' m → News g L h' [(pen, penObj cells sp gr sa v1 v2 v3 c2)] → PenIn q sp gr sa → q ≤ N → 1 < (part.size : Int) → KBw.bInts part = (List.replicate part.size ((KBw.bInts part).take 1)).flatten → wpAny (model prog w) A (execs body env) Q E { s with heap := h', toks := tk' })
    (no : ∀ h' tk' q sp gr sa v1 v2 v3 c2, Fr g L h' m → News g L h' [(pen, penObj cells sp gr sa v1 v2 v3 c2)] → PenIn q sp gr sa → q ≤ N → wpAny (model prog w) A (execs orelse env) Q E { s with heap := h', toks := tk' }) :
    wpAny (model prog w) A (exec (.If test body orelse pos) env) Q E s := by
  refine wpAny_If (wpAny_mono test' (fun b s' h => ?_) fun _ _ x => x)
  obtain ⟨_, h', tk', q, sp, gr, sa, v1, v2, v3, c2, a1, a2, a3, a4, a5⟩ := h
  cases b with
  | true => exact yes h' tk' q sp gr sa v1 v2 v3 c2 a1 a2 a3 a4 (a5 rfl).1 (a5 rfl).2
  | false => exact no h' tk' q sp gr sa v1 v2 v3 c2 a1 a2 a3 a4
set_option maxHeartbeats 2000000 in
theorem runs_ok {w mean mg mb} {h₀ : Heap} {s : Shared} {dp un : Nat} {fr : Option (List Env)} {gd : Option (List Code)} (G : Gd w mean mg mb h₀) (st : h₀.StaysIn s.heap) (hdp : dp + 1 < recursionLimit) 
    (pen cells : Addr) (n : Nat) (hn : n + 40 < 1000) (hp : PenOk s.heap pen cells n) (hpf : h₀.get? pen = none) (vs : List Value) (ns : List Int) (hc : s.heap.IsList cells vs.toArray) (hi : IntsAre vs ns) (hlen : ns.length ≤ 63)
    (oc : Array UInt8) (t : Tok) (hz : oc.size ≤ 16) :
    wpAny (model PySem.Challenge.pw_og0155_01 w) (Rm dp un fr gd) (call (.ref 178) [.ref pen, .bytes oc t]) (Ok s [pen] (fun r h' => RunsRes oc r ∧ PenOk h' pen cells (n + 40))) (fun _ _ => False) s := by
  obtain ⟨spot, great, salt, t1, t2, t3, c, hp, B0⟩ := hp
  refine' enter (binds := [(Str.ofString "pen", .ref pen), (Str.ofString "octets", .bytes oc t)]) (news := [(pen, penObj cells spot great salt t1 t2 t3 c)]) G st ?hnews (Nat.lt_of_succ_lt hdp) ?ho ?hcd ?hbind ?hloc ?h ?hco ?hgen ?hk ?hcell
  k_extra "my_in"
  case hnews => exact List.forall_mem_cons.mpr ⟨⟨hp, hpf⟩, fun _ q => nomatch q⟩
  intro g' L' h' G' hg' F' N' ev Ak
  have hcg : g'.IsList cells vs.toArray := by
    obtain ⟨ob, hob, r⟩ := hc
    refine ⟨ob, hg' cells ob (fun q => ?_) hob, r⟩
    rw [List.mem_singleton.mp q, hp] at hob
    cases hob
    obtain ⟨_, n', hd⟩ := r
    cases hi with
    | nil => cases hd
    | cons _ _ _ => cases hd
  have X' := G'.X
  have T' := G'.T
  clear hc hp
  (try k_fold)
  k_steps
  unfold Stop
  (rename Fr _ _ _ _ => F1)
  (rename News _ _ _ _ => N0)
  have N1 : News g' L' _ [(pen, penObj cells spot great salt t1 t2 t3 c)] := fun p hp => N0 p ((by k_extra "my_sub" : ∀ p ∈ [(pen, penObj cells spot great salt t1 t2 t3 c)], p ∈ _) p hp)
  clear N0
  refine While_inv2 (n₀ := oc.size) (RunsJ oc t pen cells n) F1 N1 ?init ?turn PassesOwn.never
  case init =>
    exact RunsJ.mk #[] _ 0 _ n _ _ _ _ _ _ _ _ (Int.le_refl _) (by omega) (Int.le_refl _) .nil B0 (by omega) rfl rfl rfl rfl
  case turn =>
    rintro q m₁ nx h1 tk1 F2 N2 ⟨cb, tb, at', ta, qn, sp, gr, sa, v1, v2, v3, c2, _, ha0, ha1, hcs, hbl, Bp, hq, hm1, hm2, hm3, hm4⟩
    clear F1 N1 B0
    (try k_fold)
    k_steps
    · unfold Stop
      refine if_runs (pen := pen) (cells := cells) (qn + 2) (by assumption) (by k_extra "my_look") ?test ?yes ?no
      case test =>
        k_steps
        all_goals (first
          | exact RunsMid.mk false _ _ _ _ _ _ _ _ _ _ (by assumption) (by assumption) (by assumption) (by omega) (fun q => nomatch q)
          | exact RunsMid.mk true _ _ _ _ _ _ _ _ _ _ (by assumption) (by assumption) (by assumption) (by omega) (fun _ => ⟨by assumption, same_of (by with_reducible assumption) (by with_reducible assumption) (by with_reducible assumption)⟩))
      case yes =>
        intro h' tk' q' sp' gr' sa' w1 w2 w3 c3 Fy Ny By hqy h1y hey
        (try k_fold)
        k_steps
        (rename News _ _ _ _ => nE)
        refine' wstep (nx := [(pen, penObj cells _ _ _ _ _ _ _)]) (by assumption) nE ?sub ?lt (RunsJ.mk _ _ _ _ q' _ _ _ _ _ _ _ _ ?_ ?_ ?_ ?bl By ?_ ?l1 ?l2 ?l3 ?l4)
        (case sub => k_extra "my_sub")
        (case l1 => k_extra "my_look")
        (case l2 => k_extra "my_look")
        (case l3 => k_extra "my_look")
        (case l4 => k_extra "my_look")
        (case lt => exact meas ha0 (by assumption) (by omega))
        (case bl => exact close_run (by with_reducible assumption) (by with_reducible assumption) (by with_reducible assumption) (by with_reducible assumption) (by with_reducible assumption) hey hbl h1y (by omega) ha0 (by omega))
        all_goals first | exact Int.add_nonneg ha0 (Int.add_nonneg (by decide) (by with_reducible assumption)) | omega | (simp only [List.length_cons, List.length_nil] at *; omega)
      case no =>
        intro h' tk' q' sp' gr' sa' w1 w2 w3 c3 Fy Ny By hqy
        (try k_fold)
        k_steps
        (rename News _ _ _ _ => nE)
        refine' wstep (nx := [(pen, penObj cells _ _ _ _ _ _ _)]) (by assumption) nE ?sub ?lt (RunsJ.mk _ _ _ _ q' _ _ _ _ _ _ _ _ ?_ ?_ ?_ ?bl By ?_ ?l1 ?l2 ?l3 ?l4)
        (case sub => k_extra "my_sub")
        (case l1 => k_extra "my_look")
        (case l2 => k_extra "my_look")
        (case l3 => k_extra "my_look")
        (case l4 => k_extra "my_look")
        (case lt => exact meas ha0 (by assumption) (by omega))
        (case bl => exact close_row (by with_reducible assumption) (by with_reducible assumption) (by with_reducible assumption) (by with_reducible assumption) hbl (by omega) (by omega) ha0 (by omega))
        all_goals first | exact Int.add_nonneg ha0 (Int.add_nonneg (by decide) (by with_reducible assumption)) | omega | (simp only [List.length_cons, List.length_nil] at *; omega)
    · refine fin_ret (by assumption) ⟨⟨_, _, rfl, by omega, ?_⟩, _, _, _, _, _, _, _, News.get (by assumption) (List.Mem.head _), PenIn.mono Bp (by omega)⟩
      rw [List.take_of_length_le (by rw [KBw.ints_length]; omega)] at hbl
      exact hbl
theorem set_RunDec : True := by
  k_with_none
  k_with "my_in" => ((w_top off; (case ho => k_dflt k_is); (case hcd => k_dflt k_is); (case hbind => k_dflt (first | exact BindsTo.of_eq rfl | exact binds_K (K := hd.heap_39 _) (Frag.In.keeps (Gd.X (by assumption)) (by assumption)) rfl (by k_dflt k_is) rfl rfl rfl)); (case hloc => exact locs rfl); (case hco => exact rfl); (case hgen => exact rfl); (case hk => exact rfl); (case hcell => decide)))
  k_with "my_look" => (first | with_reducible assumption | exact rfl | (refine' lk_eq ?zk2r; (case zk2r => k_extra "my_look")) | (refine' lk_ne ?zk2n ?zk2r; (case zk2n => decide); (case zk2r => k_extra "my_look")))
  k_with "eval Name" => ((k_here; (with_reducible show wpAny _ _ (eval (PySem.Expr.Name _ _) (envOf _ _ _ _ _)) _ _ _); k_dflt (refine ld (by assumption) (by k_extra "my_look") ?_)))
  k_with "eval Constant int" => ((refine c_const ?_; intro _ _))
  k_with "binaryOp Add int int" => ((refine c_add ?_; intro _ _))
  k_with "binaryOp Sub int int" => ((refine c_sub ?_; intro _ _))
  k_with "binaryOp Mult int int" => ((refine c_mul (by mul_fits) ?_; intro _ _))
  k_with "binaryOp Mod int int" => ((refine c_mod (by omega) ?_; intro _ _ _ _))
  k_with "binaryOp FloorDiv int int" => ((refine c_div (by omega) (by omega) ?_; intro _ _))
  k_with "unaryOp USub int" => ((refine c_neg ?_; intro _ _))
  k_with "binaryOp Pow int int" => ((refine c_pow (by decide) (by decide) (by decide) ?_; intro _ _))
  k_with "my_for" => ((k_dflt (refine for_go (by assumption) ?_ (by intro _; rfl) PassesOwn.never)))
  k_with "my_room" => (first | assumption | ((try dsimp only [Rm]); omega))
  k_with "exec For Name Name cons nil" => (k_extra "my_for")
  k_with "exec For Name Call cons nil" => (k_extra "my_for")
  k_with "exec For Name BinOp cons nil" => (k_extra "my_for")
  k_with "exec For Name Tuple cons nil" => (k_extra "my_for")
  k_with "exec For Tuple Name cons nil" => (k_extra "my_for")
  k_with "exec For Tuple Call cons nil" => (k_extra "my_for")
  k_with "exec For Tuple BinOp cons nil" => (k_extra "my_for")
  k_with "exec For Tuple Tuple cons nil" => (k_extra "my_for")
  k_with "exec While Compare cons nil" => ((refine stop_intro ?_))
  k_with "exec While BoolOp cons nil" => ((refine stop_intro ?_))
  k_with "my_sub" => (first | exact List.forall_mem_nil _ | (refine' List.forall_mem_cons.mpr ⟨by k_mem, ?_⟩; k_extra "my_sub") | k_extra "my_own")
  k_with "my_own" => ((intro _ _; k_extra "my_mem"))
  k_with "my_mem" => (first | assumption | (refine' List.mem_append_left _ ?_; k_extra "my_mem") | (refine' List.mem_append_right _ ?_; k_extra "my_mem") | (refine' List.Mem.tail _ ?_; k_extra "my_mem"))
  k_with "my_size" => (first | exact Nat.le_trans (by with_reducible assumption) (Nat.le_of_ble_eq_true rfl) | omega | (simp only [KBw.ints_length, List.length_append, List.length_take, List.length_drop, List.length_cons, List.length_nil, Array.size_append] at *; omega))
  k_with "my_part" => (first | exact IsPart.none | exact IsPart.int _ _)
  k_with "eval Constant bytes" => ((refine cb_const ?_; intro _ _))
  k_with "call builtin:len" => (((with_reducible show wpAny _ _ (call (Value.builtin "len") [Value.bytes _ _]) _ _ _); refine cb_len (by k_extra "my_size") ?_; intro _ _))
  k_with "binaryOp Add bytes bytes" => ((refine cb_add (by k_extra "my_size") ?_; intro _ _ _ _ _))
  k_with "compareOp Eq bytes bytes" => ((refine cb_eq ?_))
  k_with "compareOp NotEq bytes bytes" => ((refine cb_ne ?_))
  k_with "truthy bytes" => ((refine cb_truthy (by k_extra "my_size") ?_; intro _))
  k_with "binaryOp Mult bytes int" => ((refine cb_mul (by omega) (by omega) (by omega) (by omega) ?_; intro _ _ _ _))
  k_with "call type:bytes" => (((with_reducible show wpAny _ _ (call (Value.type "bytes") [Value.ref _]) _ _ _); k_dflt (refine' cb_make ?zk36F ?zk36N rfl ?zk36l ?zk36i ?zk36r ?zk36n ?_; (case zk36F => assumption); (case zk36N => assumption); (case zk36l => first | exact News.isList (by assumption) (by k_mem) | assumption); (case zk36i => k_extra "my_ints"); (case zk36r => k_extra "my_range"); (case zk36n => k_extra "my_size")); intro _ _ _ _ _ _ _ _))
  k_with "my_ints" => (first | with_reducible assumption | exact IntsAre.nil | (refine' IntsAre.cons _ _ ?zk37c; (case zk37c => k_extra "my_ints")) | (with_reducible refine' IntsAre.append (by k_extra "my_ints") (by k_extra "my_ints")) | assumption)
  k_with "my_range" => (first | with_reducible assumption | exact List.forall_mem_nil _ | ((with_reducible refine' List.forall_mem_append.mpr ⟨?_, ?_⟩) <;> k_extra "my_range") | ((refine' List.forall_mem_cons.mpr ⟨⟨?_, ?_⟩, ?_⟩) <;> (first | omega | k_extra "my_range")))
  k_with "subscriptTail" => (((with_reducible show wpAny _ _ (subscriptTail _ _ (Value.bytes _ _) (Value.int _ _)) _ _ _); k_dflt (refine cb_item (by k_extra "my_size") (by omega) (by omega) ?_); intro _ _ _ _))
  k_with "subscriptTail" => (((with_reducible show wpAny _ _ (subscriptTail _ (Expr.Slice _ _ none _) (Value.bytes _ _) (Value.ref _)) _ _ _); k_dflt (refine' cb_slice ?zk40F ?zk40N ?zk40a ?zk40b ?zk40z ?_; (case zk40F => assumption); (case zk40N => assumption); (case zk40a => k_extra "my_part"); (case zk40b => k_extra "my_part"); (case zk40z => k_extra "my_size")); intro _ _ _ _ _ _ hC _; (first | rw [cut_nn (by omega) (by omega)] at hC | rw [cut_0n (by omega)] at hC | rw [cut_neg (by omega)] at hC); (have hN := congrArg List.length hC); (simp only [KBw.ints_length, List.length_take, List.length_drop] at hN)))
  k_with "call type:list" => (((with_reducible show wpAny _ _ (call (Value.type "list") [Value.bytes _ _]) _ _ _); k_dflt (refine' cl_bytes ?zk41F ?zk41N rfl ?zk41z ?_; (case zk41F => assumption); (case zk41N => assumption); (case zk41z => k_extra "my_size")); intro _ _ _ _ _ l1 _ _ _ _; (try k_lt l1)))
  k_with "call builtin:list.extend" => (((with_reducible show wpAny _ _ (call (Value.builtin _) [Value.ref _, Value.ref _]) _ _ _); k_dflt (refine' cl_extend ?zk42F ?zk42N ?zk42U ?zk42b ?zk42z ?_; (case zk42F => assumption); (case zk42N => assumption); (case zk42U => k_updF); (case zk42b => k_mem); (case zk42z => k_extra "my_lens")); intro _ _ _ _ N'; (try dsimp only at N')))
  k_with "my_lens" => (first | exact Nat.le_trans (by with_reducible assumption) (Nat.le_of_ble_eq_true rfl) | exact Nat.le_trans (Nat.add_le_add_right (by with_reducible assumption) _) (Nat.le_of_ble_eq_true rfl) | exact Nat.le_trans (Nat.add_le_add (by with_reducible assumption) (Nat.add_le_add_right (by with_reducible assumption) _)) (Nat.le_of_ble_eq_true rfl) | exact Nat.le_trans (Nat.add_le_add_right (Nat.add_le_add (by with_reducible assumption) (by with_reducible assumption)) _) (Nat.le_of_ble_eq_true rfl) | exact Nat.le_trans (Nat.add_le_add (by with_reducible assumption) (by with_reducible assumption)) (Nat.le_of_ble_eq_true rfl) | omega | (simp only [List.flatten_replicate_singleton, List.length_replicate]; omega) | ((repeat rw [IntsAre.length (by with_reducible assumption)]); k_extra "my_size"))
  k_with "exec Raise some none" => ((exfalso; omega))
  k_with "my_isl" => (first | exact News.isList (by assumption) (by k_mem) | assumption | exact Heap.IsList.at (by with_reducible assumption) fun o e => Fr.keep (by assumption) _ o e)
  k_with "call builtin:len" => (((with_reducible show wpAny _ _ (call (Value.builtin "len") [Value.ref _]) _ _ _); k_dflt (refine' cl_len ?zk46l ?zk46z ?_; (case zk46l => k_extra "my_isl"); (case zk46z => k_extra "my_lens")); intro _ _; (try simp only [List.length_append, List.length_cons, List.length_nil])))
  k_with "binaryOp Add ref ref" => (((with_reducible show wpAny _ _ (binaryOp Operator.Add (Value.ref _) (Value.ref _)) _ _ _); k_dflt (refine' cl_add ?zk47F ?zk47N ?zk47l ?zk47b ?zk47i ?zk47j ?zk47z ?_; (case zk47F => assumption); (case zk47N => assumption); (case zk47l => k_extra "my_isl"); (case zk47b => k_extra "my_isl"); (case zk47i => k_extra "my_ints"); (case zk47j => k_extra "my_ints"); (case zk47z => k_extra "my_lens")); intro _ _ _ _ _ l1 _ _ _ _; (try k_lt l1)))
  k_with "call builtin:list.append" => (((with_reducible show wpAny _ _ (call (Value.builtin _) [Value.ref _, _]) _ _ _); k_dflt (refine' cl_append ?zk48F ?zk48N ?zk48U ?zk48z ?_; (case zk48F => assumption); (case zk48N => assumption); (case zk48U => k_updF); (case zk48z => k_extra "my_lens")); intro _ _ _ N'; (try dsimp only at N')))
  k_with "subscriptTail Name Slice ref ref" => (((with_reducible show wpAny _ _ (subscriptTail _ (Expr.Slice none (some _) none _) (Value.ref _) (Value.ref _)) _ _ _); k_dflt (refine' cl_upto ?zk49F ?zk49N ?zk49l ?zk49i ?zk49a ?zk49z ?_; (case zk49F => assumption); (case zk49N => assumption); (case zk49l => k_extra "my_isl"); (case zk49i => k_extra "my_ints"); (case zk49a => omega); (case zk49z => k_extra "my_lens")); intro _ _ _ _ _ l1 _ _ _ _; (try k_lt l1)))
  k_with "execs cons" => ((k_here; first | k_fold | (k_made; walk_at "execs cons") | k_gentoks | (with_reducible refine execs_one ?_) | ((with_reducible refine wpAny_execs_cons ?_); (try dsimp only); k_fold)))
  k_with "spliced" => ((k_here; first | (refine args_last ?_; (try dsimp only [List.cons_append, List.nil_append])) | refine args_cons ?_ | (refine args_nil ?_; (try dsimp only [List.cons_append, List.nil_append]))))
  k_with "storeName" => ((k_here; k_dflt (refine' storeM ?zk52F ?zk52N ?_ ?zk52a ?zk52b; (case zk52F => k_asm); (case zk52N => k_asm); (case zk52a => rfl); (case zk52b => rfl); k_whole; intro _ _ _ _; (try k_sweep))))
  k_with "my_lens" => ((simp only [List.flatten_replicate_singleton, List.length_replicate]; exact run_room hub (gt_of (by assumption) hy2)))
  k_with "exec Raise some none" => ((exfalso; (try (have hR2 := hrun hy1 (gt_of (by assumption) hy2))); (try (have hR := row_len (by with_reducible assumption) (by with_reducible assumption) ha0 (by assumption) (hrow hy1 (by assumption)))); omega))
  trivial
/-- data that decode to octets -/
inductive Dec : List Int → List Int → Prop where
  | nil : Dec [] []
  | stop (r : List Int) : Dec (128 :: r) []
  | row (n : Int) (row rest out : List Int) : 0 ≤ n → n < 128 → (row.length : Int) = n + 1 → Dec rest out → Dec (n :: (row ++ rest)) (row ++ out)
  | run (c x : Int) (rest out : List Int) : 128 < c → c < 256 → Dec rest out → Dec (c :: x :: rest) (List.replicate (257 - c).toNat x ++ out)
theorem Blocks.dec {a x d y : List Int} (h : Blocks a x) (h2 : Dec d y) : Dec (a ++ d) (x ++ y) := by
  induction h with
  | nil => exact h2
  | row n row rest out h0 h1 h3 _ ih =>
    have := Dec.row n row _ _ h0 h1 h3 ih
    simpa [List.append_assoc] using this
  | run c x rest out h0 h1 _ ih =>
    have := Dec.run c x _ _ h0 h1 ih
    simpa [List.append_assoc] using this
theorem Dec.row_of {c : Int} {r o : List Int} (h : Dec (c :: r) o) (hc : c < 128) : ∃ row rest o', r = row ++ rest ∧ (row.length : Int) = c + 1 ∧ o = row ++ o' ∧ Dec rest o' ∧ 0 ≤ c := by
  cases h with
  | stop => exact absurd hc (by decide)
  | row _ row rest out h0 h1 h3 h4 => exact ⟨row, rest, out, rfl, h3, rfl, h4, h0⟩
  | run c x rest out h0 h1 h4 => omega
theorem Dec.run_of {c : Int} {r o : List Int} (h : Dec (c :: r) o) (hc : 128 < c) : ∃ x rest o', r = x :: rest ∧ o = List.replicate (257 - c).toNat x ++ o' ∧ Dec rest o' ∧ c < 256 := by
  cases h with
  | stop => exact absurd hc (by decide)
  | row _ row rest out h0 h1 h3 h4 => omega
  | run c x rest out h0 h1 h4 => exact ⟨x, rest, out, rfl, rfl, h4, h1⟩
theorem Dec.end_of {r o : List Int} (h : Dec r o) (hr : r = [] ∨ ∃ r', r = 128 :: r') : o = [] := by
  cases h with
  | nil => rfl
  | stop => rfl
  | row n row rest out h0 h1 h3 h4 =>
    rcases hr with hr | ⟨r', hr⟩
    · cases hr
    · rw [List.cons.injEq] at hr; omega
  | run c x rest out h0 h1 h4 =>
    rcases hr with hr | ⟨r', hr⟩
    · cases hr
    · rw [List.cons.injEq] at hr; omega
theorem drop_cons {ks : List Int} {a : Int} (h0 : 0 ≤ a) (h1 : a < (ks.length : Int)) : ks.drop a.toNat = ks.getD a.toNat 0 :: ks.drop (a + 1).toNat := by
  have h : a.toNat < ks.length := (Int.toNat_lt h0).mpr h1
  have e : (a + 1).toNat = a.toNat + 1 := Int.toNat_add h0 (by decide)
  rw [List.drop_eq_getElem_cons h, e, List.getD_eq_getElem?_getD, List.getElem?_eq_getElem h]
  rfl
/-- what stands between two turns -/
structure RdInv (ks out xs : List Int) (a : Int) : Prop where
  h0 : 0 ≤ a
  h1 : a ≤ (ks.length : Int)
  d : ∃ o, Dec (ks.drop a.toNat) o ∧ xs ++ o = out
theorem RdInv.room_row {ks out xs : List Int} {a : Int} (h : RdInv ks out xs a) (h1 : a < (ks.length : Int)) (hc : ks.getD a.toNat 0 < 128) : a + 2 + ks.getD a.toNat 0 ≤ (ks.length : Int) := by
  obtain ⟨o, hd, _⟩ := h.d
  have e := drop_cons h.h0 h1
  have hl := congrArg List.length e
  rw [e] at hd
  obtain ⟨row, rest, o', e2, h3, _⟩ := hd.row_of hc
  rw [e2] at hl
  have h0 := h.h0
  simp only [List.length_drop, List.length_cons, List.length_append] at hl
  omega
theorem RdInv.room_run {ks out xs : List Int} {a : Int} (h : RdInv ks out xs a) (h1 : a < (ks.length : Int)) (hc : 128 < ks.getD a.toNat 0) : a + 2 ≤ (ks.length : Int) := by
  obtain ⟨o, hd, _⟩ := h.d
  have e := drop_cons h.h0 h1
  have hl := congrArg List.length e
  rw [e] at hd
  obtain ⟨x, rest, o', e2, h3, _⟩ := hd.run_of hc
  rw [e2] at hl
  have h0 := h.h0
  simp only [List.length_drop, List.length_cons] at hl
  omega
theorem RdInv.row {ks out xs : List Int} {a : Int} (h : RdInv ks out xs a) (h1 : a < (ks.length : Int)) (hc : ks.getD a.toNat 0 < 128) :
    RdInv ks out (xs ++ (ks.drop (a + 1).toNat).take (a + 2 + ks.getD a.toNat 0 - (a + 1)).toNat) (a + 2 + ks.getD a.toNat 0) := by
  have hr := h.room_row h1 hc
  obtain ⟨o, hd, ho⟩ := h.d
  have h0 := h.h0
  rw [drop_cons h0 h1] at hd
  obtain ⟨row, rest, o', e2, h3, e3, h4, h5⟩ := hd.row_of hc
  refine ⟨by omega, hr, o', ?_, ?_⟩
  · have e4 : (a + 2 + ks.getD a.toNat 0).toNat = (a + 1).toNat + row.length := by omega
    rw [e4, ← List.drop_drop, e2, List.drop_left]
    exact h4
  · have e5 : (a + 2 + ks.getD a.toNat 0 - (a + 1)).toNat = row.length := by omega
    rw [e5, e2, List.take_left, List.append_assoc, ← e3]
    exact ho
theorem RdInv.run {ks out xs : List Int} {a : Int} (h : RdInv ks out xs a) (h1 : a < (ks.length : Int)) (hc : 128 < ks.getD a.toNat 0) :
    RdInv ks out (xs ++ List.replicate (257 - ks.getD a.toNat 0).toNat (ks.getD (a + 1).toNat 0)) (a + 2) := by
  have hr := h.room_run h1 hc
  obtain ⟨o, hd, ho⟩ := h.d
  have h0 := h.h0
  rw [drop_cons h0 h1] at hd
  obtain ⟨x, rest, o', e2, e3, h4, h5⟩ := hd.run_of hc
  have e6 := drop_cons (ks := ks) (a := a + 1) (by omega) (by omega)
  rw [e2, List.cons.injEq] at e6
  refine ⟨by omega, hr, o', ?_, ?_⟩
  · have e4 : (a + 2).toNat = (a + 1 + 1).toNat := by rw [Int.add_assoc]; rfl
    rw [e4, ← e6.2]
    exact h4
  · rw [← e6.1, List.append_assoc, ← e3]
    exact ho
theorem RdInv.run' {ks out xs : List Int} {a : Int} (h : RdInv ks out xs a) (h1 : a < (ks.length : Int)) (hc : 128 < ks.getD a.toNat 0) :
    RdInv ks out (xs ++ (List.replicate (257 - ks.getD a.toNat 0).toNat [ks.getD (a + 1).toNat 0]).flatten) (a + 2) := by
  rw [List.flatten_replicate_singleton]
  exact h.run h1 hc
theorem RdInv.fin {ks out xs : List Int} {a : Int} (h : RdInv ks out xs a) (he : ¬ a < (ks.length : Int) ∨ ks.getD a.toNat 0 = 128) : xs = out := by
  obtain ⟨o, hd, ho⟩ := h.d
  have h0 := h.h0
  have hn : o = [] := by
    refine hd.end_of ?_
    by_cases h1 : a < (ks.length : Int)
    · rw [drop_cons h0 h1]
      exact .inr ⟨_, by rw [he.resolve_left (fun q => q h1)]⟩
    · exact .inl (List.drop_of_length_le (by omega))
  rw [hn, List.append_nil] at ho
  exact ho
theorem gt_of {x : Int} (h : ¬ x < 128) (h2 : x ≠ 128) : 128 < x := Int.lt_iff_le_and_ne.mpr ⟨Int.not_lt.mp h, Ne.symm h2⟩
theorem run_room {n : Nat} {c : Int} (h : n ≤ 1000) (hc : 128 < c) : n + (257 - c).toNat ≤ 1048576 := by
  have e : (257 - c).toNat ≤ 257 := by omega
  exact Nat.le_trans (Nat.add_le_add h e) (by decide)
theorem row_len {b data : Array UInt8} {vs : List Value} {a c : Int} (hC : KBw.bInts b = ((KBw.bInts data).drop (a + 1).toNat).take (a + 2 + c - (a + 1)).toNat) (hL : vs.length = b.size) (h0 : 0 ≤ a) (hc : 0 ≤ c) (h : a + 2 + c ≤ (data.size : Int)) : (vs.length : Int) = c + 1 := by
  have e := congrArg List.length hC
  simp only [KBw.ints_length, List.length_take, List.length_drop] at e
  omega
inductive RdJ (data : Array UInt8) (t : Tok) (out : List Int) (l' : Addr) : Nat → (Str → Option Value) → List (Addr × Obj) → Prop
  | mk (m : Str → Option Value) (us : List Value) (xs : List Int) (c : Nat) (at' : Int) (ta : Tok) : IntsAre us xs → RdInv (KBw.bInts data) out xs at' →
      m (Str.ofString "octets") = some (.ref l') → m (Str.ofString "at") = some (.int at' ta) → m (Str.ofString "data") = some (.bytes data t) → RdJ data t out l' (data.size - at'.toNat) m [(l', listOf us.toArray c)]
set_option maxHeartbeats 8000000 in
theorem run_decoded_ok {w mean mg mb} {h₀ : Heap} {s : Shared} {dp un : Nat} {fr : Option (List Env)} {gd : Option (List Code)} (G : Gd w mean mg mb h₀) (st : h₀.StaysIn s.heap) (hdp : dp < recursionLimit) 
    (data : Array UInt8) (t : Tok) (hz : data.size ≤ 1000) (out : List Int) (hout : ∀ n ∈ out, 0 ≤ n ∧ n < 256) (hol : out.length ≤ 1000) (hd : Dec (KBw.bInts data) out) :
    wpAny (model PySem.Challenge.pw_og0155_01 w) (Rm dp un fr gd) (call (.ref 150) [.bytes data t]) (Ok s [] (fun r _ => BytesAre out r)) (fun _ _ => False) s := by
  refine' enter (binds := [(Str.ofString "data", .bytes data t)]) (news := []) G st (fun _ hp => nomatch hp) hdp ?ho ?hcd ?hbind ?hloc ?h ?hco ?hgen ?hk ?hcell
  k_extra "my_in"
  intro g' L' h' ⟨X', T'⟩ hg' F' N' ev Ak
  (try k_fold)
  k_steps
  unfold Stop
  rename_i l' _ _ t0 _ D _ _ _ _ _ hh _ F1 N0
  have N1 : News g' L' hh [(l', listOf #[] 0)] := fun p hp => N0 p (.tail _ hp)
  clear N0
  have hks := KBw.ints_length data
  refine While_inv2 (n₀ := data.size) (RdJ data t out l') F1 N1 ?init ?turn PassesOwn.never
  case init => exact RdJ.mk _ [] [] _ 0 _ .nil ⟨by omega, by omega, out, by simpa using hd, rfl⟩ rfl rfl rfl
  case turn =>
    rintro q m₁ nx h1 tk1 F2 N2 ⟨_, us, xs, c1, at', ta, hus, hinv, hm1, hm2, hm3⟩
    clear F1 N1
    have ha0 := hinv.h0
    have ha1 := hinv.h1
    have hrow := hinv.room_row
    have hrun := hinv.room_run
    rw [hks] at ha1 hrow hrun
    have hxl : xs.length ≤ 1000 := by obtain ⟨o, _, ho⟩ := hinv.d; rw [← ho, List.length_append] at hol; exact Nat.le_trans (Nat.le_add_right _ _) hol
    have hxr : ∀ n ∈ xs, 0 ≤ n ∧ n < 256 := by obtain ⟨o, _, ho⟩ := hinv.d; intro n hn; exact hout n (ho ▸ List.mem_append_left _ hn)
    have hul := hus.length
    have hub : us.length ≤ 1000 := by rw [hul]; exact hxl
    refine test_mid (fun b => (b = true → at' < (data.size : Int) ∧ (KBw.bInts data).getD at'.toNat 0 ≠ 128) ∧ (b = false → ¬ at' < (data.size : Int) ∨ (KBw.bInts data).getD at'.toNat 0 = 128)) F2 N2 ?test ?yes ?no
    case test =>
      (try k_fold)
      k_steps
      all_goals first
        | exact Mid.mk true _ _ (by assumption) (by assumption) ⟨fun _ => ⟨by assumption, by assumption⟩, fun q => nomatch q⟩
        | exact Mid.mk false _ _ (by assumption) (by assumption) ⟨(fun q => nomatch q), fun _ => .inl (by assumption)⟩
        | exact Mid.mk false _ _ (by assumption) (by assumption) ⟨(fun q => nomatch q), fun _ => .inr (by omega)⟩
    case no =>
      intro h' tk' Fy Ny hy
      have hy2 := hy.2 rfl
      clear F2 N2 hy hrow hrun
      k_steps
      refine fin_ret (by assumption) ⟨_, _, rfl, ?_⟩
      rename KBw.bInts _ = xs => hb
      rw [hb]
      exact hinv.fin (by rw [hks]; exact hy2)
    case yes =>
      intro h' tk' Fy Ny hy
      obtain ⟨hy1, hy2⟩ := hy.1 rfl
      clear F2 N2 hy
      (try k_fold)
      k_steps
      all_goals (
        (rename News _ _ _ _ => nE)
        refine' wstep (nx := [(l', listOf (us ++ _).toArray _)]) (by assumption) nE ?sub ?lt (RdJ.mk _ (us ++ _) (xs ++ _) _ _ _ (IntsAre.append hus ?ii) ?inv ?l1 ?l2 ?l3)
        (case sub => k_extra "my_sub")
        (case l1 => k_extra "my_look")
        (case l2 => k_extra "my_look")
        (case l3 => k_extra "my_look")
        (case ii => with_reducible assumption)
        (case lt => exact meas ha0 hy1 (by omega))
        (case inv => first
          | exact hinv.run' (by rw [hks]; exact hy1) (gt_of (by assumption) hy2)
          | ((rename KBw.bInts _ = List.take _ _ => hC9); rw [hC9]; exact hinv.row (by rw [hks]; exact hy1) (by assumption))))
theorem set_RunAt : True := by
  k_with_none
  k_with "my_in" => ((w_top off; (case ho => k_dflt k_is); (case hcd => k_dflt k_is); (case hbind => k_dflt (first | exact BindsTo.of_eq rfl | exact binds_K (K := hd.heap_39 _) (Frag.In.keeps (Gd.X (by assumption)) (by assumption)) rfl (by k_dflt k_is) rfl rfl rfl)); (case hloc => exact locs rfl); (case hco => exact rfl); (case hgen => exact rfl); (case hk => exact rfl); (case hcell => decide)))
  k_with "my_look" => (first | with_reducible assumption | exact rfl | (refine' lk_eq ?zk2r; (case zk2r => k_extra "my_look")) | (refine' lk_ne ?zk2n ?zk2r; (case zk2n => decide); (case zk2r => k_extra "my_look")))
  k_with "eval Name" => ((k_here; (with_reducible show wpAny _ _ (eval (PySem.Expr.Name _ _) (envOf _ _ _ _ _)) _ _ _); k_dflt (refine ld (by assumption) (by k_extra "my_look") ?_)))
  k_with "eval Constant int" => ((refine c_const ?_; intro _ _))
  k_with "binaryOp Add int int" => ((refine c_add ?_; intro _ _))
  k_with "binaryOp Sub int int" => ((refine c_sub ?_; intro _ _))
  k_with "binaryOp Mult int int" => ((refine c_mul (by mul_fits) ?_; intro _ _))
  k_with "binaryOp Mod int int" => ((refine c_mod (by omega) ?_; intro _ _ _ _))
  k_with "binaryOp FloorDiv int int" => ((refine c_div (by omega) (by omega) ?_; intro _ _))
  k_with "unaryOp USub int" => ((refine c_neg ?_; intro _ _))
  k_with "binaryOp Pow int int" => ((refine c_pow (by decide) (by decide) (by decide) ?_; intro _ _))
  k_with "my_for" => ((k_dflt (refine for_go (by assumption) ?_ (by intro _; rfl) PassesOwn.never)))
  k_with "my_room" => (first | assumption | ((try dsimp only [Rm]); omega))
  k_with "exec For Name Name cons nil" => (k_extra "my_for")
  k_with "exec For Name Call cons nil" => (k_extra "my_for")
  k_with "exec For Name BinOp cons nil" => (k_extra "my_for")
  k_with "exec For Name Tuple cons nil" => (k_extra "my_for")
  k_with "exec For Tuple Name cons nil" => (k_extra "my_for")
  k_with "exec For Tuple Call cons nil" => (k_extra "my_for")
  k_with "exec For Tuple BinOp cons nil" => (k_extra "my_for")
  k_with "exec For Tuple Tuple cons nil" => (k_extra "my_for")
  k_with "exec While Compare cons nil" => ((refine stop_intro ?_))
  k_with "exec While BoolOp cons nil" => ((refine stop_intro ?_))
  k_with "my_sub" => (first | exact List.forall_mem_nil _ | (refine' List.forall_mem_cons.mpr ⟨by k_mem, ?_⟩; k_extra "my_sub") | k_extra "my_own")
  k_with "my_own" => ((intro _ _; k_extra "my_mem"))
  k_with "my_mem" => (first | assumption | (refine' List.mem_append_left _ ?_; k_extra "my_mem") | (refine' List.mem_append_right _ ?_; k_extra "my_mem") | (refine' List.Mem.tail _ ?_; k_extra "my_mem"))
  k_with "my_size" => (first | exact Nat.le_trans (by with_reducible assumption) (Nat.le_of_ble_eq_true rfl) | omega | (simp only [KBw.ints_length, List.length_append, List.length_take, List.length_drop, List.length_cons, List.length_nil, Array.size_append] at *; omega))
  k_with "my_part" => (first | exact IsPart.none | exact IsPart.int _ _)
  k_with "eval Constant bytes" => ((refine cb_const ?_; intro _ _))
  k_with "call builtin:len" => (((with_reducible show wpAny _ _ (call (Value.builtin "len") [Value.bytes _ _]) _ _ _); refine cb_len (by k_extra "my_size") ?_; intro _ _))
  k_with "binaryOp Add bytes bytes" => ((refine cb_add (by k_extra "my_size") ?_; intro _ _ _ _ _))
  k_with "compareOp Eq bytes bytes" => ((refine cb_eq ?_))
  k_with "compareOp NotEq bytes bytes" => ((refine cb_ne ?_))
  k_with "truthy bytes" => ((refine cb_truthy (by k_extra "my_size") ?_; intro _))
  k_with "binaryOp Mult bytes int" => ((refine cb_mul (by omega) (by omega) (by omega) (by omega) ?_; intro _ _ _ _))
  k_with "call type:bytes" => (((with_reducible show wpAny _ _ (call (Value.type "bytes") [Value.ref _]) _ _ _); k_dflt (refine' cb_make ?zk36F ?zk36N rfl ?zk36l ?zk36i ?zk36r ?zk36n ?_; (case zk36F => assumption); (case zk36N => assumption); (case zk36l => first | exact News.isList (by assumption) (by k_mem) | assumption); (case zk36i => k_extra "my_ints"); (case zk36r => k_extra "my_range"); (case zk36n => k_extra "my_size")); intro _ _ _ _ _ _ _ _))
  k_with "my_ints" => (first | with_reducible assumption | exact IntsAre.nil | (refine' IntsAre.cons _ _ ?zk37c; (case zk37c => k_extra "my_ints")) | (with_reducible refine' IntsAre.append (by k_extra "my_ints") (by k_extra "my_ints")) | assumption)
  k_with "my_range" => (first | with_reducible assumption | exact List.forall_mem_nil _ | ((with_reducible refine' List.forall_mem_append.mpr ⟨?_, ?_⟩) <;> k_extra "my_range") | ((refine' List.forall_mem_cons.mpr ⟨⟨?_, ?_⟩, ?_⟩) <;> (first | omega | k_extra "my_range")))
  k_with "subscriptTail" => (((with_reducible show wpAny _ _ (subscriptTail _ _ (Value.bytes _ _) (Value.int _ _)) _ _ _); k_dflt (refine cb_item (by k_extra "my_size") (by omega) (by omega) ?_); intro _ _ _ _))
  k_with "subscriptTail" => (((with_reducible show wpAny _ _ (subscriptTail _ (Expr.Slice _ _ none _) (Value.bytes _ _) (Value.ref _)) _ _ _); k_dflt (refine' cb_slice ?zk40F ?zk40N ?zk40a ?zk40b ?zk40z ?_; (case zk40F => assumption); (case zk40N => assumption); (case zk40a => k_extra "my_part"); (case zk40b => k_extra "my_part"); (case zk40z => k_extra "my_size")); intro _ _ _ _ _ _ hC _; (first | rw [cut_nn (by omega) (by omega)] at hC | rw [cut_0n (by omega)] at hC | rw [cut_neg (by omega)] at hC); (have hN := congrArg List.length hC); (simp only [KBw.ints_length, List.length_take, List.length_drop] at hN)))
  k_with "call type:list" => (((with_reducible show wpAny _ _ (call (Value.type "list") [Value.bytes _ _]) _ _ _); k_dflt (refine' cl_bytes ?zk41F ?zk41N rfl ?zk41z ?_; (case zk41F => assumption); (case zk41N => assumption); (case zk41z => k_extra "my_size")); intro _ _ _ _ _ l1 _ _ _ _; (try k_lt l1)))
  k_with "call builtin:list.extend" => (((with_reducible show wpAny _ _ (call (Value.builtin _) [Value.ref _, Value.ref _]) _ _ _); k_dflt (refine' cl_extend ?zk42F ?zk42N ?zk42U ?zk42b ?zk42z ?_; (case zk42F => assumption); (case zk42N => assumption); (case zk42U => k_updF); (case zk42b => k_mem); (case zk42z => k_extra "my_lens")); intro _ _ _ _ N'; (try dsimp only at N')))
  k_with "my_lens" => (first | exact Nat.le_trans (by with_reducible assumption) (Nat.le_of_ble_eq_true rfl) | exact Nat.le_trans (Nat.add_le_add_right (by with_reducible assumption) _) (Nat.le_of_ble_eq_true rfl) | exact Nat.le_trans (Nat.add_le_add (by with_reducible assumption) (Nat.add_le_add_right (by with_reducible assumption) _)) (Nat.le_of_ble_eq_true rfl) | exact Nat.le_trans (Nat.add_le_add_right (Nat.add_le_add (by with_reducible assumption) (by with_reducible assumption)) _) (Nat.le_of_ble_eq_true rfl) | exact Nat.le_trans (Nat.add_le_add (by with_reducible assumption) (by with_reducible assumption)) (Nat.le_of_ble_eq_true rfl) | omega | (simp only [List.flatten_replicate_singleton, List.length_replicate]; omega) | ((repeat rw [IntsAre.length (by with_reducible assumption)]); k_extra "my_size"))
  k_with "exec Raise some none" => ((exfalso; omega))
  k_with "my_isl" => (first | exact News.isList (by assumption) (by k_mem) | assumption | exact Heap.IsList.at (by with_reducible assumption) fun o e => Fr.keep (by assumption) _ o e)
  k_with "call builtin:len" => (((with_reducible show wpAny _ _ (call (Value.builtin "len") [Value.ref _]) _ _ _); k_dflt (refine' cl_len ?zk46l ?zk46z ?_; (case zk46l => k_extra "my_isl"); (case zk46z => k_extra "my_lens")); intro _ _; (try simp only [List.length_append, List.length_cons, List.length_nil])))
  k_with "binaryOp Add ref ref" => (((with_reducible show wpAny _ _ (binaryOp Operator.Add (Value.ref _) (Value.ref _)) _ _ _); k_dflt (refine' cl_add ?zk47F ?zk47N ?zk47l ?zk47b ?zk47i ?zk47j ?zk47z ?_; (case zk47F => assumption); (case zk47N => assumption); (case zk47l => k_extra "my_isl"); (case zk47b => k_extra "my_isl"); (case zk47i => k_extra "my_ints"); (case zk47j => k_extra "my_ints"); (case zk47z => k_extra "my_lens")); intro _ _ _ _ _ l1 _ _ _ _; (try k_lt l1)))
  k_with "call builtin:list.append" => (((with_reducible show wpAny _ _ (call (Value.builtin _) [Value.ref _, _]) _ _ _); k_dflt (refine' cl_append ?zk48F ?zk48N ?zk48U ?zk48z ?_; (case zk48F => assumption); (case zk48N => assumption); (case zk48U => k_updF); (case zk48z => k_extra "my_lens")); intro _ _ _ N'; (try dsimp only at N')))
  k_with "subscriptTail Name Slice ref ref" => (((with_reducible show wpAny _ _ (subscriptTail _ (Expr.Slice none (some _) none _) (Value.ref _) (Value.ref _)) _ _ _); k_dflt (refine' cl_upto ?zk49F ?zk49N ?zk49l ?zk49i ?zk49a ?zk49z ?_; (case zk49F => assumption); (case zk49N => assumption); (case zk49l => k_extra "my_isl"); (case zk49i => k_extra "my_ints"); (case zk49a => omega); (case zk49z => k_extra "my_lens")); intro _ _ _ _ _ l1 _ _ _ _; (try k_lt l1)))
  k_with "execs cons" => ((k_here; first | k_fold | (k_made; walk_at "execs cons") | k_gentoks | (with_reducible refine execs_one ?_) | ((with_reducible refine wpAny_execs_cons ?_); (try dsimp only); k_fold)))
  k_with "spliced" => ((k_here; first | (refine args_last ?_; (try dsimp only [List.cons_append, List.nil_append])) | refine args_cons ?_ | (refine args_nil ?_; (try dsimp only [List.cons_append, List.nil_append]))))
  k_with "storeName" => ((k_here; k_dflt (refine' storeM ?zk52F ?zk52N ?_ ?zk52a ?zk52b; (case zk52F => k_asm); (case zk52N => k_asm); (case zk52a => rfl); (case zk52b => rfl); k_whole; intro _ _ _ _; (try k_sweep))))
  trivial
theorem drop_consA {ks : List Int} {a : Int} (h0 : 0 ≤ a) (h1 : a < (ks.length : Int)) : ks.drop a.toNat = ks.getD a.toNat 0 :: ks.drop (a + 1).toNat := by
  have h : a.toNat < ks.length := (Int.toNat_lt h0).mpr h1
  have e : (a + 1).toNat = a.toNat + 1 := Int.toNat_add h0 (by decide)
  rw [List.drop_eq_getElem_cons h, e, List.getD_eq_getElem?_getD, List.getElem?_eq_getElem h]
  rfl
theorem rep_succ {ks : List Int} {a c x : Int} (h0 : 0 ≤ a) (h1 : 1 ≤ c) (h : (ks.drop a.toNat).take c.toNat = List.replicate c.toNat x) (hlt : a + c < (ks.length : Int)) (he : ks.getD (a + c).toNat 0 = x) : (ks.drop a.toNat).take (c + 1).toNat = List.replicate (c + 1).toNat x := by
  have h1' : 0 ≤ c := Int.le_trans (by decide) h1
  have e : (c + 1).toNat = c.toNat + 1 := Int.toNat_add h1' (by decide)
  have e2 : (a + c).toNat = a.toNat + c.toNat := Int.toNat_add h0 h1'
  have e3 : a.toNat + c.toNat < ks.length := by rw [← e2]; exact (Int.toNat_lt (Int.add_nonneg h0 h1')).mpr hlt
  rw [e2, List.getD_eq_getElem?_getD, List.getElem?_eq_getElem e3] at he
  rw [e, List.take_add_one, h, List.getElem?_drop, List.getElem?_eq_getElem e3, List.replicate_succ']
  rw [show ks[a.toNat + c.toNat] = x from he]
  rfl
inductive RaRes (oc : Array UInt8) (a : Int) (r : Value) : Prop
  | mk (c : Int) (t : Tok) : r = .int c t → 1 ≤ c → c ≤ 128 → a + c ≤ (oc.size : Int) → ((KBw.bInts oc).drop a.toNat).take c.toNat = List.replicate c.toNat ((KBw.bInts oc).getD a.toNat 0) → RaRes oc a r
set_option maxHeartbeats 8000000 in
theorem run_at_ok {w mean mg mb} {h₀ : Heap} {s : Shared} {dp un : Nat} {fr : Option (List Env)} {gd : Option (List Code)} (G : Gd w mean mg mb h₀) (st : h₀.StaysIn s.heap) (hdp : dp < recursionLimit) 
    (oc : Array UInt8) (t : Tok) (hz : oc.size ≤ 100) (a : Int) (ta : Tok) (ha0 : 0 ≤ a) (ha1 : a < (oc.size : Int)) :
    wpAny (model PySem.Challenge.pw_og0155_01 w) (Rm dp un fr gd) (call (.ref 129) [.bytes oc t, .int a ta]) (Ok s [] (fun r _ => RaRes oc a r)) (fun _ _ => False) s := by
  refine' enter (binds := [(Str.ofString "octets", .bytes oc t), (Str.ofString "at", .int a ta)]) (news := []) G st (fun _ hp => nomatch hp) hdp ?ho ?hcd ?hbind ?hloc ?h ?hco ?hgen ?hk ?hcell
  k_extra "my_in"
  intro g' L' h' ⟨X', T'⟩ hg' F' N' ev Ak
  have hks := KBw.ints_length oc
  (try k_fold)
  k_steps
  unfold Stop
  rename_i F1 N1 _ _
  refine While_inv2 (n₀ := oc.size - (a + 1).toNat) (fun q m nx => ∃ c tc, q = oc.size - (a + c).toNat ∧ nx = [] ∧ 1 ≤ c ∧ c ≤ 128 ∧ a + c ≤ (oc.size : Int) ∧ ((KBw.bInts oc).drop a.toNat).take c.toNat = List.replicate c.toNat ((KBw.bInts oc).getD a.toNat 0)
      ∧ m (Str.ofString "count") = some (.int c tc) ∧ m (Str.ofString "at") = some (.int a ta) ∧ m (Str.ofString "octets") = some (.bytes oc t)) F1 N1 ?init ?turn PassesOwn.never
  case init =>
    refine ⟨1, _, ?_, rfl, by omega, by omega, by omega, ?_, rfl, rfl, rfl⟩
    · rfl
    · rw [drop_consA ha0 (by rw [hks]; exact ha1)]; rfl
  case turn =>
    rintro q m₁ nx h1 tk1 F2 N2 ⟨c, tc, rfl, rfl, hc1, hc2, hc3, hc4, hm1, hm2, hm3⟩
    clear F1 N1
    (try k_fold)
    k_steps
    · refine' wstep (nx := []) (by assumption) (by assumption) ?sub ?lt ⟨c + 1, _, rfl, rfl, ?_, ?_, ?_, ?_, ?l1, ?l2, ?l3⟩
      (case sub => exact List.forall_mem_nil _)
      (case l1 => k_extra "my_look")
      (case l2 => k_extra "my_look")
      (case l3 => k_extra "my_look")
      (case lt => exact meas (Int.add_nonneg ha0 (Int.le_trans (by decide) hc1)) (by with_reducible assumption) (Int.add_lt_add_left (Int.lt_succ c) a))
      · omega
      · omega
      · omega
      · exact rep_succ ha0 hc1 hc4 (by rw [hks]; assumption) (by assumption)
    all_goals exact fin_ret (by assumption) ⟨c, _, rfl, hc1, hc2, hc3, hc4⟩
theorem set_RowCodes : True := by
  k_with_none
  k_with "my_in" => ((w_top off; (case ho => k_dflt k_is); (case hcd => k_dflt k_is); (case hbind => k_dflt (first | exact BindsTo.of_eq rfl | exact binds_K (K := hd.heap_39 _) (Frag.In.keeps (Gd.X (by assumption)) (by assumption)) rfl (by k_dflt k_is) rfl rfl rfl)); (case hloc => exact locs rfl); (case hco => exact rfl); (case hgen => exact rfl); (case hk => exact rfl); (case hcell => decide)))
  k_with "my_look" => (first | with_reducible assumption | exact rfl | (refine' lk_eq ?zk2r; (case zk2r => k_extra "my_look")) | (refine' lk_ne ?zk2n ?zk2r; (case zk2n => decide); (case zk2r => k_extra "my_look")))
  k_with "eval Name" => ((k_here; (with_reducible show wpAny _ _ (eval (PySem.Expr.Name _ _) (envOf _ _ _ _ _)) _ _ _); k_dflt (refine ld (by assumption) (by k_extra "my_look") ?_)))
  k_with "eval Constant int" => ((refine c_const ?_; intro _ _))
  k_with "binaryOp Add int int" => ((refine c_add ?_; intro _ _))
  k_with "binaryOp Sub int int" => ((refine c_sub ?_; intro _ _))
  k_with "binaryOp Mult int int" => ((refine c_mul (by mul_fits) ?_; intro _ _))
  k_with "binaryOp Mod int int" => ((refine c_mod (by omega) ?_; intro _ _ _ _))
  k_with "binaryOp FloorDiv int int" => ((refine c_div (by omega) (by omega) ?_; intro _ _))
  k_with "unaryOp USub int" => ((refine c_neg ?_; intro _ _))
  k_with "binaryOp Pow int int" => ((refine c_pow (by decide) (by decide) (by decide) ?_; intro _ _))
  k_with "my_for" => ((k_dflt (refine for_go (by assumption) ?_ (by intro _; rfl) PassesOwn.never)))
  k_with "my_room" => (first | assumption | ((try dsimp only [Rm]); omega))
  k_with "exec For Name Name cons nil" => (k_extra "my_for")
  k_with "exec For Name Call cons nil" => (k_extra "my_for")
  k_with "exec For Name BinOp cons nil" => (k_extra "my_for")
  k_with "exec For Name Tuple cons nil" => (k_extra "my_for")
  k_with "exec For Tuple Name cons nil" => (k_extra "my_for")
  k_with "exec For Tuple Call cons nil" => (k_extra "my_for")
  k_with "exec For Tuple BinOp cons nil" => (k_extra "my_for")
  k_with "exec For Tuple Tuple cons nil" => (k_extra "my_for")
  k_with "exec While Compare cons nil" => ((refine stop_intro ?_))
  k_with "exec While BoolOp cons nil" => ((refine stop_intro ?_))
  k_with "my_sub" => (first | exact List.forall_mem_nil _ | (refine' List.forall_mem_cons.mpr ⟨by k_mem, ?_⟩; k_extra "my_sub") | k_extra "my_own")
  k_with "my_own" => ((intro _ _; k_extra "my_mem"))
  k_with "my_mem" => (first | assumption | (refine' List.mem_append_left _ ?_; k_extra "my_mem") | (refine' List.mem_append_right _ ?_; k_extra "my_mem") | (refine' List.Mem.tail _ ?_; k_extra "my_mem"))
  k_with "my_size" => (first | exact Nat.le_trans (by with_reducible assumption) (Nat.le_of_ble_eq_true rfl) | omega | (simp only [KBw.ints_length, List.length_append, List.length_take, List.length_drop, List.length_cons, List.length_nil, Array.size_append] at *; omega))
  k_with "my_part" => (first | exact IsPart.none | exact IsPart.int _ _)
  k_with "eval Constant bytes" => ((refine cb_const ?_; intro _ _))
  k_with "call builtin:len" => (((with_reducible show wpAny _ _ (call (Value.builtin "len") [Value.bytes _ _]) _ _ _); refine cb_len (by k_extra "my_size") ?_; intro _ _))
  k_with "binaryOp Add bytes bytes" => ((refine cb_add (by k_extra "my_size") ?_; intro _ _ _ _ _))
  k_with "compareOp Eq bytes bytes" => ((refine cb_eq ?_))
  k_with "compareOp NotEq bytes bytes" => ((refine cb_ne ?_))
  k_with "truthy bytes" => ((refine cb_truthy (by k_extra "my_size") ?_; intro _))
  k_with "binaryOp Mult bytes int" => ((refine cb_mul (by omega) (by omega) (by omega) (by omega) ?_; intro _ _ _ _))
  k_with "call type:bytes" => (((with_reducible show wpAny _ _ (call (Value.type "bytes") [Value.ref _]) _ _ _); k_dflt (refine' cb_make ?zk36F ?zk36N rfl ?zk36l ?zk36i ?zk36r ?zk36n ?_; (case zk36F => assumption); (case zk36N => assumption); (case zk36l => first | exact News.isList (by assumption) (by k_mem) | assumption); (case zk36i => k_extra "my_ints"); (case zk36r => k_extra "my_range"); (case zk36n => k_extra "my_size")); intro _ _ _ _ _ _ _ _))
  k_with "my_ints" => (first | with_reducible assumption | exact IntsAre.nil | (refine' IntsAre.cons _ _ ?zk37c; (case zk37c => k_extra "my_ints")) | (with_reducible refine' IntsAre.append (by k_extra "my_ints") (by k_extra "my_ints")) | assumption)
  k_with "my_range" => (first | with_reducible assumption | exact List.forall_mem_nil _ | ((with_reducible refine' List.forall_mem_append.mpr ⟨?_, ?_⟩) <;> k_extra "my_range") | ((refine' List.forall_mem_cons.mpr ⟨⟨?_, ?_⟩, ?_⟩) <;> (first | omega | k_extra "my_range")))
  k_with "subscriptTail" => (((with_reducible show wpAny _ _ (subscriptTail _ _ (Value.bytes _ _) (Value.int _ _)) _ _ _); k_dflt (refine cb_item (by k_extra "my_size") (by omega) (by omega) ?_); intro _ _ _ _))
  k_with "subscriptTail" => (((with_reducible show wpAny _ _ (subscriptTail _ (Expr.Slice _ _ none _) (Value.bytes _ _) (Value.ref _)) _ _ _); k_dflt (refine' cb_slice ?zk40F ?zk40N ?zk40a ?zk40b ?zk40z ?_; (case zk40F => assumption); (case zk40N => assumption); (case zk40a => k_extra "my_part"); (case zk40b => k_extra "my_part"); (case zk40z => k_extra "my_size")); intro _ _ _ _ _ _ hC _; (first | rw [cut_nn (by omega) (by omega)] at hC | rw [cut_0n (by omega)] at hC | rw [cut_neg (by omega)] at hC); (have hN := congrArg List.length hC); (simp only [KBw.ints_length, List.length_take, List.length_drop] at hN)))
  k_with "call type:list" => (((with_reducible show wpAny _ _ (call (Value.type "list") [Value.bytes _ _]) _ _ _); k_dflt (refine' cl_bytes ?zk41F ?zk41N rfl ?zk41z ?_; (case zk41F => assumption); (case zk41N => assumption); (case zk41z => k_extra "my_size")); intro _ _ _ _ _ l1 _ _ _ _; (try k_lt l1)))
  k_with "call builtin:list.extend" => (((with_reducible show wpAny _ _ (call (Value.builtin _) [Value.ref _, Value.ref _]) _ _ _); k_dflt (refine' cl_extend ?zk42F ?zk42N ?zk42U ?zk42b ?zk42z ?_; (case zk42F => assumption); (case zk42N => assumption); (case zk42U => k_updF); (case zk42b => k_mem); (case zk42z => k_extra "my_lens")); intro _ _ _ _ N'; (try dsimp only at N')))
  k_with "my_lens" => (first | exact Nat.le_trans (by with_reducible assumption) (Nat.le_of_ble_eq_true rfl) | exact Nat.le_trans (Nat.add_le_add_right (by with_reducible assumption) _) (Nat.le_of_ble_eq_true rfl) | exact Nat.le_trans (Nat.add_le_add (by with_reducible assumption) (Nat.add_le_add_right (by with_reducible assumption) _)) (Nat.le_of_ble_eq_true rfl) | exact Nat.le_trans (Nat.add_le_add_right (Nat.add_le_add (by with_reducible assumption) (by with_reducible assumption)) _) (Nat.le_of_ble_eq_true rfl) | exact Nat.le_trans (Nat.add_le_add (by with_reducible assumption) (by with_reducible assumption)) (Nat.le_of_ble_eq_true rfl) | omega | (simp only [List.flatten_replicate_singleton, List.length_replicate]; omega) | ((repeat rw [IntsAre.length (by with_reducible assumption)]); k_extra "my_size"))
  k_with "exec Raise some none" => ((exfalso; omega))
  k_with "my_isl" => (first | exact News.isList (by assumption) (by k_mem) | assumption | exact Heap.IsList.at (by with_reducible assumption) fun o e => Fr.keep (by assumption) _ o e)
  k_with "call builtin:len" => (((with_reducible show wpAny _ _ (call (Value.builtin "len") [Value.ref _]) _ _ _); k_dflt (refine' cl_len ?zk46l ?zk46z ?_; (case zk46l => k_extra "my_isl"); (case zk46z => k_extra "my_lens")); intro _ _; (try simp only [List.length_append, List.length_cons, List.length_nil])))
  k_with "binaryOp Add ref ref" => (((with_reducible show wpAny _ _ (binaryOp Operator.Add (Value.ref _) (Value.ref _)) _ _ _); k_dflt (refine' cl_add ?zk47F ?zk47N ?zk47l ?zk47b ?zk47i ?zk47j ?zk47z ?_; (case zk47F => assumption); (case zk47N => assumption); (case zk47l => k_extra "my_isl"); (case zk47b => k_extra "my_isl"); (case zk47i => k_extra "my_ints"); (case zk47j => k_extra "my_ints"); (case zk47z => k_extra "my_lens")); intro _ _ _ _ _ l1 _ _ _ _; (try k_lt l1)))
  k_with "call builtin:list.append" => (((with_reducible show wpAny _ _ (call (Value.builtin _) [Value.ref _, _]) _ _ _); k_dflt (refine' cl_append ?zk48F ?zk48N ?zk48U ?zk48z ?_; (case zk48F => assumption); (case zk48N => assumption); (case zk48U => k_updF); (case zk48z => k_extra "my_lens")); intro _ _ _ N'; (try dsimp only at N')))
  k_with "subscriptTail Name Slice ref ref" => (((with_reducible show wpAny _ _ (subscriptTail _ (Expr.Slice none (some _) none _) (Value.ref _) (Value.ref _)) _ _ _); k_dflt (refine' cl_upto ?zk49F ?zk49N ?zk49l ?zk49i ?zk49a ?zk49z ?_; (case zk49F => assumption); (case zk49N => assumption); (case zk49l => k_extra "my_isl"); (case zk49i => k_extra "my_ints"); (case zk49a => omega); (case zk49z => k_extra "my_lens")); intro _ _ _ _ _ l1 _ _ _ _; (try k_lt l1)))
  k_with "execs cons" => ((k_here; first | k_fold | (k_made; walk_at "execs cons") | k_gentoks | (with_reducible refine execs_one ?_) | ((with_reducible refine wpAny_execs_cons ?_); (try dsimp only); k_fold)))
  k_with "spliced" => ((k_here; first | (refine args_last ?_; (try dsimp only [List.cons_append, List.nil_append])) | refine args_cons ?_ | (refine args_nil ?_; (try dsimp only [List.cons_append, List.nil_append]))))
  k_with "storeName" => ((k_here; k_dflt (refine' storeM ?zk52F ?zk52N ?_ ?zk52a ?zk52b; (case zk52F => k_asm); (case zk52N => k_asm); (case zk52a => rfl); (case zk52b => rfl); k_whole; intro _ _ _ _; (try k_sweep))))
  trivial
def rowCodes (xs : List Int) : List Int := if xs = [] then [] else ((xs.length : Int) - 1) :: xs
set_option maxHeartbeats 8000000 in
theorem row_codes_ok {w mean mg mb} {h₀ : Heap} {s : Shared} {dp un : Nat} {fr : Option (List Env)} {gd : Option (List Code)} (G : Gd w mean mg mb h₀) (st : h₀.StaysIn s.heap) (hdp : dp < recursionLimit) (hun : un + 100 < cLine)
    (l : Addr) (us : List Value) (xs : List Int) (hl : s.heap.IsList l us.toArray) (hi : IntsAre us xs) (hz : us.length ≤ 1000) :
    wpAny (model PySem.Challenge.pw_og0155_01 w) (Rm dp un fr gd) (call (.ref 143) [.ref l]) (Ok s [] (NewInts s.heap (rowCodes xs))) (fun _ _ => False) s := by
  refine' enter (binds := [(Str.ofString "row", .ref l)]) (news := []) G st (fun _ hp => nomatch hp) hdp ?ho ?hcd ?hbind ?hloc ?h ?hco ?hgen ?hk ?hcell
  k_extra "my_in"
  intro g' L' h' ⟨X', T'⟩ hg' F' N'
  dsimp only
  have hlg : g'.IsList l us.toArray := Heap.IsList.at hl fun o e => hg' _ o (fun q => nomatch q) e
  have hul := hi.length
  clear hl
  (try k_fold)
  k_steps
  · refine fin_ret (by assumption) ⟨_, [], _, rfl, News.get (by assumption) (List.Mem.head _), fresh_of hg' (by assumption) (List.Mem.head _), ?_⟩
    rename decide _ = true => hd
    unfold rowCodes
    rw [if_pos (by simpa using hd)]
    exact .nil
  · refine fin_ret (by assumption) ⟨_, _, _, rfl, News.get (by assumption) (List.Mem.head _), fresh_of hg' (by assumption) (List.Mem.head _), ?_⟩
    rename decide _ = false => hd
    unfold rowCodes
    rw [if_neg (by simpa using hd), ← hul]
    assumption
theorem set_RunEnc : True := by
  k_with_none
  k_with "my_in" => ((w_top off; (case ho => k_dflt k_is); (case hcd => k_dflt k_is); (case hbind => k_dflt (first | exact BindsTo.of_eq rfl | exact binds_K (K := hd.heap_39 _) (Frag.In.keeps (Gd.X (by assumption)) (by assumption)) rfl (by k_dflt k_is) rfl rfl rfl)); (case hloc => exact locs rfl); (case hco => exact rfl); (case hgen => exact rfl); (case hk => exact rfl); (case hcell => decide)))
  k_with "my_look" => (first | with_reducible assumption | exact rfl | (refine' lk_eq ?zk2r; (case zk2r => k_extra "my_look")) | (refine' lk_ne ?zk2n ?zk2r; (case zk2n => decide); (case zk2r => k_extra "my_look")))
  k_with "eval Name" => ((k_here; (with_reducible show wpAny _ _ (eval (PySem.Expr.Name _ _) (envOf _ _ _ _ _)) _ _ _); k_dflt (refine ld (by assumption) (by k_extra "my_look") ?_)))
  k_with "eval Constant int" => ((refine c_const ?_; intro _ _))
  k_with "binaryOp Add int int" => ((refine c_add ?_; intro _ _))
  k_with "binaryOp Sub int int" => ((refine c_sub ?_; intro _ _))
  k_with "binaryOp Mult int int" => ((refine c_mul (by mul_fits) ?_; intro _ _))
  k_with "binaryOp Mod int int" => ((refine c_mod (by omega) ?_; intro _ _ _ _))
  k_with "binaryOp FloorDiv int int" => ((refine c_div (by omega) (by omega) ?_; intro _ _))
  k_with "unaryOp USub int" => ((refine c_neg ?_; intro _ _))
  k_with "binaryOp Pow int int" => ((refine c_pow (by decide) (by decide) (by decide) ?_; intro _ _))
  k_with "my_for" => ((k_dflt (refine for_go (by assumption) ?_ (by intro _; rfl) PassesOwn.never)))
  k_with "my_room" => (first | assumption | ((try dsimp only [Rm]); omega))
  k_with "exec For Name Name cons nil" => (k_extra "my_for")
  k_with "exec For Name Call cons nil" => (k_extra "my_for")
  k_with "exec For Name BinOp cons nil" => (k_extra "my_for")
  k_with "exec For Name Tuple cons nil" => (k_extra "my_for")
  k_with "exec For Tuple Name cons nil" => (k_extra "my_for")
  k_with "exec For Tuple Call cons nil" => (k_extra "my_for")
  k_with "exec For Tuple BinOp cons nil" => (k_extra "my_for")
  k_with "exec For Tuple Tuple cons nil" => (k_extra "my_for")
  k_with "exec While Compare cons nil" => ((refine stop_intro ?_))
  k_with "exec While BoolOp cons nil" => ((refine stop_intro ?_))
  k_with "my_sub" => (first | exact List.forall_mem_nil _ | (refine' List.forall_mem_cons.mpr ⟨by k_mem, ?_⟩; k_extra "my_sub") | k_extra "my_own")
  k_with "my_own" => ((intro _ _; k_extra "my_mem"))
  k_with "my_mem" => (first | assumption | (refine' List.mem_append_left _ ?_; k_extra "my_mem") | (refine' List.mem_append_right _ ?_; k_extra "my_mem") | (refine' List.Mem.tail _ ?_; k_extra "my_mem"))
  k_with "my_size" => (first | exact Nat.le_trans (by with_reducible assumption) (Nat.le_of_ble_eq_true rfl) | omega | (simp only [KBw.ints_length, List.length_append, List.length_take, List.length_drop, List.length_cons, List.length_nil, Array.size_append] at *; omega))
  k_with "my_part" => (first | exact IsPart.none | exact IsPart.int _ _)
  k_with "eval Constant bytes" => ((refine cb_const ?_; intro _ _))
  k_with "call builtin:len" => (((with_reducible show wpAny _ _ (call (Value.builtin "len") [Value.bytes _ _]) _ _ _); refine cb_len (by k_extra "my_size") ?_; intro _ _))
  k_with "binaryOp Add bytes bytes" => ((refine cb_add (by k_extra "my_size") ?_; intro _ _ _ _ _))
  k_with "compareOp Eq bytes bytes" => ((refine cb_eq ?_))
  k_with "compareOp NotEq bytes bytes" => ((refine cb_ne ?_))
  k_with "truthy bytes" => ((refine cb_truthy (by k_extra "my_size") ?_; intro _))
  k_with "binaryOp Mult bytes int" => ((refine cb_mul (by omega) (by omega) (by omega) (by omega) ?_; intro _ _ _ _))
  k_with "call type:bytes" => (((with_reducible show wpAny _ _ (call (Value.type "bytes") [Value.ref _]) _ _ _); k_dflt (refine' cb_make ?zk36F ?zk36N rfl ?zk36l ?zk36i ?zk36r ?zk36n ?_; (case zk36F => assumption); (case zk36N => assumption); (case zk36l => first | exact News.isList (by assumption) (by k_mem) | assumption); (case zk36i => k_extra "my_ints"); (case zk36r => k_extra "my_range"); (case zk36n => k_extra "my_size")); intro _ _ _ _ _ _ _ _))
  k_with "my_ints" => (first | with_reducible assumption | exact IntsAre.nil | (refine' IntsAre.cons _ _ ?zk37c; (case zk37c => k_extra "my_ints")) | (with_reducible refine' IntsAre.append (by k_extra "my_ints") (by k_extra "my_ints")) | assumption)
  k_with "my_range" => (first | with_reducible assumption | exact List.forall_mem_nil _ | ((with_reducible refine' List.forall_mem_append.mpr ⟨?_, ?_⟩) <;> k_extra "my_range") | ((refine' List.forall_mem_cons.mpr ⟨⟨?_, ?_⟩, ?_⟩) <;> (first | omega | k_extra "my_range")))
  k_with "subscriptTail" => (((with_reducible show wpAny _ _ (subscriptTail _ _ (Value.bytes _ _) (Value.int _ _)) _ _ _); k_dflt (refine cb_item (by k_extra "my_size") (by omega) (by omega) ?_); intro _ _ _ _))
  k_with "subscriptTail" => (((with_reducible show wpAny _ _ (subscriptTail _ (Expr.Slice _ _ none _) (Value.bytes _ _) (Value.ref _)) _ _ _); k_dflt (refine' cb_slice ?zk40F ?zk40N ?zk40a ?zk40b ?zk40z ?_; (case zk40F => assumption); (case zk40N => assumption); (case zk40a => k_extra "my_part"); (case zk40b => k_extra "my_part"); (case zk40z => k_extra "my_size")); intro _ _ _ _ _ _ hC _; (first | rw [cut_nn (by omega) (by omega)] at hC | rw [cut_0n (by omega)] at hC | rw [cut_neg (by omega)] at hC); (have hN := congrArg List.length hC); (simp only [KBw.ints_length, List.length_take, List.length_drop] at hN)))
  k_with "call type:list" => (((with_reducible show wpAny _ _ (call (Value.type "list") [Value.bytes _ _]) _ _ _); k_dflt (refine' cl_bytes ?zk41F ?zk41N rfl ?zk41z ?_; (case zk41F => assumption); (case zk41N => assumption); (case zk41z => k_extra "my_size")); intro _ _ _ _ _ l1 _ _ _ _; (try k_lt l1)))
  k_with "call builtin:list.extend" => (((with_reducible show wpAny _ _ (call (Value.builtin _) [Value.ref _, Value.ref _]) _ _ _); k_dflt (refine' cl_extend ?zk42F ?zk42N ?zk42U ?zk42b ?zk42z ?_; (case zk42F => assumption); (case zk42N => assumption); (case zk42U => k_updF); (case zk42b => k_mem); (case zk42z => k_extra "my_lens")); intro _ _ _ _ N'; (try dsimp only at N')))
  k_with "my_lens" => (first | exact Nat.le_trans (by with_reducible assumption) (Nat.le_of_ble_eq_true rfl) | exact Nat.le_trans (Nat.add_le_add_right (by with_reducible assumption) _) (Nat.le_of_ble_eq_true rfl) | exact Nat.le_trans (Nat.add_le_add (by with_reducible assumption) (Nat.add_le_add_right (by with_reducible assumption) _)) (Nat.le_of_ble_eq_true rfl) | exact Nat.le_trans (Nat.add_le_add_right (Nat.add_le_add (by with_reducible assumption) (by with_reducible assumption)) _) (Nat.le_of_ble_eq_true rfl) | exact Nat.le_trans (Nat.add_le_add (by with_reducible assumption) (by with_reducible assumption)) (Nat.le_of_ble_eq_true rfl) | omega | (simp only [List.flatten_replicate_singleton, List.length_replicate]; omega) | ((repeat rw [IntsAre.length (by with_reducible assumption)]); k_extra "my_size"))
  k_with "exec Raise some none" => ((exfalso; omega))
  k_with "my_isl" => (first | exact News.isList (by assumption) (by k_mem) | assumption | exact Heap.IsList.at (by with_reducible assumption) fun o e => Fr.keep (by assumption) _ o e)
  k_with "call builtin:len" => (((with_reducible show wpAny _ _ (call (Value.builtin "len") [Value.ref _]) _ _ _); k_dflt (refine' cl_len ?zk46l ?zk46z ?_; (case zk46l => k_extra "my_isl"); (case zk46z => k_extra "my_lens")); intro _ _; (try simp only [List.length_append, List.length_cons, List.length_nil])))
  k_with "binaryOp Add ref ref" => (((with_reducible show wpAny _ _ (binaryOp Operator.Add (Value.ref _) (Value.ref _)) _ _ _); k_dflt (refine' cl_add ?zk47F ?zk47N ?zk47l ?zk47b ?zk47i ?zk47j ?zk47z ?_; (case zk47F => assumption); (case zk47N => assumption); (case zk47l => k_extra "my_isl"); (case zk47b => k_extra "my_isl"); (case zk47i => k_extra "my_ints"); (case zk47j => k_extra "my_ints"); (case zk47z => k_extra "my_lens")); intro _ _ _ _ _ l1 _ _ _ _; (try k_lt l1)))
  k_with "call builtin:list.append" => (((with_reducible show wpAny _ _ (call (Value.builtin _) [Value.ref _, _]) _ _ _); k_dflt (refine' cl_append ?zk48F ?zk48N ?zk48U ?zk48z ?_; (case zk48F => assumption); (case zk48N => assumption); (case zk48U => k_updF); (case zk48z => k_extra "my_lens")); intro _ _ _ N'; (try dsimp only at N')))
  k_with "subscriptTail Name Slice ref ref" => (((with_reducible show wpAny _ _ (subscriptTail _ (Expr.Slice none (some _) none _) (Value.ref _) (Value.ref _)) _ _ _); k_dflt (refine' cl_upto ?zk49F ?zk49N ?zk49l ?zk49i ?zk49a ?zk49z ?_; (case zk49F => assumption); (case zk49N => assumption); (case zk49l => k_extra "my_isl"); (case zk49i => k_extra "my_ints"); (case zk49a => omega); (case zk49z => k_extra "my_lens")); intro _ _ _ _ _ l1 _ _ _ _; (try k_lt l1)))
  k_with "execs cons" => ((k_here; first | k_fold | (k_made; walk_at "execs cons") | k_gentoks | (with_reducible refine execs_one ?_) | ((with_reducible refine wpAny_execs_cons ?_); (try dsimp only); k_fold)))
  k_with "spliced" => ((k_here; first | (refine args_last ?_; (try dsimp only [List.cons_append, List.nil_append])) | refine args_cons ?_ | (refine args_nil ?_; (try dsimp only [List.cons_append, List.nil_append]))))
  k_with "storeName" => ((k_here; k_dflt (refine' storeM ?zk52F ?zk52N ?_ ?zk52a ?zk52b; (case zk52F => k_asm); (case zk52N => k_asm); (case zk52a => rfl); (case zk52b => rfl); k_whole; intro _ _ _ _; (try k_sweep))))
  k_with "call ref" => (((with_reducible show wpAny _ _ (call (Value.ref 129) _) _ _ _); k_dflt (refine' use_pure ?zk61F ?zk61N (run_at_ok ?zk61G ?zk61st ?zk61d _ _ ?zk61z _ _ ?zk61a0 ?zk61a1) ?_; (case zk61F => assumption); (case zk61N => assumption); (case zk61G => assumption); (case zk61st => exact Fr.keep (by assumption)); (case zk61d => k_extra "my_room"); (case zk61z => omega); (case zk61a0 => omega); (case zk61a1 => omega); intro _ _ _ hp9 _ _; obtain ⟨c9, t9, hr9, hc1, hc2, hc3, hc4⟩ := hp9; subst hr9)))
  k_with "call ref" => (((with_reducible show wpAny _ _ (call (Value.ref 143) _) _ _ _); k_dflt (refine' use_new ?zk62F ?zk62N (row_codes_ok ?zk62G ?zk62st ?zk62d ?zk62u _ _ _ ?zk62l ?zk62i ?zk62z) ?_; (case zk62F => assumption); (case zk62N => assumption); (case zk62G => assumption); (case zk62st => exact Fr.keep (by assumption)); (case zk62d => k_extra "my_room"); (case zk62u => (try dsimp only [Rm]); omega); (case zk62l => k_extra "my_isl"); (case zk62i => with_reducible assumption); (case zk62z => k_extra "my_lens")); intro _ _ _ _ _ hne _ _ _ _; (replace hne := allNe_of hne); (simp only [AllNe, and_true] at hne)))
  k_with "exec If" => ((refine stop_intro ?_))
  trivial
theorem Blocks.ofRow {xs : List Int} (h : xs.length ≤ 128) : Blocks (rowCodes xs) xs := by
  unfold rowCodes
  split
  · rename_i e; rw [e]; exact .nil
  · rename_i e
    have h0 : 0 < xs.length := List.length_pos_iff.mpr e
    have b := Blocks.row ((xs.length : Int) - 1) xs [] [] (by omega) (by omega) (by omega) .nil
    rw [List.append_nil] at b
    exact b
theorem rowCodes_len (xs : List Int) : (rowCodes xs).length ≤ xs.length + 1 := by
  unfold rowCodes; split <;> simp
theorem rowCodes_in {xs : List Int} (h : ∀ n ∈ xs, 0 ≤ n ∧ n < 256) (hl : xs.length ≤ 128) : ∀ n ∈ rowCodes xs, 0 ≤ n ∧ n < 256 := by
  unfold rowCodes
  split
  · exact fun _ q => nomatch q
  · rename_i e
    have h0 : 0 < xs.length := List.length_pos_iff.mpr e
    intro n hn
    rcases List.mem_cons.mp hn with rfl | hn
    · omega
    · exact h n hn
/-- what stands between two turns of the encoder -/
structure ReInv (ks cs rs : List Int) (a : Int) : Prop where
  h0 : 0 ≤ a
  h1 : a ≤ (ks.length : Int)
  b : ∃ done, Blocks cs done ∧ done ++ rs = ks.take a.toNat
  cr : ∀ n ∈ cs, 0 ≤ n ∧ n < 256
  rr : ∀ n ∈ rs, 0 ≤ n ∧ n < 256
  cl : (cs.length : Int) + rs.length ≤ 2 * a
  rl : (rs.length : Int) ≤ a
theorem ReInv.run {ks cs rs : List Int} {a c : Int} (h : ReInv ks cs rs a) (hk : ∀ n ∈ ks, 0 ≤ n ∧ n < 256) (hsz : ks.length ≤ 100) (hc : 2 ≤ c) (hc1 : c ≤ 128) (hcl : a + c ≤ (ks.length : Int)) (he : (ks.drop a.toNat).take c.toNat = List.replicate c.toNat (ks.getD a.toNat 0)) (hq : 2 < c ∨ rs = []) :
    ReInv ks (cs ++ (rowCodes rs ++ [257 - c, ks.getD a.toNat 0])) [] (a + c) := by
  have h0 := h.h0
  have hrl := h.rl
  have hcl' := h.cl
  have hr := rowCodes_len rs
  have hx := KBw.getD_in (ks := ks) (j := a.toNat) hk
  obtain ⟨done, hb, hd⟩ := h.b
  refine ⟨by omega, hcl, ⟨done ++ (rs ++ List.replicate c.toNat (ks.getD a.toNat 0)), ?_, ?_⟩, ?_, (fun _ q => nomatch q), ?_, by simp; omega⟩
  · have b2 := Blocks.run (257 - c) (ks.getD a.toNat 0) [] [] (by omega) (by omega) .nil
    have e : (257 - (257 - c)).toNat = c.toNat := by rw [Int.sub_sub_self]
    rw [e, List.append_nil] at b2
    exact hb.append ((Blocks.ofRow (by omega)).append b2)
  · have e : (a + c).toNat = a.toNat + c.toNat := Int.toNat_add h0 (Int.le_trans (by decide) hc)
    rw [List.append_nil, e, List.take_add, he, ← hd, List.append_assoc]
  · intro n hn
    rcases List.mem_append.mp hn with q | q
    · exact h.cr n q
    · rcases List.mem_append.mp q with q | q
      · exact rowCodes_in h.rr (by omega) n q
      · rcases List.mem_cons.mp q with rfl | q
        · omega
        · rw [List.mem_singleton.mp q]; exact hx
  · simp only [List.length_append, List.length_cons, List.length_nil]
    rcases hq with hq | hq
    · omega
    · have e0 : (rowCodes rs).length = 0 := by rw [hq]; rfl
      omega
theorem ReInv.one {ks cs rs : List Int} {a : Int} (h : ReInv ks cs rs a) (hk : ∀ n ∈ ks, 0 ≤ n ∧ n < 256) (h1 : a < (ks.length : Int)) : ReInv ks cs (rs ++ [ks.getD a.toNat 0]) (a + 1) := by
  have h0 := h.h0
  have hcl' := h.cl
  have hrl := h.rl
  have hx := KBw.getD_in (ks := ks) (j := a.toNat) hk
  obtain ⟨done, hb, hd⟩ := h.b
  refine ⟨by omega, by omega, ⟨done, hb, ?_⟩, h.cr, ?_, ?_, ?_⟩
  · have e : (a + 1).toNat = a.toNat + 1 := Int.toNat_add h0 (by decide)
    have e2 : a.toNat < ks.length := by omega
    rw [← List.append_assoc, hd, e, List.take_add_one, List.getElem?_eq_getElem e2, List.getD_eq_getElem?_getD, List.getElem?_eq_getElem e2]
    rfl
  · intro n hn
    rcases List.mem_append.mp hn with q | q
    · exact h.rr n q
    · rw [List.mem_singleton.mp q]; exact hx
  · simp only [List.length_append, List.length_cons, List.length_nil]; omega
  · simp only [List.length_append, List.length_cons, List.length_nil]; omega
theorem ReInv.fin {ks cs rs : List Int} {a : Int} (h : ReInv ks cs rs a) (h1 : ¬ a < (ks.length : Int)) (hsz : ks.length ≤ 100) : Blocks (cs ++ rowCodes rs) ks := by
  obtain ⟨done, hb, hd⟩ := h.b
  have hrl := h.rl
  have h0 := h.h0
  have h2 := h.h1
  have e : ks.take a.toNat = ks := List.take_of_length_le (by omega)
  rw [e] at hd
  rw [← hd]
  exact hb.append (Blocks.ofRow (by omega))
inductive ReRes (oc : Array UInt8) (r : Value) : Prop
  | mk (b : Array UInt8) (t : Tok) (enc : List Int) : r = .bytes b t → KBw.bInts b = enc ++ [128] → Blocks enc (KBw.bInts oc) → b.size ≤ 40 → ReRes oc r
inductive ReJ (oc : Array UInt8) (t : Tok) (lc : Addr) : Nat → (Str → Option Value) → List (Addr × Obj) → Prop
  | mk (m : Str → Option Value) (lr : Addr) (us : List Value) (cs : List Int) (c1 : Nat) (vs : List Value) (rs : List Int) (c2 : Nat) (a : Int) (ta : Tok) : @Ne Nat lc lr → IntsAre us cs → IntsAre vs rs → ReInv (KBw.bInts oc) cs rs a →
      m (Str.ofString "codes") = some (.ref lc) → m (Str.ofString "row") = some (.ref lr) → m (Str.ofString "at") = some (.int a ta) → m (Str.ofString "octets") = some (.bytes oc t) → ReJ oc t lc (oc.size - a.toNat) m [(lr, listOf vs.toArray c2), (lc, listOf us.toArray c1)]
set_option maxHeartbeats 8000000 in
theorem run_encoded_ok {w mean mg mb} {h₀ : Heap} {s : Shared} {dp un : Nat} {fr : Option (List Env)} {gd : Option (List Code)} (G : Gd w mean mg mb h₀) (st : h₀.StaysIn s.heap) (hdp : dp + 1 < recursionLimit) (hun : un + 200 < cLine)
    (oc : Array UInt8) (t : Tok) (hz : oc.size ≤ 16) :
    wpAny (model PySem.Challenge.pw_og0155_01 w) (Rm dp un fr gd) (call (.ref 136) [.bytes oc t]) (Ok s [] (fun r _ => ReRes oc r)) (fun _ _ => False) s := by
  refine' enter (binds := [(Str.ofString "octets", .bytes oc t)]) (news := []) G st (fun _ hp => nomatch hp) (Nat.lt_of_succ_lt hdp) ?ho ?hcd ?hbind ?hloc ?h ?hco ?hgen ?hk ?hcell
  k_extra "my_in"
  intro g' L' h' G' hg' F' N'
  dsimp only
  have X' := G'.X
  have T' := G'.T
  have hks := KBw.ints_length oc
  have hkr : ∀ n ∈ KBw.bInts oc, 0 ≤ n ∧ n < 256 := fun n hn => KBw.ints_in hn
  (try k_fold)
  k_steps
  unfold Stop
  rename_i lc _ _ lr _ hlr _ _ D _ hD _ _ _ _ _ hh _ F1 N0 _ _
  have N1 : News g' L' hh [(lr, listOf #[] 0), (lc, listOf #[] 0)] := fun p hp => N0 p (.tail _ hp)
  clear N0
  refine While_inv2 (n₀ := oc.size) (ReJ oc t lc) F1 N1 ?init ?turn PassesOwn.never
  case init => exact ReJ.mk _ lr [] [] _ [] [] _ 0 _ (Nat.ne_of_lt hlr) .nil .nil ⟨by omega, by omega, ⟨[], .nil, rfl⟩, (fun _ q => nomatch q), (fun _ q => nomatch q), by simp, by simp⟩ rfl rfl rfl rfl
  case turn =>
    rintro q m₁ nx h1 tk1 F2 N2 ⟨_, lr, us, cs, c1, vs, rs, c2, a, ta, hne1, hus, hvs, hinv, hm1, hm2, hm3, hm4⟩
    clear F1 N1 hlr hD
    have ha0 := hinv.h0
    have ha1 := hinv.h1
    have hcl := hinv.cl
    have hrl := hinv.rl
    have hul := hus.length
    have hvl := hvs.length
    rw [hks] at ha1
    have hrc := rowCodes_len rs
    have hcr := hinv.cr
    have hrr := rowCodes_in hinv.rr (by omega)
    have hub : us.length ≤ 40 := by omega
    have hvb : vs.length ≤ 40 := by omega
    have hcb : cs.length ≤ 40 := by rw [← hul]; exact hub
    have hrb : (rowCodes rs).length ≤ 41 := by omega
    (try k_fold)
    k_steps
    · unfold Stop
      (rename Fr _ _ _ _ => fE)
      (rename News _ _ _ _ => nE)
      refine if_mid (fun b => b = true → 2 ≤ c9 ∧ (2 < c9 ∨ rs = [])) fE nE ?test ?yes ?no
      case test =>
        k_steps
        all_goals (rename News _ _ _ _ => nF)
        all_goals (first
          | exact Mid.mk false _ _ (by assumption) (fun p hp => nF p (by first | exact hp | exact List.Mem.tail _ hp)) (fun q => nomatch q)
          | exact Mid.mk true _ _ (by assumption) (fun p hp => nF p (by first | exact hp | exact List.Mem.tail _ hp)) (fun _ => ⟨by omega, .inl (by omega)⟩)
          | exact Mid.mk true _ _ (by assumption) (fun p hp => nF p (by first | exact hp | exact List.Mem.tail _ hp)) (fun _ => ⟨by omega, .inr (by (rename decide _ = true => hd9); simpa using hd9)⟩))
      case yes =>
        intro h' tk' Fy Ny hy
        obtain ⟨hy1, hy2⟩ := hy rfl
        clear fE nE
        (try k_fold)
        k_steps
        (rename News _ _ _ _ => nE)
        refine' wstep (nx := [(_, listOf ([] : List Value).toArray _), (lc, listOf (us ++ _).toArray _)]) (by assumption) nE ?sub ?lt (ReJ.mk _ _ (us ++ _) (cs ++ _) _ [] [] _ _ _ ?ne (IntsAre.append hus ?ii) .nil ?inv ?l1 ?l2 ?l3 ?l4)
        (case sub => k_extra "my_sub")
        (case l1 => k_extra "my_look")
        (case l2 => k_extra "my_look")
        (case l3 => k_extra "my_look")
        (case l4 => k_extra "my_look")
        (case ii => with_reducible assumption)
        (case ne => omega)
        (case lt => exact meas ha0 (by assumption) (by omega))
        (case inv => exact hinv.run hkr (by omega) hy1 (by assumption) (by rw [hks]; assumption) (by assumption) hy2)
      case no =>
        intro h' tk' Fy Ny hy
        clear fE nE hy
        (try k_fold)
        k_steps
        unfold Stop
        refine wpAny_If ?_
        k_steps
        · exfalso; omega
        (rename News _ _ _ _ => nE)
        refine' wstep (nx := [(lr, listOf (vs ++ [Value.int _ _]).toArray _), (lc, listOf us.toArray _)]) (by assumption) nE ?sub ?lt (ReJ.mk _ lr us cs _ (vs ++ [Value.int _ _]) (rs ++ [_]) _ _ _ hne1 hus (IntsAre.append hvs (.cons _ _ .nil)) ?inv ?l1 ?l2 ?l3 ?l4)
        (case sub => k_extra "my_sub")
        (case l1 => k_extra "my_look")
        (case l2 => k_extra "my_look")
        (case l3 => k_extra "my_look")
        (case l4 => k_extra "my_look")
        (case lt => exact meas ha0 (by assumption) (by omega))
        (case inv => exact hinv.one hkr (by rw [hks]; assumption))
    · refine fin_ret (by assumption) ⟨_, _, cs ++ rowCodes rs, rfl, by with_reducible assumption, hinv.fin (by rw [hks]; assumption) (by omega), ?_⟩
      (rename Array.size _ = List.length _ => hS9)
      simp only [List.length_append, List.length_cons, List.length_nil] at hS9
      omega
theorem set_HexEnc : True := by
  k_with_none
  k_with "my_in" => ((w_top off; (case ho => k_dflt k_is); (case hcd => k_dflt k_is); (case hbind => k_dflt (first | exact BindsTo.of_eq rfl | exact binds_K (K := hd.heap_39 _) (Frag.In.keeps (Gd.X (by assumption)) (by assumption)) rfl (by k_dflt k_is) rfl rfl rfl)); (case hloc => exact locs rfl); (case hco => exact rfl); (case hgen => exact rfl); (case hk => exact rfl); (case hcell => decide)))
  k_with "my_look" => (first | with_reducible assumption | exact rfl | (refine' lk_eq ?zk2r; (case zk2r => k_extra "my_look")) | (refine' lk_ne ?zk2n ?zk2r; (case zk2n => decide); (case zk2r => k_extra "my_look")))
  k_with "eval Name" => ((k_here; (with_reducible show wpAny _ _ (eval (PySem.Expr.Name _ _) (envOf _ _ _ _ _)) _ _ _); k_dflt (refine ld (by assumption) (by k_extra "my_look") ?_)))
  k_with "eval Constant int" => ((refine c_const ?_; intro _ _))
  k_with "binaryOp Add int int" => ((refine c_add ?_; intro _ _))
  k_with "binaryOp Sub int int" => ((refine c_sub ?_; intro _ _))
  k_with "binaryOp Mult int int" => ((refine c_mul (by mul_fits) ?_; intro _ _))
  k_with "binaryOp Mod int int" => ((refine c_mod (by omega) ?_; intro _ _ _ _))
  k_with "binaryOp FloorDiv int int" => ((refine c_div (by omega) (by omega) ?_; intro _ _))
  k_with "unaryOp USub int" => ((refine c_neg ?_; intro _ _))
  k_with "binaryOp Pow int int" => ((refine c_pow (by decide) (by decide) (by decide) ?_; intro _ _))
  k_with "my_for" => ((k_dflt (refine for_go (by assumption) ?_ (by intro _; rfl) PassesOwn.never)))
  k_with "my_room" => (first | assumption | ((try dsimp only [Rm]); omega))
  k_with "exec For Name Name cons nil" => (k_extra "my_for")
  k_with "exec For Name Call cons nil" => (k_extra "my_for")
  k_with "exec For Name BinOp cons nil" => (k_extra "my_for")
  k_with "exec For Name Tuple cons nil" => (k_extra "my_for")
  k_with "exec For Tuple Name cons nil" => (k_extra "my_for")
  k_with "exec For Tuple Call cons nil" => (k_extra "my_for")
  k_with "exec For Tuple BinOp cons nil" => (k_extra "my_for")
  k_with "exec For Tuple Tuple cons nil" => (k_extra "my_for")
  k_with "exec While Compare cons nil" => ((refine stop_intro ?_))
  k_with "exec While BoolOp cons nil" => ((refine stop_intro ?_))
  k_with "my_sub" => (first | exact List.forall_mem_nil _ | (refine' List.forall_mem_cons.mpr ⟨by k_mem, ?_⟩; k_extra "my_sub") | k_extra "my_own")
  k_with "my_own" => ((intro _ _; k_extra "my_mem"))
  k_with "my_mem" => (first | assumption | (refine' List.mem_append_left _ ?_; k_extra "my_mem") | (refine' List.mem_append_right _ ?_; k_extra "my_mem") | (refine' List.Mem.tail _ ?_; k_extra "my_mem"))
  k_with "my_size" => (first | exact Nat.le_trans (by with_reducible assumption) (Nat.le_of_ble_eq_true rfl) | omega | (simp only [KBw.ints_length, List.length_append, List.length_take, List.length_drop, List.length_cons, List.length_nil, Array.size_append] at *; omega))
  k_with "my_part" => (first | exact IsPart.none | exact IsPart.int _ _)
  k_with "eval Constant bytes" => ((refine cb_const ?_; intro _ _))
  k_with "call builtin:len" => (((with_reducible show wpAny _ _ (call (Value.builtin "len") [Value.bytes _ _]) _ _ _); refine cb_len (by k_extra "my_size") ?_; intro _ _))
  k_with "binaryOp Add bytes bytes" => ((refine cb_add (by k_extra "my_size") ?_; intro _ _ _ _ _))
  k_with "compareOp Eq bytes bytes" => ((refine cb_eq ?_))
  k_with "compareOp NotEq bytes bytes" => ((refine cb_ne ?_))
  k_with "truthy bytes" => ((refine cb_truthy (by k_extra "my_size") ?_; intro _))
  k_with "binaryOp Mult bytes int" => ((refine cb_mul (by omega) (by omega) (by omega) (by omega) ?_; intro _ _ _ _))
  k_with "call type:bytes" => (((with_reducible show wpAny _ _ (call (Value.type "bytes") [Value.ref _]) _ _ _); k_dflt (refine' cb_make ?zk36F ?zk36N rfl ?zk36l ?zk36i ?zk36r ?zk36n ?_; (case zk36F => assumption); (case zk36N => assumption); (case zk36l => first | exact News.isList (by assumption) (by k_mem) | assumption); (case zk36i => k_extra "my_ints"); (case zk36r => k_extra "my_range"); (case zk36n => k_extra "my_size")); intro _ _ _ _ _ _ _ _))
  k_with "my_ints" => (first | with_reducible assumption | exact IntsAre.nil | (refine' IntsAre.cons _ _ ?zk37c; (case zk37c => k_extra "my_ints")) | (with_reducible refine' IntsAre.append (by k_extra "my_ints") (by k_extra "my_ints")) | assumption)
  k_with "my_range" => (first | with_reducible assumption | exact List.forall_mem_nil _ | ((with_reducible refine' List.forall_mem_append.mpr ⟨?_, ?_⟩) <;> k_extra "my_range") | ((refine' List.forall_mem_cons.mpr ⟨⟨?_, ?_⟩, ?_⟩) <;> (first | omega | k_extra "my_range")))
  k_with "subscriptTail" => (((with_reducible show wpAny _ _ (subscriptTail _ _ (Value.bytes _ _) (Value.int _ _)) _ _ _); k_dflt (refine cb_item (by k_extra "my_size") (by omega) (by omega) ?_); intro _ _ _ _))
  k_with "subscriptTail" => (((with_reducible show wpAny _ _ (subscriptTail _ (Expr.Slice _ _ none _) (Value.bytes _ _) (Value.ref _)) _ _ _); k_dflt (refine' cb_slice ?zk40F ?zk40N ?zk40a ?zk40b ?zk40z ?_; (case zk40F => assumption); (case zk40N => assumption); (case zk40a => k_extra "my_part"); (case zk40b => k_extra "my_part"); (case zk40z => k_extra "my_size")); intro _ _ _ _ _ _ hC _; (first | rw [cut_nn (by omega) (by omega)] at hC | rw [cut_0n (by omega)] at hC | rw [cut_neg (by omega)] at hC); (have hN := congrArg List.length hC); (simp only [KBw.ints_length, List.length_take, List.length_drop] at hN)))
  k_with "call type:list" => (((with_reducible show wpAny _ _ (call (Value.type "list") [Value.bytes _ _]) _ _ _); k_dflt (refine' cl_bytes ?zk41F ?zk41N rfl ?zk41z ?_; (case zk41F => assumption); (case zk41N => assumption); (case zk41z => k_extra "my_size")); intro _ _ _ _ _ l1 _ _ _ _; (try k_lt l1)))
  k_with "call builtin:list.extend" => (((with_reducible show wpAny _ _ (call (Value.builtin _) [Value.ref _, Value.ref _]) _ _ _); k_dflt (refine' cl_extend ?zk42F ?zk42N ?zk42U ?zk42b ?zk42z ?_; (case zk42F => assumption); (case zk42N => assumption); (case zk42U => k_updF); (case zk42b => k_mem); (case zk42z => k_extra "my_lens")); intro _ _ _ _ N'; (try dsimp only at N')))
  k_with "my_lens" => (first | exact Nat.le_trans (by with_reducible assumption) (Nat.le_of_ble_eq_true rfl) | exact Nat.le_trans (Nat.add_le_add_right (by with_reducible assumption) _) (Nat.le_of_ble_eq_true rfl) | exact Nat.le_trans (Nat.add_le_add (by with_reducible assumption) (Nat.add_le_add_right (by with_reducible assumption) _)) (Nat.le_of_ble_eq_true rfl) | exact Nat.le_trans (Nat.add_le_add_right (Nat.add_le_add (by with_reducible assumption) (by with_reducible assumption)) _) (Nat.le_of_ble_eq_true rfl) | exact Nat.le_trans (Nat.add_le_add (by with_reducible assumption) (by with_reducible assumption)) (Nat.le_of_ble_eq_true rfl) | omega | (simp only [List.flatten_replicate_singleton, List.length_replicate]; omega) | ((repeat rw [IntsAre.length (by with_reducible assumption)]); k_extra "my_size"))
  k_with "exec Raise some none" => ((exfalso; omega))
  k_with "my_isl" => (first | exact News.isList (by assumption) (by k_mem) | assumption | exact Heap.IsList.at (by with_reducible assumption) fun o e => Fr.keep (by assumption) _ o e)
  k_with "call builtin:len" => (((with_reducible show wpAny _ _ (call (Value.builtin "len") [Value.ref _]) _ _ _); k_dflt (refine' cl_len ?zk46l ?zk46z ?_; (case zk46l => k_extra "my_isl"); (case zk46z => k_extra "my_lens")); intro _ _; (try simp only [List.length_append, List.length_cons, List.length_nil])))
  k_with "binaryOp Add ref ref" => (((with_reducible show wpAny _ _ (binaryOp Operator.Add (Value.ref _) (Value.ref _)) _ _ _); k_dflt (refine' cl_add ?zk47F ?zk47N ?zk47l ?zk47b ?zk47i ?zk47j ?zk47z ?_; (case zk47F => assumption); (case zk47N => assumption); (case zk47l => k_extra "my_isl"); (case zk47b => k_extra "my_isl"); (case zk47i => k_extra "my_ints"); (case zk47j => k_extra "my_ints"); (case zk47z => k_extra "my_lens")); intro _ _ _ _ _ l1 _ _ _ _; (try k_lt l1)))
  k_with "call builtin:list.append" => (((with_reducible show wpAny _ _ (call (Value.builtin _) [Value.ref _, _]) _ _ _); k_dflt (refine' cl_append ?zk48F ?zk48N ?zk48U ?zk48z ?_; (case zk48F => assumption); (case zk48N => assumption); (case zk48U => k_updF); (case zk48z => k_extra "my_lens")); intro _ _ _ N'; (try dsimp only at N')))
  k_with "subscriptTail Name Slice ref ref" => (((with_reducible show wpAny _ _ (subscriptTail _ (Expr.Slice none (some _) none _) (Value.ref _) (Value.ref _)) _ _ _); k_dflt (refine' cl_upto ?zk49F ?zk49N ?zk49l ?zk49i ?zk49a ?zk49z ?_; (case zk49F => assumption); (case zk49N => assumption); (case zk49l => k_extra "my_isl"); (case zk49i => k_extra "my_ints"); (case zk49a => omega); (case zk49z => k_extra "my_lens")); intro _ _ _ _ _ l1 _ _ _ _; (try k_lt l1)))
  k_with "execs cons" => ((k_here; first | k_fold | (k_made; walk_at "execs cons") | k_gentoks | (with_reducible refine execs_one ?_) | ((with_reducible refine wpAny_execs_cons ?_); (try dsimp only); k_fold)))
  k_with "spliced" => ((k_here; first | (refine args_last ?_; (try dsimp only [List.cons_append, List.nil_append])) | refine args_cons ?_ | (refine args_nil ?_; (try dsimp only [List.cons_append, List.nil_append]))))
  k_with "storeName" => ((k_here; k_dflt (refine' storeM ?zk52F ?zk52N ?_ ?zk52a ?zk52b; (case zk52F => k_asm); (case zk52N => k_asm); (case zk52a => rfl); (case zk52b => rfl); k_whole; intro _ _ _ _; (try k_sweep))))
  trivial
/-- marks of figures, by the worths that they bear -/
structure HexSt (xs nib : List Int) : Prop where
  ok : ∀ c ∈ xs, c ≠ 62 ∧ (0 ≤ worth c ∨ isWhite c = true) ∧ 0 ≤ c ∧ c < 256
  nb : (xs.filter fun c => decide (0 ≤ worth c)).map worth = nib
theorem HexSt.nil : HexSt [] [] := ⟨(fun _ h => nomatch h), rfl⟩
theorem HexSt.fig {xs nib : List Int} {c v : Int} (h : HexSt xs nib) (hc : c ≠ 62) (h0 : 0 ≤ c) (h1 : c < 256) (hv : worth c = v) (hv0 : 0 ≤ v) : HexSt (xs ++ [c]) (nib ++ [v]) := by
  refine ⟨fun x hx => ?_, ?_⟩
  · rcases List.mem_append.mp hx with q | q
    · exact h.ok x q
    · rw [List.mem_singleton.mp q]; exact ⟨hc, .inl (by rw [hv]; exact hv0), h0, h1⟩
  · rw [List.filter_append, List.map_append, h.nb]
    simp [hv, hv0]
theorem HexSt.white {xs nib : List Int} (h : HexSt xs nib) : HexSt (xs ++ [10]) nib := by
  refine ⟨fun x hx => ?_, ?_⟩
  · rcases List.mem_append.mp hx with q | q
    · exact h.ok x q
    · rw [List.mem_singleton.mp q]; exact ⟨by decide, .inr (by decide), by decide, by decide⟩
  · rw [List.filter_append, List.map_append, h.nb]
    have e : decide (0 ≤ worth 10) = false := by decide
    simp [e]
theorem HexSt.append {xs ys a b : List Int} (h : HexSt xs a) (h2 : HexSt ys b) : HexSt (xs ++ ys) (a ++ b) :=
  ⟨fun x hx => (List.mem_append.mp hx).elim (h.ok x) (h2.ok x), by rw [List.filter_append, List.map_append, h.nb, h2.nb]⟩
def nibs (ks : List Int) : List Int := ks.flatMap fun k => [k / 16, k % 16]
theorem nibs_snoc (ks : List Int) (k : Int) : nibs (ks ++ [k]) = nibs ks ++ [k / 16] ++ [k % 16] := by
  unfold nibs
  rw [List.flatMap_append]
  simp
theorem nibs_append (ks ls : List Int) : nibs (ks ++ ls) = nibs ks ++ nibs ls := by
  unfold nibs; exact List.flatMap_append ..
def figU : List UInt8 := [48, 49, 50, 51, 52, 53, 54, 55, 56, 57, 65, 66, 67, 68, 69, 70]
theorem figU_at {v : Int} (h0 : 0 ≤ v) (h1 : v < 16) : ((figU.getD v.toNat 0).toNat : Int) ≠ 62 ∧ worth ((figU.getD v.toNat 0).toNat : Int) = v ∧ 0 ≤ ((figU.getD v.toNat 0).toNat : Int) ∧ ((figU.getD v.toNat 0).toNat : Int) < 256 := by
  have key : ∀ n : _root_.Fin 16, ((figU.getD n.val 0).toNat : Int) ≠ 62 ∧ worth ((figU.getD n.val 0).toNat : Int) = (n.val : Int) ∧ 0 ≤ ((figU.getD n.val 0).toNat : Int) ∧ ((figU.getD n.val 0).toNat : Int) < 256 := by decide
  have h := key ⟨v.toNat, by omega⟩
  have e : ((v.toNat : Nat) : Int) = v := by omega
  rw [show ((⟨v.toNat, by omega⟩ : _root_.Fin 16).val : Int) = v from e] at h
  exact h
theorem two_at {a b : Int} {ta tb : Tok} {j : Nat} {v : Value} (hv : [Value.int ((figU.getD a.toNat 0).toNat : Int) ta, Value.int ((figU.getD b.toNat 0).toNat : Int) tb][j]? = some v) (ha : 0 ≤ a ∧ a < 16) (hb : 0 ≤ b ∧ b < 16) :
    ∃ c t x, v = .int c t ∧ c ≠ 62 ∧ worth c = x ∧ 0 ≤ c ∧ c < 256 ∧ 0 ≤ x ∧ [a, b].take (j + 1) = [a, b].take j ++ [x] ∧ j < 2 := by
  match j with
  | 0 => cases hv; obtain ⟨h1, h2, h3, h4⟩ := figU_at ha.1 ha.2; exact ⟨_, _, a, rfl, h1, h2, h3, h4, ha.1, rfl, by decide⟩
  | 1 => cases hv; obtain ⟨h1, h2, h3, h4⟩ := figU_at hb.1 hb.2; exact ⟨_, _, b, rfl, h1, h2, h3, h4, hb.1, rfl, by decide⟩
  | n + 2 => cases hv
inductive HeRes (oc : Array UInt8) (r : Value) : Prop
  | mk (b : Array UInt8) (t : Tok) (enc : List Int) : r = .bytes b t → KBw.bInts b = enc ++ [62] → HexSt enc (nibs (KBw.bInts oc)) → b.size ≤ 100 → HeRes oc r
inductive HeJ (oc : Array UInt8) (wd : Int) (tw : Tok) (lm : Addr) (own : List (Addr × Obj)) (nb : Nat → List Int) (lim : Nat → Nat) : Nat → (Str → Option Value) → List (Addr × Obj) → Prop
  | mk (i : Nat) (m : Str → Option Value) (us : List Value) (xs : List Int) (c : Nat) : IntsAre us xs → xs.length ≤ lim i → HexSt xs (nb i) → m (Str.ofString "marks") = some (.ref lm) → m (Str.ofString "width") = some (.int wd tw) → HeJ oc wd tw lm own nb lim i m ((lm, listOf us.toArray c) :: own)
set_option maxHeartbeats 8000000 in
theorem hex_encoded_ok {w mean mg mb} {h₀ : Heap} {s : Shared} {dp un : Nat} {fr : Option (List Env)} {gd : Option (List Code)} (G : Gd w mean mg mb h₀) (st : h₀.StaysIn s.heap) (hdp : dp < recursionLimit) (hun : un + 200 < cLine)
    (oc : Array UInt8) (t : Tok) (hz : oc.size ≤ 16) (wd : Int) (tw : Tok) (hw0 : 0 ≤ wd) (hw1 : wd ≤ 100) :
    wpAny (model PySem.Challenge.pw_og0155_01 w) (Rm dp un fr gd) (call (.ref 77) [.bytes oc t, .int wd tw]) (Ok s [] (fun r _ => HeRes oc r)) (fun _ _ => False) s := by
  refine' enter (binds := [(Str.ofString "octets", .bytes oc t), (Str.ofString "width", .int wd tw)]) (news := []) G st (fun _ hp => nomatch hp) hdp ?ho ?hcd ?hbind ?hloc ?h ?hco ?hgen ?hk ?hcell
  k_extra "my_in"
  intro g' L' h' G' hg' F' N' ev Ak
  have X' := G'.X
  have T' := G'.T
  have hks := KBw.ints_length oc
  (try k_fold)
  k_steps
  unfold Stop
  rename_i lm _ _ hh _ F1 N1 _ _
  refine for_bytes rfl F1 N1
    (HeJ oc wd tw lm [] (fun i => nibs ((KBw.bInts oc).take i)) (fun i => 4 * i))
    (HeJ.mk _ _ [] [] _ .nil (Nat.zero_le _) .nil rfl rfl) ?turn ?done
  case turn =>
    rintro i k tk m1 nx h1 tk1 own hik hk0 hk1 ha ⟨us, xs, c1, hus, hxl, hst, hm1, hm2⟩ hoff F2 N2
    simp only [List.cons_append, List.nil_append, List.map_cons, List.map_nil] at N2 hoff
    (try dsimp only at hxl hst)
    have hi16 : i < oc.size := by rw [← hks]; exact (List.getElem?_eq_some_iff.mp hik).1
    clear F1 N1
    (try k_fold)
    k_steps
    unfold Stop
    rename_i D hh2 F3 N3 hlt
    have N4 : News g' L' hh2 ((lm, listOf us.toArray c1) :: own) := fun p hp => N3 p (.tail _ hp)
    refine for_tuple (l := D) (vs := [Value.int ((figU.getD (k / 16).toNat 0).toNat : Int) _, Value.int ((figU.getD (k % 16).toNat 0).toNat : Int) _]) rfl ⟨_, (N3 _ (.head _)).1, rfl, _, rfl⟩ (N3 _ (.head _)).2.1
      (List.forall_mem_cons.mpr ⟨Nat.ne_of_lt hlt.1, fun p hp => Nat.ne_of_lt (kst_ltOf hlt.2 p hp)⟩) F3 N4
      (HeJ oc wd tw lm own (fun j => nibs ((KBw.bInts oc).take i) ++ [k / 16, k % 16].take j) (fun j => 4 * i + 2 * j))
      (HeJ.mk _ _ us xs _ hus hxl (by simpa using hst) (by k_extra "my_look") (by k_extra "my_look")) ?turn2 ?done2
    case turn2 =>
      rintro j v m2 nx h2 tk2 own2 hv ha2 ⟨us2, xs2, c2, hus2, hxl2, hst2, hm3, hm4⟩ hoff2 F4 N5
      obtain ⟨c, tc, x, rfl, hc62, hcw, hc0, hc1, hx0, htk, hj2⟩ := two_at hv (by omega) (by omega)
      simp only [List.cons_append, List.map_cons] at N5 hoff2
      (try dsimp only at hxl2 hst2)
      have hul2 := hus2.length
      have hub : us2.length ≤ 1000 := by omega
      have hst3 : HexSt (xs2 ++ [c]) (nibs ((KBw.bInts oc).take i) ++ [k / 16, k % 16].take (j + 1)) := by
        rw [htk, ← List.append_assoc]; exact hst2.fig hc62 hc0 hc1 hcw hx0
      clear F3 N3 N4 F2 N2 hm1 hm2 hst hus
      (try k_fold)
      k_steps
      all_goals (
        (rename News _ _ _ _ => nE)
        first
        | (refine' tend_next (nx := (lm, listOf (us2 ++ [Value.int c tc] ++ [Value.int 10 _]).toArray _) :: own) (by assumption) nE ?sub ?own ?adr (HeJ.mk _ _ _ (xs2 ++ [c] ++ [10]) _ (IntsAre.append (IntsAre.append hus2 (.cons _ _ .nil)) (.cons _ _ .nil)) ?len hst3.white ?l1 ?l2)
           (case sub => k_extra "my_sub")
           (case own => exact fun p hp => List.Mem.tail _ (List.mem_append_right _ hp))
           (case adr => rfl)
           (case len => ((try dsimp only); simp only [List.length_append, List.length_cons, List.length_nil]; omega))
           (case l1 => k_extra "my_look")
           (case l2 => k_extra "my_look"))
        | (refine' tend_next (nx := (lm, listOf (us2 ++ [Value.int c tc]).toArray _) :: own) (by assumption) nE ?sub ?own ?adr (HeJ.mk _ _ _ (xs2 ++ [c]) _ (IntsAre.append hus2 (.cons _ _ .nil)) ?len hst3 ?l1 ?l2)
           (case sub => k_extra "my_sub")
           (case own => exact fun p hp => List.Mem.tail _ (List.mem_append_right _ hp))
           (case adr => rfl)
           (case len => ((try dsimp only); simp only [List.length_append, List.length_cons, List.length_nil]; omega))
           (case l1 => k_extra "my_look")
           (case l2 => k_extra "my_look")))
    case done2 =>
      rintro m2 nx h2 tk2 ha2 ⟨us2, xs2, c2, hus2, hxl2, hst2, hm3, hm4⟩ F4 N5
      have F5 : Fr g' L' h2 m2 := F4
      have N6 : News g' L' h2 ((lm, listOf us2.toArray c2) :: own) := N5
      clear F3 N3 N4 F2 N2 F4 N5
      (try dsimp only)
      (try k_fold)
      k_steps
      refine' tend_next (nx := [(lm, listOf us2.toArray _)]) (by assumption) N6 ?sub ?own ?adr (HeJ.mk _ _ us2 xs2 _ hus2 ?len ?st ?l1 ?l2)
      (case sub => k_extra "my_sub")
      (case own => k_extra "my_own")
      (case adr => rfl)
      (case len => ((try dsimp only at hxl2 ⊢); simp only [List.length_cons, List.length_nil] at hxl2; omega))
      (case st =>
        (try dsimp only at hst2 ⊢)
        rw [List.take_add_one, hik]
        show HexSt xs2 (nibs ((KBw.bInts oc).take i ++ [k]))
        rw [nibs_snoc, List.append_assoc]
        exact hst2)
      (case l1 => k_extra "my_look")
      (case l2 => k_extra "my_look")
  case done =>
    rintro m1 nx h1 tk1 ha ⟨us, xs, c1, hus, hxl, hst, hm1, hm2⟩ F2 N2
    have F3 : Fr g' L' h1 m1 := F2
    have N3 : News g' L' h1 [(lm, listOf us.toArray c1)] := N2
    clear F1 N1 F2 N2
    (try dsimp only at hxl hst)
    have hul := hus.length
    have hxr : ∀ n ∈ xs, 0 ≤ n ∧ n < 256 := fun n hn => (hst.ok n hn).2.2
    (try dsimp only)
    (try k_fold)
    k_steps
    refine fin_ret (by assumption) ⟨_, _, xs, rfl, by with_reducible assumption, ?_, ?_⟩
    · rw [List.take_of_length_le (by rw [hks]; exact Nat.le_refl _)] at hst
      exact hst
    · (rename Array.size _ = List.length _ => hS9)
      simp only [List.length_append, List.length_cons, List.length_nil] at hS9
      omega
theorem set_Signs : True := by
  k_with_none
  k_with "my_in" => ((w_top off; (case ho => k_dflt k_is); (case hcd => k_dflt k_is); (case hbind => k_dflt (first | exact BindsTo.of_eq rfl | exact binds_K (K := hd.heap_39 _) (Frag.In.keeps (Gd.X (by assumption)) (by assumption)) rfl (by k_dflt k_is) rfl rfl rfl)); (case hloc => exact locs rfl); (case hco => exact rfl); (case hgen => exact rfl); (case hk => exact rfl); (case hcell => decide)))
  k_with "my_look" => (first | with_reducible assumption | exact rfl | (refine' lk_eq ?zk2r; (case zk2r => k_extra "my_look")) | (refine' lk_ne ?zk2n ?zk2r; (case zk2n => decide); (case zk2r => k_extra "my_look")))
  k_with "eval Name" => ((k_here; (with_reducible show wpAny _ _ (eval (PySem.Expr.Name _ _) (envOf _ _ _ _ _)) _ _ _); k_dflt (refine ld (by assumption) (by k_extra "my_look") ?_)))
  k_with "eval Constant int" => ((refine c_const ?_; intro _ _))
  k_with "binaryOp Add int int" => ((refine c_add ?_; intro _ _))
  k_with "binaryOp Sub int int" => ((refine c_sub ?_; intro _ _))
  k_with "binaryOp Mult int int" => ((refine c_mul (by mul_fits) ?_; intro _ _))
  k_with "binaryOp Mod int int" => ((refine c_mod (by omega) ?_; intro _ _ _ _))
  k_with "binaryOp FloorDiv int int" => ((refine c_div (by omega) (by omega) ?_; intro _ _))
  k_with "unaryOp USub int" => ((refine c_neg ?_; intro _ _))
  k_with "binaryOp Pow int int" => ((refine c_pow (by decide) (by decide) (by decide) ?_; intro _ _))
  k_with "my_for" => ((k_dflt (refine for_go (by assumption) ?_ (by intro _; rfl) PassesOwn.never)))
  k_with "my_room" => (first | assumption | ((try dsimp only [Rm]); omega))
  k_with "exec For Name Name cons nil" => (k_extra "my_for")
  k_with "exec For Name Call cons nil" => (k_extra "my_for")
  k_with "exec For Name BinOp cons nil" => (k_extra "my_for")
  k_with "exec For Name Tuple cons nil" => (k_extra "my_for")
  k_with "exec For Tuple Name cons nil" => (k_extra "my_for")
  k_with "exec For Tuple Call cons nil" => (k_extra "my_for")
  k_with "exec For Tuple BinOp cons nil" => (k_extra "my_for")
  k_with "exec For Tuple Tuple cons nil" => (k_extra "my_for")
  k_with "exec While Compare cons nil" => ((refine stop_intro ?_))
  k_with "exec While BoolOp cons nil" => ((refine stop_intro ?_))
  k_with "my_sub" => (first | exact List.forall_mem_nil _ | (refine' List.forall_mem_cons.mpr ⟨by k_mem, ?_⟩; k_extra "my_sub") | k_extra "my_own")
  k_with "my_own" => ((intro _ _; k_extra "my_mem"))
  k_with "my_mem" => (first | assumption | (refine' List.mem_append_left _ ?_; k_extra "my_mem") | (refine' List.mem_append_right _ ?_; k_extra "my_mem") | (refine' List.Mem.tail _ ?_; k_extra "my_mem"))
  k_with "my_size" => (first | exact Nat.le_trans (by with_reducible assumption) (Nat.le_of_ble_eq_true rfl) | omega | (simp only [KBw.ints_length, List.length_append, List.length_take, List.length_drop, List.length_cons, List.length_nil, Array.size_append] at *; omega))
  k_with "my_part" => (first | exact IsPart.none | exact IsPart.int _ _)
  k_with "eval Constant bytes" => ((refine cb_const ?_; intro _ _))
  k_with "call builtin:len" => (((with_reducible show wpAny _ _ (call (Value.builtin "len") [Value.bytes _ _]) _ _ _); refine cb_len (by k_extra "my_size") ?_; intro _ _))
  k_with "binaryOp Add bytes bytes" => ((refine cb_add (by k_extra "my_size") ?_; intro _ _ _ _ _))
  k_with "compareOp Eq bytes bytes" => ((refine cb_eq ?_))
  k_with "compareOp NotEq bytes bytes" => ((refine cb_ne ?_))
  k_with "truthy bytes" => ((refine cb_truthy (by k_extra "my_size") ?_; intro _))
  k_with "binaryOp Mult bytes int" => ((refine cb_mul (by omega) (by omega) (by omega) (by omega) ?_; intro _ _ _ _))
  k_with "call type:bytes" => (((with_reducible show wpAny _ _ (call (Value.type "bytes") [Value.ref _]) _ _ _); k_dflt (refine' cb_make ?zk36F ?zk36N rfl ?zk36l ?zk36i ?zk36r ?zk36n ?_; (case zk36F => assumption); (case zk36N => assumption); (case zk36l => first | exact News.isList (by assumption) (by k_mem) | assumption); (case zk36i => k_extra "my_ints"); (case zk36r => k_extra "my_range"); (case zk36n => k_extra "my_size")); intro _ _ _ _ _ _ _ _))
  k_with "my_ints" => (first | with_reducible assumption | exact IntsAre.nil | (refine' IntsAre.cons _ _ ?zk37c; (case zk37c => k_extra "my_ints")) | (with_reducible refine' IntsAre.append (by k_extra "my_ints") (by k_extra "my_ints")) | assumption)
  k_with "my_range" => (first | with_reducible assumption | exact List.forall_mem_nil _ | ((with_reducible refine' List.forall_mem_append.mpr ⟨?_, ?_⟩) <;> k_extra "my_range") | ((refine' List.forall_mem_cons.mpr ⟨⟨?_, ?_⟩, ?_⟩) <;> (first | omega | k_extra "my_range")))
  k_with "subscriptTail" => (((with_reducible show wpAny _ _ (subscriptTail _ _ (Value.bytes _ _) (Value.int _ _)) _ _ _); k_dflt (refine cb_item (by k_extra "my_size") (by omega) (by omega) ?_); intro _ _ _ _))
  k_with "subscriptTail" => (((with_reducible show wpAny _ _ (subscriptTail _ (Expr.Slice _ _ none _) (Value.bytes _ _) (Value.ref _)) _ _ _); k_dflt (refine' cb_slice ?zk40F ?zk40N ?zk40a ?zk40b ?zk40z ?_; (case zk40F => assumption); (case zk40N => assumption); (case zk40a => k_extra "my_part"); (case zk40b => k_extra "my_part"); (case zk40z => k_extra "my_size")); intro _ _ _ _ _ _ hC _; (first | rw [cut_nn (by omega) (by omega)] at hC | rw [cut_0n (by omega)] at hC | rw [cut_neg (by omega)] at hC); (have hN := congrArg List.length hC); (simp only [KBw.ints_length, List.length_take, List.length_drop] at hN)))
  k_with "call type:list" => (((with_reducible show wpAny _ _ (call (Value.type "list") [Value.bytes _ _]) _ _ _); k_dflt (refine' cl_bytes ?zk41F ?zk41N rfl ?zk41z ?_; (case zk41F => assumption); (case zk41N => assumption); (case zk41z => k_extra "my_size")); intro _ _ _ _ _ l1 _ _ _ _; (try k_lt l1)))
  k_with "call builtin:list.extend" => (((with_reducible show wpAny _ _ (call (Value.builtin _) [Value.ref _, Value.ref _]) _ _ _); k_dflt (refine' cl_extend ?zk42F ?zk42N ?zk42U ?zk42b ?zk42z ?_; (case zk42F => assumption); (case zk42N => assumption); (case zk42U => k_updF); (case zk42b => k_mem); (case zk42z => k_extra "my_lens")); intro _ _ _ _ N'; (try dsimp only at N')))
  k_with "my_lens" => (first | exact Nat.le_trans (by with_reducible assumption) (Nat.le_of_ble_eq_true rfl) | exact Nat.le_trans (Nat.add_le_add_right (by with_reducible assumption) _) (Nat.le_of_ble_eq_true rfl) | exact Nat.le_trans (Nat.add_le_add (by with_reducible assumption) (Nat.add_le_add_right (by with_reducible assumption) _)) (Nat.le_of_ble_eq_true rfl) | exact Nat.le_trans (Nat.add_le_add_right (Nat.add_le_add (by with_reducible assumption) (by with_reducible assumption)) _) (Nat.le_of_ble_eq_true rfl) | exact Nat.le_trans (Nat.add_le_add (by with_reducible assumption) (by with_reducible assumption)) (Nat.le_of_ble_eq_true rfl) | omega | (simp only [List.flatten_replicate_singleton, List.length_replicate]; omega) | ((repeat rw [IntsAre.length (by with_reducible assumption)]); k_extra "my_size"))
  k_with "exec Raise some none" => ((exfalso; omega))
  k_with "my_isl" => (first | exact News.isList (by assumption) (by k_mem) | assumption | exact Heap.IsList.at (by with_reducible assumption) fun o e => Fr.keep (by assumption) _ o e)
  k_with "call builtin:len" => (((with_reducible show wpAny _ _ (call (Value.builtin "len") [Value.ref _]) _ _ _); k_dflt (refine' cl_len ?zk46l ?zk46z ?_; (case zk46l => k_extra "my_isl"); (case zk46z => k_extra "my_lens")); intro _ _; (try simp only [List.length_append, List.length_cons, List.length_nil])))
  k_with "binaryOp Add ref ref" => (((with_reducible show wpAny _ _ (binaryOp Operator.Add (Value.ref _) (Value.ref _)) _ _ _); k_dflt (refine' cl_add ?zk47F ?zk47N ?zk47l ?zk47b ?zk47i ?zk47j ?zk47z ?_; (case zk47F => assumption); (case zk47N => assumption); (case zk47l => k_extra "my_isl"); (case zk47b => k_extra "my_isl"); (case zk47i => k_extra "my_ints"); (case zk47j => k_extra "my_ints"); (case zk47z => k_extra "my_lens")); intro _ _ _ _ _ l1 _ _ _ _; (try k_lt l1)))
  k_with "call builtin:list.append" => (((with_reducible show wpAny _ _ (call (Value.builtin _) [Value.ref _, _]) _ _ _); k_dflt (refine' cl_append ?zk48F ?zk48N ?zk48U ?zk48z ?_; (case zk48F => assumption); (case zk48N => assumption); (case zk48U => k_updF); (case zk48z => k_extra "my_lens")); intro _ _ _ N'; (try dsimp only at N')))
  k_with "subscriptTail Name Slice ref ref" => (((with_reducible show wpAny _ _ (subscriptTail _ (Expr.Slice none (some _) none _) (Value.ref _) (Value.ref _)) _ _ _); k_dflt (refine' cl_upto ?zk49F ?zk49N ?zk49l ?zk49i ?zk49a ?zk49z ?_; (case zk49F => assumption); (case zk49N => assumption); (case zk49l => k_extra "my_isl"); (case zk49i => k_extra "my_ints"); (case zk49a => omega); (case zk49z => k_extra "my_lens")); intro _ _ _ _ _ l1 _ _ _ _; (try k_lt l1)))
  k_with "execs cons" => ((k_here; first | k_fold | (k_made; walk_at "execs cons") | k_gentoks | (with_reducible refine execs_one ?_) | ((with_reducible refine wpAny_execs_cons ?_); (try dsimp only); k_fold)))
  k_with "spliced" => ((k_here; first | (refine args_last ?_; (try dsimp only [List.cons_append, List.nil_append])) | refine args_cons ?_ | (refine args_nil ?_; (try dsimp only [List.cons_append, List.nil_append]))))
  k_with "storeName" => ((k_here; k_dflt (refine' storeM ?zk52F ?zk52N ?_ ?zk52a ?zk52b; (case zk52F => k_asm); (case zk52N => k_asm); (case zk52a => rfl); (case zk52b => rfl); k_whole; intro _ _ _ _; (try k_sweep))))
  trivial
def val (b : Int) (xs : List Int) : Int := xs.foldl (fun t o => b * t + o) 0
theorem val_snoc (b : Int) (xs : List Int) (x : Int) : val b (xs ++ [x]) = b * val b xs + x := by unfold val; rw [List.foldl_append]; rfl
theorem val256_lt {xs : List Int} (h : ∀ x ∈ xs, 0 ≤ x ∧ x < 256) (hl : xs.length ≤ 4) : 0 ≤ val 256 xs ∧ val 256 xs < 4294967296 := by
  match xs, hl with
  | [], _ => exact ⟨by decide, by decide⟩
  | [a], _ => have := h a (by simp); simp only [val, List.foldl]; omega
  | [a, b], _ => have h1 := h a (by simp); have h2 := h b (by simp); simp only [val, List.foldl]; omega
  | [a, b, c], _ => have h1 := h a (by simp); have h2 := h b (by simp); have h3 := h c (by simp); simp only [val, List.foldl]; omega
  | [a, b, c, d], _ => have h1 := h a (by simp); have h2 := h b (by simp); have h3 := h c (by simp); have h4 := h d (by simp); simp only [val, List.foldl]; omega
  | _ :: _ :: _ :: _ :: _ :: _, hl => exact absurd hl (by simp)
/-- digits, the least first -/
def digs (b : Int) : Nat → Int → Int × List Int
  | 0, v => (v, [])
  | n + 1, v => ((digs b n v).1 / b, (digs b n v).2 ++ [(digs b n v).1 % b])
theorem digs_len (b : Int) : ∀ (n : Nat) (v : Int), (digs b n v).2.length = n
  | 0, _ => rfl
  | n + 1, v => by simp [digs, digs_len b n v]
def signsOf (xs : List Int) : List Int := (digs 85 5 (val 256 xs)).2.reverse
set_option maxHeartbeats 8000000 in
theorem signs_ok {w mean mg mb} {h₀ : Heap} {s : Shared} {dp un : Nat} {fr : Option (List Env)} {gd : Option (List Code)} (G : Gd w mean mg mb h₀) (st : h₀.StaysIn s.heap) (hdp : dp < recursionLimit)
    (l : Addr) (us : List Value) (xs : List Int) (hl : s.heap.IsList l us.toArray) (hi : IntsAre us xs) (hz : xs.length = 4) (hx : ∀ x ∈ xs, 0 ≤ x ∧ x < 256) :
    wpAny (model PySem.Challenge.pw_og0155_01 w) (Rm dp un fr gd) (call (.ref 96) [.ref l]) (Ok s [] (NewInts s.heap (signsOf xs))) (fun _ _ => False) s := by
  refine' enter (binds := [(Str.ofString "group", .ref l)]) (news := []) G st (fun _ hp => nomatch hp) hdp ?ho ?hcd ?hbind ?hloc ?h ?hco ?hgen ?hk ?hcell
  k_extra "my_in"
  intro g' L' h' ⟨X', T'⟩ hg' F' N' ev Ak
  have hlg : g'.IsList l us.toArray := Heap.IsList.at hl fun o e => hg' _ o (fun q => nomatch q) e
  have hul := hi.length
  have hlL : l ≠ L' := by
    obtain ⟨ol, hol, _⟩ := hlg
    intro e
    exact absurd (Nat.lt_of_lt_of_le (Heap.lt_size hol) F'.above) (by rw [e]; exact Nat.lt_irrefl _)
  clear hl
  (try k_fold)
  k_steps
  unfold Stop
  rename_i hh _ F1 N1 _ _
  refine for_list (l := l) (vs := us) rfl (Heap.IsList.at hlg fun o e => F1.keep _ o e) hlL (List.forall_mem_nil _) F1 N1
    (fun i m nx => ∃ t, nx = [] ∧ m (Str.ofString "total") = some (.int (val 256 (xs.take i)) t)) ⟨_, rfl, rfl⟩ ?turn ?done
  case turn =>
    rintro i v m1 nx h1 tk1 own hv ha ⟨t, rfl, hm1⟩ hoff F2 N2
    have hi4 : i < 4 := by rw [← hz, ← hul]; exact (List.getElem?_eq_some_iff.mp hv).1
    obtain ⟨x, tx, rfl, hx1⟩ := IntsAre.at hi i v hv
    have hb := val256_lt (xs := xs.take i) (fun y hy => hx y (List.mem_of_mem_take hy)) (by rw [List.length_take]; omega)
    have F3 : Fr g' L' h1 m1 := F2
    have N3 : News g' L' h1 own := N2
    clear F1 N1 F2 N2
    (try k_fold)
    k_steps
    (rename News _ _ _ _ => nE)
    refine' tend_next (nx := []) (by assumption) nE ?sub ?own rfl ⟨_, rfl, ?l1⟩
    (case sub => exact List.forall_mem_nil _)
    (case own => k_extra "my_own")
    (case l1 =>
      rw [List.take_add_one, hx1]
      show _ = some (Value.int (val 256 (xs.take i ++ [x])) _)
      rw [val_snoc]
      k_extra "my_look")
  case done =>
    rintro m1 nx h1 tk1 ha ⟨t, rfl, hm1⟩ F2 N2
    have F3 : Fr g' L' h1 m1 := F2
    have N3 : News g' L' h1 [] := N2
    clear F1 N1 F2 N2
    (try dsimp only)
    (try k_fold)
    k_steps
    unfold Stop
    rename_i ls _ _ _ _ _ _ _ _ hr2 _ _ _ _ hrg F4 N4 _
    rw [List.take_of_length_le (by omega)] at hm1
    refine for_range (n := 5) rfl hrg (by decide) (by decide) F4 N4
      (fun i m nx => ∃ us c t, nx = [(ls, listOf us.toArray c)] ∧ IntsAre us (digs 85 i (val 256 xs)).2 ∧ m (Str.ofString "total") = some (.int (digs 85 i (val 256 xs)).1 t) ∧ m (Str.ofString "signs") = some (.ref ls))
      ⟨[], _, _, rfl, .nil, (by show _ = some (Value.int (val 256 xs) _); k_extra "my_look"), by k_extra "my_look"⟩ ?turn2 ?done2
    case turn2 =>
      rintro i ti m2 nx h2 tk2 own hi5 ha2 ⟨us2, c2, t2, rfl, hus2, hm2, hm3⟩ hoff2 F5 N5
      simp only [List.cons_append, List.nil_append, List.map_cons, List.map_nil] at N5 hoff2
      have F6 : Fr g' L' h2 m2 := F5
      have N6 : News g' L' h2 ((ls, listOf us2.toArray c2) :: own) := N5
      have hul2 := hus2.length
      rw [digs_len] at hul2
      clear F4 N4 F5 N5 hrg
      (try k_fold)
      k_steps
      (rename News _ _ _ _ => nE)
      refine' tend_next (nx := [(ls, listOf (us2 ++ [Value.int _ _]).toArray _)]) (by assumption) nE ?sub ?own ?adr ⟨_, _, _, rfl, IntsAre.append hus2 (.cons _ _ .nil), ?l1, ?l2⟩
      (case sub => k_extra "my_sub")
      (case own => k_extra "my_own")
      (case adr => rfl)
      (case l1 => show _ = some (Value.int ((digs 85 i (val 256 xs)).1 / 85) _); k_extra "my_look")
      (case l2 => k_extra "my_look")
    case done2 =>
      rintro m2 nx h2 tk2 ha2 ⟨us2, c2, t2, rfl, hus2, hm2, hm3⟩ F5 N5
      have F6 : Fr g' L' h2 m2 := F5
      have N6 : News g' L' h2 [(ls, listOf us2.toArray c2)] := N5
      have hul2 := hus2.length
      rw [digs_len] at hul2
      clear F4 N4 F5 N5 hrg
      (try dsimp only)
      (try k_fold)
      k_steps
      exact fin_ret (by assumption) ⟨_, _, _, rfl, News.get (by assumption) (List.Mem.head _), fresh_of hg' (by assumption) (List.Mem.head _), by assumption⟩
theorem set_Octs : True := by
  k_with_none
  k_with "my_in" => ((w_top off; (case ho => k_dflt k_is); (case hcd => k_dflt k_is); (case hbind => k_dflt (first | exact BindsTo.of_eq rfl | exact binds_K (K := hd.heap_39 _) (Frag.In.keeps (Gd.X (by assumption)) (by assumption)) rfl (by k_dflt k_is) rfl rfl rfl)); (case hloc => exact locs rfl); (case hco => exact rfl); (case hgen => exact rfl); (case hk => exact rfl); (case hcell => decide)))
  k_with "my_look" => (first | with_reducible assumption | exact rfl | (refine' lk_eq ?zk2r; (case zk2r => k_extra "my_look")) | (refine' lk_ne ?zk2n ?zk2r; (case zk2n => decide); (case zk2r => k_extra "my_look")))
  k_with "eval Name" => ((k_here; (with_reducible show wpAny _ _ (eval (PySem.Expr.Name _ _) (envOf _ _ _ _ _)) _ _ _); k_dflt (refine ld (by assumption) (by k_extra "my_look") ?_)))
  k_with "eval Constant int" => ((refine c_const ?_; intro _ _))
  k_with "binaryOp Add int int" => ((refine c_add ?_; intro _ _))
  k_with "binaryOp Sub int int" => ((refine c_sub ?_; intro _ _))
  k_with "binaryOp Mult int int" => ((refine c_mul (by mul_fits) ?_; intro _ _))
  k_with "binaryOp Mod int int" => ((refine c_mod (by omega) ?_; intro _ _ _ _))
  k_with "binaryOp FloorDiv int int" => ((refine c_div (by omega) (by omega) ?_; intro _ _))
  k_with "unaryOp USub int" => ((refine c_neg ?_; intro _ _))
  k_with "binaryOp Pow int int" => ((refine c_pow (by decide) (by decide) (by decide) ?_; intro _ _))
  k_with "my_for" => ((k_dflt (refine for_go (by assumption) ?_ (by intro _; rfl) PassesOwn.never)))
  k_with "my_room" => (first | assumption | ((try dsimp only [Rm]); omega))
  k_with "exec For Name Name cons nil" => (k_extra "my_for")
  k_with "exec For Name Call cons nil" => (k_extra "my_for")
  k_with "exec For Name BinOp cons nil" => (k_extra "my_for")
  k_with "exec For Name Tuple cons nil" => (k_extra "my_for")
  k_with "exec For Tuple Name cons nil" => (k_extra "my_for")
  k_with "exec For Tuple Call cons nil" => (k_extra "my_for")
  k_with "exec For Tuple BinOp cons nil" => (k_extra "my_for")
  k_with "exec For Tuple Tuple cons nil" => (k_extra "my_for")
  k_with "exec While Compare cons nil" => ((refine stop_intro ?_))
  k_with "exec While BoolOp cons nil" => ((refine stop_intro ?_))
  k_with "my_sub" => (first | exact List.forall_mem_nil _ | (refine' List.forall_mem_cons.mpr ⟨by k_mem, ?_⟩; k_extra "my_sub") | k_extra "my_own")
  k_with "my_own" => ((intro _ _; k_extra "my_mem"))
  k_with "my_mem" => (first | assumption | (refine' List.mem_append_left _ ?_; k_extra "my_mem") | (refine' List.mem_append_right _ ?_; k_extra "my_mem") | (refine' List.Mem.tail _ ?_; k_extra "my_mem"))
  k_with "my_size" => (first | exact Nat.le_trans (by with_reducible assumption) (Nat.le_of_ble_eq_true rfl) | omega | (simp only [KBw.ints_length, List.length_append, List.length_take, List.length_drop, List.length_cons, List.length_nil, Array.size_append] at *; omega))
  k_with "my_part" => (first | exact IsPart.none | exact IsPart.int _ _)
  k_with "eval Constant bytes" => ((refine cb_const ?_; intro _ _))
  k_with "call builtin:len" => (((with_reducible show wpAny _ _ (call (Value.builtin "len") [Value.bytes _ _]) _ _ _); refine cb_len (by k_extra "my_size") ?_; intro _ _))
  k_with "binaryOp Add bytes bytes" => ((refine cb_add (by k_extra "my_size") ?_; intro _ _ _ _ _))
  k_with "compareOp Eq bytes bytes" => ((refine cb_eq ?_))
  k_with "compareOp NotEq bytes bytes" => ((refine cb_ne ?_))
  k_with "truthy bytes" => ((refine cb_truthy (by k_extra "my_size") ?_; intro _))
  k_with "binaryOp Mult bytes int" => ((refine cb_mul (by omega) (by omega) (by omega) (by omega) ?_; intro _ _ _ _))
  k_with "call type:bytes" => (((with_reducible show wpAny _ _ (call (Value.type "bytes") [Value.ref _]) _ _ _); k_dflt (refine' cb_make ?zk36F ?zk36N rfl ?zk36l ?zk36i ?zk36r ?zk36n ?_; (case zk36F => assumption); (case zk36N => assumption); (case zk36l => first | exact News.isList (by assumption) (by k_mem) | assumption); (case zk36i => k_extra "my_ints"); (case zk36r => k_extra "my_range"); (case zk36n => k_extra "my_size")); intro _ _ _ _ _ _ _ _))
  k_with "my_ints" => (first | with_reducible assumption | exact IntsAre.nil | (refine' IntsAre.cons _ _ ?zk37c; (case zk37c => k_extra "my_ints")) | (with_reducible refine' IntsAre.append (by k_extra "my_ints") (by k_extra "my_ints")) | assumption)
  k_with "my_range" => (first | with_reducible assumption | exact List.forall_mem_nil _ | ((with_reducible refine' List.forall_mem_append.mpr ⟨?_, ?_⟩) <;> k_extra "my_range") | ((refine' List.forall_mem_cons.mpr ⟨⟨?_, ?_⟩, ?_⟩) <;> (first | omega | k_extra "my_range")))
  k_with "subscriptTail" => (((with_reducible show wpAny _ _ (subscriptTail _ _ (Value.bytes _ _) (Value.int _ _)) _ _ _); k_dflt (refine cb_item (by k_extra "my_size") (by omega) (by omega) ?_); intro _ _ _ _))
  k_with "subscriptTail" => (((with_reducible show wpAny _ _ (subscriptTail _ (Expr.Slice _ _ none _) (Value.bytes _ _) (Value.ref _)) _ _ _); k_dflt (refine' cb_slice ?zk40F ?zk40N ?zk40a ?zk40b ?zk40z ?_; (case zk40F => assumption); (case zk40N => assumption); (case zk40a => k_extra "my_part"); (case zk40b => k_extra "my_part"); (case zk40z => k_extra "my_size")); intro _ _ _ _ _ _ hC _; (first | rw [cut_nn (by omega) (by omega)] at hC | rw [cut_0n (by omega)] at hC | rw [cut_neg (by omega)] at hC); (have hN := congrArg List.length hC); (simp only [KBw.ints_length, List.length_take, List.length_drop] at hN)))
  k_with "call type:list" => (((with_reducible show wpAny _ _ (call (Value.type "list") [Value.bytes _ _]) _ _ _); k_dflt (refine' cl_bytes ?zk41F ?zk41N rfl ?zk41z ?_; (case zk41F => assumption); (case zk41N => assumption); (case zk41z => k_extra "my_size")); intro _ _ _ _ _ l1 _ _ _ _; (try k_lt l1)))
  k_with "call builtin:list.extend" => (((with_reducible show wpAny _ _ (call (Value.builtin _) [Value.ref _, Value.ref _]) _ _ _); k_dflt (refine' cl_extend ?zk42F ?zk42N ?zk42U ?zk42b ?zk42z ?_; (case zk42F => assumption); (case zk42N => assumption); (case zk42U => k_updF); (case zk42b => k_mem); (case zk42z => k_extra "my_lens")); intro _ _ _ _ N'; (try dsimp only at N')))
  k_with "my_lens" => (first | exact Nat.le_trans (by with_reducible assumption) (Nat.le_of_ble_eq_true rfl) | exact Nat.le_trans (Nat.add_le_add_right (by with_reducible assumption) _) (Nat.le_of_ble_eq_true rfl) | exact Nat.le_trans (Nat.add_le_add (by with_reducible assumption) (Nat.add_le_add_right (by with_reducible assumption) _)) (Nat.le_of_ble_eq_true rfl) | exact Nat.le_trans (Nat.add_le_add_right (Nat.add_le_add (by with_reducible assumption) (by with_reducible assumption)) _) (Nat.le_of_ble_eq_true rfl) | exact Nat.le_trans (Nat.add_le_add (by with_reducible assumption) (by with_reducible assumption)) (Nat.le_of_ble_eq_true rfl) | omega | (simp only [List.flatten_replicate_singleton, List.length_replicate]; omega) | ((repeat rw [IntsAre.length (by with_reducible assumption)]); k_extra "my_size"))
  k_with "exec Raise some none" => ((exfalso; omega))
  k_with "my_isl" => (first | exact News.isList (by assumption) (by k_mem) | assumption | exact Heap.IsList.at (by with_reducible assumption) fun o e => Fr.keep (by assumption) _ o e)
  k_with "call builtin:len" => (((with_reducible show wpAny _ _ (call (Value.builtin "len") [Value.ref _]) _ _ _); k_dflt (refine' cl_len ?zk46l ?zk46z ?_; (case zk46l => k_extra "my_isl"); (case zk46z => k_extra "my_lens")); intro _ _; (try simp only [List.length_append, List.length_cons, List.length_nil])))
  k_with "binaryOp Add ref ref" => (((with_reducible show wpAny _ _ (binaryOp Operator.Add (Value.ref _) (Value.ref _)) _ _ _); k_dflt (refine' cl_add ?zk47F ?zk47N ?zk47l ?zk47b ?zk47i ?zk47j ?zk47z ?_; (case zk47F => assumption); (case zk47N => assumption); (case zk47l => k_extra "my_isl"); (case zk47b => k_extra "my_isl"); (case zk47i => k_extra "my_ints"); (case zk47j => k_extra "my_ints"); (case zk47z => k_extra "my_lens")); intro _ _ _ _ _ l1 _ _ _ _; (try k_lt l1)))
  k_with "call builtin:list.append" => (((with_reducible show wpAny _ _ (call (Value.builtin _) [Value.ref _, _]) _ _ _); k_dflt (refine' cl_append ?zk48F ?zk48N ?zk48U ?zk48z ?_; (case zk48F => assumption); (case zk48N => assumption); (case zk48U => k_updF); (case zk48z => k_extra "my_lens")); intro _ _ _ N'; (try dsimp only at N')))
  k_with "subscriptTail Name Slice ref ref" => (((with_reducible show wpAny _ _ (subscriptTail _ (Expr.Slice none (some _) none _) (Value.ref _) (Value.ref _)) _ _ _); k_dflt (refine' cl_upto ?zk49F ?zk49N ?zk49l ?zk49i ?zk49a ?zk49z ?_; (case zk49F => assumption); (case zk49N => assumption); (case zk49l => k_extra "my_isl"); (case zk49i => k_extra "my_ints"); (case zk49a => omega); (case zk49z => k_extra "my_lens")); intro _ _ _ _ _ l1 _ _ _ _; (try k_lt l1)))
  k_with "execs cons" => ((k_here; first | k_fold | (k_made; walk_at "execs cons") | k_gentoks | (with_reducible refine execs_one ?_) | ((with_reducible refine wpAny_execs_cons ?_); (try dsimp only); k_fold)))
  k_with "spliced" => ((k_here; first | (refine args_last ?_; (try dsimp only [List.cons_append, List.nil_append])) | refine args_cons ?_ | (refine args_nil ?_; (try dsimp only [List.cons_append, List.nil_append]))))
  k_with "storeName" => ((k_here; k_dflt (refine' storeM ?zk52F ?zk52N ?_ ?zk52a ?zk52b; (case zk52F => k_asm); (case zk52N => k_asm); (case zk52a => rfl); (case zk52b => rfl); k_whole; intro _ _ _ _; (try k_sweep))))
  trivial
def full85 (xs : List Int) : List Int := xs ++ List.replicate (5 - xs.length) 84
def octsOf (xs : List Int) : List Int := (digs 256 4 (val 85 (full85 xs))).2.reverse.take (4 - (5 - xs.length))
theorem val85_lt {xs : List Int} (h : ∀ x ∈ xs, 0 ≤ x ∧ x ≤ 84) (hl : xs.length ≤ 5) : 0 ≤ val 85 xs ∧ val 85 xs < 4437053125 := by
  match xs, hl with
  | [], _ => exact ⟨by decide, by decide⟩
  | [a], _ => have := h a (by simp); simp only [val, List.foldl]; omega
  | [a, b], _ => have h1 := h a (by simp); have h2 := h b (by simp); simp only [val, List.foldl]; omega
  | [a, b, c], _ => have h1 := h a (by simp); have h2 := h b (by simp); have h3 := h c (by simp); simp only [val, List.foldl]; omega
  | [a, b, c, d], _ => have h1 := h a (by simp); have h2 := h b (by simp); have h3 := h c (by simp); have h4 := h d (by simp); simp only [val, List.foldl]; omega
  | [a, b, c, d, e], _ => have h1 := h a (by simp); have h2 := h b (by simp); have h3 := h c (by simp); have h4 := h d (by simp); have h5 := h e (by simp); simp only [val, List.foldl]; omega
  | _ :: _ :: _ :: _ :: _ :: _ :: _, hl => exact absurd hl (by simp)
theorem four_five {n : Nat} (h : n ≤ 5) : (4 - (5 - (n : Int))).toNat = 4 - (5 - n) := by
  have e : (5 : Int) - n = ((5 - n : Nat) : Int) := by omega
  rw [e]; exact Int.toNat_sub 4 (5 - n)
set_option maxHeartbeats 8000000 in
theorem octs_ok {w mean mg mb} {h₀ : Heap} {s : Shared} {dp un : Nat} {fr : Option (List Env)} {gd : Option (List Code)} (G : Gd w mean mg mb h₀) (st : h₀.StaysIn s.heap) (hdp : dp < recursionLimit) (hun : un + 200 < cLine)
    (l : Addr) (us : List Value) (xs : List Int) (hl : s.heap.IsList l us.toArray) (hi : IntsAre us xs) (hz : 2 ≤ xs.length) (hz2 : xs.length ≤ 5) (hx : ∀ x ∈ xs, 0 ≤ x ∧ x ≤ 84) (hv : val 85 (full85 xs) ≤ 4294967295) (at' : Int) (ta : Tok) :
    wpAny (model PySem.Challenge.pw_og0155_01 w) (Rm dp un fr gd) (call (.ref 108) [.ref l, .int at' ta]) (Ok s [] (NewInts s.heap (octsOf xs))) (fun _ _ => False) s := by
  refine' enter (binds := [(Str.ofString "signs", .ref l), (Str.ofString "at", .int at' ta)]) (news := []) G st (fun _ hp => nomatch hp) hdp ?ho ?hcd ?hbind ?hloc ?h ?hco ?hgen ?hk ?hcell
  k_extra "my_in"
  intro g' L' h' ⟨X', T'⟩ hg' F' N' ev Ak
  have hlg : g'.IsList l us.toArray := Heap.IsList.at hl fun o e => hg' _ o (fun q => nomatch q) e
  have hul := hi.length
  clear hl
  (try k_fold)
  k_steps
  unfold Stop
  rename_i D ws _ hh _ F1 N0 hI0 _
  have hI : IntsAre ws (full85 xs) := by
    have e : (5 - (us.length : Int)).toNat = 5 - xs.length := by rw [hul]; exact Int.toNat_sub 5 xs.length
    rw [List.flatten_replicate_singleton, e] at hI0
    exact hI0
  have hfl : (full85 xs).length = 5 := by unfold full85; rw [List.length_append, List.length_replicate]; exact Nat.add_sub_of_le hz2
  have hfx : ∀ x ∈ full85 xs, 0 ≤ x ∧ x ≤ 84 := by
    intro x h
    rcases List.mem_append.mp h with q | q
    · exact hx x q
    · rw [List.eq_of_mem_replicate q]; decide
  have hwl := hI.length
  have N1 : News g' L' hh [] := fun _ q => nomatch q
  refine for_list (l := D) (vs := ws) rfl (News.isList N0 (.head _)) (N0 _ (.head _)).2.1 (List.forall_mem_nil _) F1 N1
    (fun i m nx => ∃ t, nx = [] ∧ m (Str.ofString "total") = some (.int (val 85 ((full85 xs).take i)) t) ∧ m (Str.ofString "missing") = some (.int (5 - (us.length : Int)) _) ) ⟨_, rfl, (by k_extra "my_look"), (by k_extra "my_look")⟩ ?turn ?done
  case turn =>
    rintro i v m1 nx h1 tk1 own hv ha ⟨t, rfl, hm1, hm0⟩ hoff F2 N2
    have hi4 : i < 5 := by rw [← hfl, ← hwl]; exact (List.getElem?_eq_some_iff.mp hv).1
    obtain ⟨x, tx, rfl, hx1⟩ := IntsAre.at hI i v hv
    have hb := val85_lt (xs := (full85 xs).take i) (fun y hy => hfx y (List.mem_of_mem_take hy)) (Nat.le_trans (List.length_take_le' _ _) (Nat.le_of_eq hfl))
    have F3 : Fr g' L' h1 m1 := F2
    have N3 : News g' L' h1 own := N2
    clear F1 N1 N0 F2 N2
    (try k_fold)
    k_steps
    (rename News _ _ _ _ => nE)
    refine' tend_next (nx := []) (by assumption) nE ?sub ?own rfl ⟨_, rfl, ?l1, ?l2⟩
    (case sub => exact List.forall_mem_nil _)
    (case own => k_extra "my_own")
    (case l1 =>
      rw [List.take_add_one, hx1]
      show _ = some (Value.int (val 85 ((full85 xs).take i ++ [x])) _)
      rw [val_snoc]
      k_extra "my_look")
    (case l2 => k_extra "my_look")
  case done =>
    rintro m1 nx h1 tk1 ha ⟨t, rfl, hm1, hm0⟩ F2 N2
    have F3 : Fr g' L' h1 m1 := F2
    have N3 : News g' L' h1 [] := N2
    clear F1 N1 N0 F2 N2
    rw [List.take_of_length_le (by omega)] at hm1
    (try dsimp only)
    (try k_fold)
    k_steps
    unfold Stop
    rename_i ls _ _ _ _ _ _ _ _ hr2 _ _ _ _ hrg F4 N4 _
    refine for_range (n := 4) rfl hrg (by decide) (by decide) F4 N4
      (fun i m nx => ∃ us' c t, nx = [(ls, listOf us'.toArray c)] ∧ IntsAre us' (digs 256 i (val 85 (full85 xs))).2 ∧ m (Str.ofString "total") = some (.int (digs 256 i (val 85 (full85 xs))).1 t) ∧ m (Str.ofString "octets") = some (.ref ls) ∧ m (Str.ofString "missing") = some (.int (5 - (us.length : Int)) _))
      ⟨[], _, _, rfl, .nil, (by show _ = some (Value.int (val 85 (full85 xs)) _); k_extra "my_look"), (by k_extra "my_look"), (by k_extra "my_look")⟩ ?turn2 ?done2
    case turn2 =>
      rintro i ti m2 nx h2 tk2 own hi5 ha2 ⟨us2, c2, t2, rfl, hus2, hm2, hm3, hm4⟩ hoff2 F5 N5
      simp only [List.cons_append, List.nil_append, List.map_cons, List.map_nil] at N5 hoff2
      have F6 : Fr g' L' h2 m2 := F5
      have N6 : News g' L' h2 ((ls, listOf us2.toArray c2) :: own) := N5
      have hul2 := hus2.length
      rw [digs_len] at hul2
      clear F4 N4 F5 N5 hrg
      (try k_fold)
      k_steps
      (rename News _ _ _ _ => nE)
      refine' tend_next (nx := [(ls, listOf (us2 ++ [Value.int _ _]).toArray _)]) (by assumption) nE ?sub ?own ?adr ⟨_, _, _, rfl, IntsAre.append hus2 (.cons _ _ .nil), ?l1, ?l2, ?l3⟩
      (case sub => k_extra "my_sub")
      (case own => k_extra "my_own")
      (case adr => rfl)
      (case l1 => show _ = some (Value.int ((digs 256 i (val 85 (full85 xs))).1 / 256) _); k_extra "my_look")
      (case l2 => k_extra "my_look")
      (case l3 => k_extra "my_look")
    case done2 =>
      rintro m2 nx h2 tk2 ha2 ⟨us2, c2, t2, rfl, hus2, hm2, hm3, hm4⟩ F5 N5
      have F6 : Fr g' L' h2 m2 := F5
      have N6 : News g' L' h2 [(ls, listOf us2.toArray c2)] := N5
      have hul2 := hus2.length
      rw [digs_len] at hul2
      clear F4 N4 F5 N5 hrg
      have hdl := digs_len 256 4 (val 85 (full85 xs))
      (try dsimp only)
      (try k_fold)
      k_steps
      rename_i hI9 _
      refine fin_ret (by assumption) ⟨_, _, _, rfl, News.get (by assumption) (List.Mem.head _), fresh_of hg' (by assumption) (List.Mem.head _), ?_⟩
      unfold octsOf
      have e9 : (4 - (5 - (us.length : Int))).toNat = 4 - (5 - xs.length) := by rw [hul]; exact four_five hz2
      rw [← e9]
      exact hI9
theorem set_EndAt : True := by
  k_with_none
  k_with "my_in" => ((w_top off; (case ho => k_dflt k_is); (case hcd => k_dflt k_is); (case hbind => k_dflt (first | exact BindsTo.of_eq rfl | exact binds_K (K := hd.heap_39 _) (Frag.In.keeps (Gd.X (by assumption)) (by assumption)) rfl (by k_dflt k_is) rfl rfl rfl)); (case hloc => exact locs rfl); (case hco => exact rfl); (case hgen => exact rfl); (case hk => exact rfl); (case hcell => decide)))
  k_with "my_look" => (first | with_reducible assumption | exact rfl | (refine' lk_eq ?zk2r; (case zk2r => k_extra "my_look")) | (refine' lk_ne ?zk2n ?zk2r; (case zk2n => decide); (case zk2r => k_extra "my_look")))
  k_with "eval Name" => ((k_here; (with_reducible show wpAny _ _ (eval (PySem.Expr.Name _ _) (envOf _ _ _ _ _)) _ _ _); k_dflt (refine ld (by assumption) (by k_extra "my_look") ?_)))
  k_with "eval Constant int" => ((refine c_const ?_; intro _ _))
  k_with "binaryOp Add int int" => ((refine c_add ?_; intro _ _))
  k_with "binaryOp Sub int int" => ((refine c_sub ?_; intro _ _))
  k_with "binaryOp Mult int int" => ((refine c_mul (by mul_fits) ?_; intro _ _))
  k_with "binaryOp Mod int int" => ((refine c_mod (by omega) ?_; intro _ _ _ _))
  k_with "binaryOp FloorDiv int int" => ((refine c_div (by omega) (by omega) ?_; intro _ _))
  k_with "unaryOp USub int" => ((refine c_neg ?_; intro _ _))
  k_with "binaryOp Pow int int" => ((refine c_pow (by decide) (by decide) (by decide) ?_; intro _ _))
  k_with "my_for" => ((k_dflt (refine for_go (by assumption) ?_ (by intro _; rfl) PassesOwn.never)))
  k_with "my_room" => (first | assumption | ((try dsimp only [Rm]); omega))
  k_with "exec For Name Name cons nil" => (k_extra "my_for")
  k_with "exec For Name Call cons nil" => (k_extra "my_for")
  k_with "exec For Name BinOp cons nil" => (k_extra "my_for")
  k_with "exec For Name Tuple cons nil" => (k_extra "my_for")
  k_with "exec For Tuple Name cons nil" => (k_extra "my_for")
  k_with "exec For Tuple Call cons nil" => (k_extra "my_for")
  k_with "exec For Tuple BinOp cons nil" => (k_extra "my_for")
  k_with "exec For Tuple Tuple cons nil" => (k_extra "my_for")
  k_with "exec While Compare cons nil" => ((refine stop_intro ?_))
  k_with "exec While BoolOp cons nil" => ((refine stop_intro ?_))
  k_with "my_sub" => (first | exact List.forall_mem_nil _ | (refine' List.forall_mem_cons.mpr ⟨by k_mem, ?_⟩; k_extra "my_sub") | k_extra "my_own")
  k_with "my_own" => ((intro _ _; k_extra "my_mem"))
  k_with "my_mem" => (first | assumption | (refine' List.mem_append_left _ ?_; k_extra "my_mem") | (refine' List.mem_append_right _ ?_; k_extra "my_mem") | (refine' List.Mem.tail _ ?_; k_extra "my_mem"))
  k_with "my_size" => (first | exact Nat.le_trans (by with_reducible assumption) (Nat.le_of_ble_eq_true rfl) | omega | (simp only [KBw.ints_length, List.length_append, List.length_take, List.length_drop, List.length_cons, List.length_nil, Array.size_append] at *; omega))
  k_with "my_part" => (first | exact IsPart.none | exact IsPart.int _ _)
  k_with "eval Constant bytes" => ((refine cb_const ?_; intro _ _))
  k_with "call builtin:len" => (((with_reducible show wpAny _ _ (call (Value.builtin "len") [Value.bytes _ _]) _ _ _); refine cb_len (by k_extra "my_size") ?_; intro _ _))
  k_with "binaryOp Add bytes bytes" => ((refine cb_add (by k_extra "my_size") ?_; intro _ _ _ _ _))
  k_with "compareOp Eq bytes bytes" => ((refine cb_eq ?_))
  k_with "compareOp NotEq bytes bytes" => ((refine cb_ne ?_))
  k_with "truthy bytes" => ((refine cb_truthy (by k_extra "my_size") ?_; intro _))
  k_with "binaryOp Mult bytes int" => ((refine cb_mul (by omega) (by omega) (by omega) (by omega) ?_; intro _ _ _ _))
  k_with "call type:bytes" => (((with_reducible show wpAny _ _ (call (Value.type "bytes") [Value.ref _]) _ _ _); k_dflt (refine' cb_make ?zk36F ?zk36N rfl ?zk36l ?zk36i ?zk36r ?zk36n ?_; (case zk36F => assumption); (case zk36N => assumption); (case zk36l => first | exact News.isList (by assumption) (by k_mem) | assumption); (case zk36i => k_extra "my_ints"); (case zk36r => k_extra "my_range"); (case zk36n => k_extra "my_size")); intro _ _ _ _ _ _ _ _))
  k_with "my_ints" => (first | with_reducible assumption | exact IntsAre.nil | (refine' IntsAre.cons _ _ ?zk37c; (case zk37c => k_extra "my_ints")) | (with_reducible refine' IntsAre.append (by k_extra "my_ints") (by k_extra "my_ints")) | assumption)
  k_with "my_range" => (first | with_reducible assumption | exact List.forall_mem_nil _ | ((with_reducible refine' List.forall_mem_append.mpr ⟨?_, ?_⟩) <;> k_extra "my_range") | ((refine' List.forall_mem_cons.mpr ⟨⟨?_, ?_⟩, ?_⟩) <;> (first | omega | k_extra "my_range")))
  k_with "subscriptTail" => (((with_reducible show wpAny _ _ (subscriptTail _ _ (Value.bytes _ _) (Value.int _ _)) _ _ _); k_dflt (refine cb_item (by k_extra "my_size") (by omega) (by omega) ?_); intro _ _ _ _))
  k_with "subscriptTail" => (((with_reducible show wpAny _ _ (subscriptTail _ (Expr.Slice _ _ none _) (Value.bytes _ _) (Value.ref _)) _ _ _); k_dflt (refine' cb_slice ?zk40F ?zk40N ?zk40a ?zk40b ?zk40z ?_; (case zk40F => assumption); (case zk40N => assumption); (case zk40a => k_extra "my_part"); (case zk40b => k_extra "my_part"); (case zk40z => k_extra "my_size")); intro _ _ _ _ _ _ hC _; (first | rw [cut_nn (by omega) (by omega)] at hC | rw [cut_0n (by omega)] at hC | rw [cut_neg (by omega)] at hC); (have hN := congrArg List.length hC); (simp only [KBw.ints_length, List.length_take, List.length_drop] at hN)))
  k_with "call type:list" => (((with_reducible show wpAny _ _ (call (Value.type "list") [Value.bytes _ _]) _ _ _); k_dflt (refine' cl_bytes ?zk41F ?zk41N rfl ?zk41z ?_; (case zk41F => assumption); (case zk41N => assumption); (case zk41z => k_extra "my_size")); intro _ _ _ _ _ l1 _ _ _ _; (try k_lt l1)))
  k_with "call builtin:list.extend" => (((with_reducible show wpAny _ _ (call (Value.builtin _) [Value.ref _, Value.ref _]) _ _ _); k_dflt (refine' cl_extend ?zk42F ?zk42N ?zk42U ?zk42b ?zk42z ?_; (case zk42F => assumption); (case zk42N => assumption); (case zk42U => k_updF); (case zk42b => k_mem); (case zk42z => k_extra "my_lens")); intro _ _ _ _ N'; (try dsimp only at N')))
  k_with "my_lens" => (first | exact Nat.le_trans (by with_reducible assumption) (Nat.le_of_ble_eq_true rfl) | exact Nat.le_trans (Nat.add_le_add_right (by with_reducible assumption) _) (Nat.le_of_ble_eq_true rfl) | exact Nat.le_trans (Nat.add_le_add (by with_reducible assumption) (Nat.add_le_add_right (by with_reducible assumption) _)) (Nat.le_of_ble_eq_true rfl) | exact Nat.le_trans (Nat.add_le_add_right (Nat.add_le_add (by with_reducible assumption) (by with_reducible assumption)) _) (Nat.le_of_ble_eq_true rfl) | exact Nat.le_trans (Nat.add_le_add (by with_reducible assumption) (by with_reducible assumption)) (Nat.le_of_ble_eq_true rfl) | omega | (simp only [List.flatten_replicate_singleton, List.length_replicate]; omega) | ((repeat rw [IntsAre.length (by with_reducible assumption)]); k_extra "my_size"))
  k_with "exec Raise some none" => ((exfalso; omega))
  k_with "my_isl" => (first | exact News.isList (by assumption) (by k_mem) | assumption | exact Heap.IsList.at (by with_reducible assumption) fun o e => Fr.keep (by assumption) _ o e)
  k_with "call builtin:len" => (((with_reducible show wpAny _ _ (call (Value.builtin "len") [Value.ref _]) _ _ _); k_dflt (refine' cl_len ?zk46l ?zk46z ?_; (case zk46l => k_extra "my_isl"); (case zk46z => k_extra "my_lens")); intro _ _; (try simp only [List.length_append, List.length_cons, List.length_nil])))
  k_with "binaryOp Add ref ref" => (((with_reducible show wpAny _ _ (binaryOp Operator.Add (Value.ref _) (Value.ref _)) _ _ _); k_dflt (refine' cl_add ?zk47F ?zk47N ?zk47l ?zk47b ?zk47i ?zk47j ?zk47z ?_; (case zk47F => assumption); (case zk47N => assumption); (case zk47l => k_extra "my_isl"); (case zk47b => k_extra "my_isl"); (case zk47i => k_extra "my_ints"); (case zk47j => k_extra "my_ints"); (case zk47z => k_extra "my_lens")); intro _ _ _ _ _ l1 _ _ _ _; (try k_lt l1)))
  k_with "call builtin:list.append" => (((with_reducible show wpAny _ _ (call (Value.builtin _) [Value.ref _, _]) _ _ _); k_dflt (refine' cl_append ?zk48F ?zk48N ?zk48U ?zk48z ?_; (case zk48F => assumption); (case zk48N => assumption); (case zk48U => k_updF); (case zk48z => k_extra "my_lens")); intro _ _ _ N'; (try dsimp only at N')))
  k_with "subscriptTail Name Slice ref ref" => (((with_reducible show wpAny _ _ (subscriptTail _ (Expr.Slice none (some _) none _) (Value.ref _) (Value.ref _)) _ _ _); k_dflt (refine' cl_upto ?zk49F ?zk49N ?zk49l ?zk49i ?zk49a ?zk49z ?_; (case zk49F => assumption); (case zk49N => assumption); (case zk49l => k_extra "my_isl"); (case zk49i => k_extra "my_ints"); (case zk49a => omega); (case zk49z => k_extra "my_lens")); intro _ _ _ _ _ l1 _ _ _ _; (try k_lt l1)))
  k_with "execs cons" => ((k_here; first | k_fold | (k_made; walk_at "execs cons") | k_gentoks | (with_reducible refine execs_one ?_) | ((with_reducible refine wpAny_execs_cons ?_); (try dsimp only); k_fold)))
  k_with "spliced" => ((k_here; first | (refine args_last ?_; (try dsimp only [List.cons_append, List.nil_append])) | refine args_cons ?_ | (refine args_nil ?_; (try dsimp only [List.cons_append, List.nil_append]))))
  k_with "storeName" => ((k_here; k_dflt (refine' storeM ?zk52F ?zk52N ?_ ?zk52a ?zk52b; (case zk52F => k_asm); (case zk52N => k_asm); (case zk52a => rfl); (case zk52b => rfl); k_whole; intro _ _ _ _; (try k_sweep))))
  trivial
set_option maxHeartbeats 8000000 in
theorem end_at_ok {w mean mg mb} {h₀ : Heap} {s : Shared} {dp un : Nat} {fr : Option (List Env)} {gd : Option (List Code)} (G : Gd w mean mg mb h₀) (st : h₀.StaysIn s.heap) (hdp : dp < recursionLimit)
    (data : Array UInt8) (t : Tok) (hz : data.size ≤ 1000) (a : Int) (ta : Tok) (ha0 : 0 ≤ a) (ha1 : a + 1 < (data.size : Int)) (hc : (KBw.bInts data).getD (a + 1).toNat 0 = 62) :
    wpAny (model PySem.Challenge.pw_og0155_01 w) (Rm dp un fr gd) (call (.ref 115) [.bytes data t, .int a ta]) (Ok s [] (fun r _ => r = .bool true)) (fun _ _ => False) s := by
  refine' enter (binds := [(Str.ofString "data", .bytes data t), (Str.ofString "at", .int a ta)]) (news := []) G st (fun _ hp => nomatch hp) hdp ?ho ?hcd ?hbind ?hloc ?h ?hco ?hgen ?hk ?hcell
  k_extra "my_in"
  intro g' L' h' ⟨X', T'⟩ hg' F' N' ev Ak
  (try k_fold)
  k_steps
  unfold Stop
  rename_i hrg F1 N1 _
  refine for_range (n := ((data.size : Int) - (a + 1)).toNat) rfl hrg (small_one (by omega) (by omega) (by omega) (by omega)) (rangeSize_nat _ _) F1 N1
    (fun i m nx => i = 0 ∧ nx = [] ∧ m (Str.ofString "data") = some (.bytes data t)) ⟨rfl, rfl, by k_extra "my_look"⟩ ?turn ?done
  case turn =>
    rintro i ti m1 nx h1 tk1 own hi5 ha2 ⟨rfl, rfl, hm1⟩ hoff F5 N5
    have F6 : Fr g' L' h1 m1 := F5
    have N6 : News g' L' h1 own := N5
    have e1 : a + 1 + ((0 : Nat) : Int) * 1 = a + 1 := by omega
    rw [e1]
    clear F1 N1 hrg F5 N5
    (try k_fold)
    k_steps
    all_goals first | (exfalso; omega) | (unfold TEnd; exact fin_ret (g := g') (L := L') (s := s) (by assumption) rfl) | (unfold TEnd; dsimp only; exact fin_ret (g := g') (L := L') (s := s) (by assumption) rfl)
  case done =>
    rintro m1 nx h1 tk1 ha2 ⟨h9, _⟩ F5 N5
    exfalso
    omega
theorem set_Enc85 : True := by
  k_with_none
  k_with "my_in" => ((w_top off; (case ho => k_dflt k_is); (case hcd => k_dflt k_is); (case hbind => k_dflt (first | exact BindsTo.of_eq rfl | exact binds_K (K := hd.heap_39 _) (Frag.In.keeps (Gd.X (by assumption)) (by assumption)) rfl (by k_dflt k_is) rfl rfl rfl)); (case hloc => exact locs rfl); (case hco => exact rfl); (case hgen => exact rfl); (case hk => exact rfl); (case hcell => decide)))
  k_with "my_look" => (first | with_reducible assumption | exact rfl | (refine' lk_eq ?zk2r; (case zk2r => k_extra "my_look")) | (refine' lk_ne ?zk2n ?zk2r; (case zk2n => decide); (case zk2r => k_extra "my_look")))
  k_with "eval Name" => ((k_here; (with_reducible show wpAny _ _ (eval (PySem.Expr.Name _ _) (envOf _ _ _ _ _)) _ _ _); k_dflt (refine ld (by assumption) (by k_extra "my_look") ?_)))
  k_with "eval Constant int" => ((refine c_const ?_; intro _ _))
  k_with "binaryOp Add int int" => ((refine c_add ?_; intro _ _))
  k_with "binaryOp Sub int int" => ((refine c_sub ?_; intro _ _))
  k_with "binaryOp Mult int int" => ((refine c_mul (by mul_fits) ?_; intro _ _))
  k_with "binaryOp Mod int int" => ((refine c_mod (by omega) ?_; intro _ _ _ _))
  k_with "binaryOp FloorDiv int int" => ((refine c_div (by omega) (by omega) ?_; intro _ _))
  k_with "unaryOp USub int" => ((refine c_neg ?_; intro _ _))
  k_with "binaryOp Pow int int" => ((refine c_pow (by decide) (by decide) (by decide) ?_; intro _ _))
  k_with "my_for" => ((k_dflt (refine for_go (by assumption) ?_ (by intro _; rfl) PassesOwn.never)))
  k_with "my_room" => (first | assumption | ((try dsimp only [Rm]); omega))
  k_with "exec For Name Name cons nil" => (k_extra "my_for")
  k_with "exec For Name Call cons nil" => (k_extra "my_for")
  k_with "exec For Name BinOp cons nil" => (k_extra "my_for")
  k_with "exec For Name Tuple cons nil" => (k_extra "my_for")
  k_with "exec For Tuple Name cons nil" => (k_extra "my_for")
  k_with "exec For Tuple Call cons nil" => (k_extra "my_for")
  k_with "exec For Tuple BinOp cons nil" => (k_extra "my_for")
  k_with "exec For Tuple Tuple cons nil" => (k_extra "my_for")
  k_with "exec While Compare cons nil" => ((refine stop_intro ?_))
  k_with "exec While BoolOp cons nil" => ((refine stop_intro ?_))
  k_with "my_sub" => (first | exact List.forall_mem_nil _ | (refine' List.forall_mem_cons.mpr ⟨by k_mem, ?_⟩; k_extra "my_sub") | k_extra "my_own")
  k_with "my_own" => ((intro _ _; k_extra "my_mem"))
  k_with "my_mem" => (first | assumption | (refine' List.mem_append_left _ ?_; k_extra "my_mem") | (refine' List.mem_append_right _ ?_; k_extra "my_mem") | (refine' List.Mem.tail _ ?_; k_extra "my_mem"))
  k_with "my_size" => (first | exact Nat.le_trans (by with_reducible assumption) (Nat.le_of_ble_eq_true rfl) | omega | (simp only [KBw.ints_length, List.length_append, List.length_take, List.length_drop, List.length_cons, List.length_nil, Array.size_append] at *; omega))
  k_with "my_part" => (first | exact IsPart.none | exact IsPart.int _ _)
  k_with "eval Constant bytes" => ((refine cb_const ?_; intro _ _))
  k_with "call builtin:len" => (((with_reducible show wpAny _ _ (call (Value.builtin "len") [Value.bytes _ _]) _ _ _); refine cb_len (by k_extra "my_size") ?_; intro _ _))
  k_with "binaryOp Add bytes bytes" => ((refine cb_add (by k_extra "my_size") ?_; intro _ _ _ _ _))
  k_with "compareOp Eq bytes bytes" => ((refine cb_eq ?_))
  k_with "compareOp NotEq bytes bytes" => ((refine cb_ne ?_))
  k_with "truthy bytes" => ((refine cb_truthy (by k_extra "my_size") ?_; intro _))
  k_with "binaryOp Mult bytes int" => ((refine cb_mul (by omega) (by omega) (by omega) (by omega) ?_; intro _ _ _ _))
  k_with "call type:bytes" => (((with_reducible show wpAny _ _ (call (Value.type "bytes") [Value.ref _]) _ _ _); k_dflt (refine' cb_make ?zk36F ?zk36N rfl ?zk36l ?zk36i ?zk36r ?zk36n ?_; (case zk36F => assumption); (case zk36N => assumption); (case zk36l => first | exact News.isList (by assumption) (by k_mem) | assumption); (case zk36i => k_extra "my_ints"); (case zk36r => k_extra "my_range"); (case zk36n => k_extra "my_size")); intro _ _ _ _ _ _ _ _))
  k_with "my_ints" => (first | with_reducible assumption | exact IntsAre.nil | (refine' IntsAre.cons _ _ ?zk37c; (case zk37c => k_extra "my_ints")) | (with_reducible refine' IntsAre.append (by k_extra "my_ints") (by k_extra "my_ints")) | assumption)
  k_with "my_range" => (first | with_reducible assumption | exact List.forall_mem_nil _ | ((with_reducible refine' List.forall_mem_append.mpr ⟨?_, ?_⟩) <;> k_extra "my_range") | ((refine' List.forall_mem_cons.mpr ⟨⟨?_, ?_⟩, ?_⟩) <;> (first | omega | k_extra "my_range")))
  k_with "subscriptTail" => (((with_reducible show wpAny _ _ (subscriptTail _ _ (Value.bytes _ _) (Value.int _ _)) _ _ _); k_dflt (refine cb_item (by k_extra "my_size") (by omega) (by omega) ?_); intro _ _ _ _))
  k_with "subscriptTail" => (((with_reducible show wpAny _ _ (subscriptTail _ (Expr.Slice _ _ none _) (Value.bytes _ _) (Value.ref _)) _ _ _); k_dflt (refine' cb_slice ?zk40F ?zk40N ?zk40a ?zk40b ?zk40z ?_; (case zk40F => assumption); (case zk40N => assumption); (case zk40a => k_extra "my_part"); (case zk40b => k_extra "my_part"); (case zk40z => k_extra "my_size")); intro _ _ _ _ _ _ hC _; (first | rw [cut_nn (by omega) (by omega)] at hC | rw [cut_0n (by omega)] at hC | rw [cut_neg (by omega)] at hC); (have hN := congrArg List.length hC); (simp only [KBw.ints_length, List.length_take, List.length_drop] at hN)))
  k_with "call type:list" => (((with_reducible show wpAny _ _ (call (Value.type "list") [Value.bytes _ _]) _ _ _); k_dflt (refine' cl_bytes ?zk41F ?zk41N rfl ?zk41z ?_; (case zk41F => assumption); (case zk41N => assumption); (case zk41z => k_extra "my_size")); intro _ _ _ _ _ l1 _ _ _ _; (try k_lt l1)))
  k_with "call builtin:list.extend" => (((with_reducible show wpAny _ _ (call (Value.builtin _) [Value.ref _, Value.ref _]) _ _ _); k_dflt (refine' cl_extend ?zk42F ?zk42N ?zk42U ?zk42b ?zk42z ?_; (case zk42F => assumption); (case zk42N => assumption); (case zk42U => k_updF); (case zk42b => k_mem); (case zk42z => k_extra "my_lens")); intro _ _ _ _ N'; (try dsimp only at N')))
  k_with "my_lens" => (first | exact Nat.le_trans (by with_reducible assumption) (Nat.le_of_ble_eq_true rfl) | exact Nat.le_trans (Nat.add_le_add_right (by with_reducible assumption) _) (Nat.le_of_ble_eq_true rfl) | exact Nat.le_trans (Nat.add_le_add (by with_reducible assumption) (Nat.add_le_add_right (by with_reducible assumption) _)) (Nat.le_of_ble_eq_true rfl) | exact Nat.le_trans (Nat.add_le_add_right (Nat.add_le_add (by with_reducible assumption) (by with_reducible assumption)) _) (Nat.le_of_ble_eq_true rfl) | exact Nat.le_trans (Nat.add_le_add (by with_reducible assumption) (by with_reducible assumption)) (Nat.le_of_ble_eq_true rfl) | omega | (simp only [List.flatten_replicate_singleton, List.length_replicate]; omega) | ((repeat rw [IntsAre.length (by with_reducible assumption)]); k_extra "my_size"))
  k_with "exec Raise some none" => ((exfalso; omega))
  k_with "my_isl" => (first | exact News.isList (by assumption) (by k_mem) | assumption | exact Heap.IsList.at (by with_reducible assumption) fun o e => Fr.keep (by assumption) _ o e)
  k_with "call builtin:len" => (((with_reducible show wpAny _ _ (call (Value.builtin "len") [Value.ref _]) _ _ _); k_dflt (refine' cl_len ?zk46l ?zk46z ?_; (case zk46l => k_extra "my_isl"); (case zk46z => k_extra "my_lens")); intro _ _; (try simp only [List.length_append, List.length_cons, List.length_nil])))
  k_with "binaryOp Add ref ref" => (((with_reducible show wpAny _ _ (binaryOp Operator.Add (Value.ref _) (Value.ref _)) _ _ _); k_dflt (refine' cl_add ?zk47F ?zk47N ?zk47l ?zk47b ?zk47i ?zk47j ?zk47z ?_; (case zk47F => assumption); (case zk47N => assumption); (case zk47l => k_extra "my_isl"); (case zk47b => k_extra "my_isl"); (case zk47i => k_extra "my_ints"); (case zk47j => k_extra "my_ints"); (case zk47z => k_extra "my_lens")); intro _ _ _ _ _ l1 _ _ _ _; (try k_lt l1)))
  k_with "call builtin:list.append" => (((with_reducible show wpAny _ _ (call (Value.builtin _) [Value.ref _, _]) _ _ _); k_dflt (refine' cl_append ?zk48F ?zk48N ?zk48U ?zk48z ?_; (case zk48F => assumption); (case zk48N => assumption); (case zk48U => k_updF); (case zk48z => k_extra "my_lens")); intro _ _ _ N'; (try dsimp only at N')))
  k_with "subscriptTail Name Slice ref ref" => (((with_reducible show wpAny _ _ (subscriptTail _ (Expr.Slice none (some _) none _) (Value.ref _) (Value.ref _)) _ _ _); k_dflt (refine' cl_upto ?zk49F ?zk49N ?zk49l ?zk49i ?zk49a ?zk49z ?_; (case zk49F => assumption); (case zk49N => assumption); (case zk49l => k_extra "my_isl"); (case zk49i => k_extra "my_ints"); (case zk49a => omega); (case zk49z => k_extra "my_lens")); intro _ _ _ _ _ l1 _ _ _ _; (try k_lt l1)))
  k_with "execs cons" => ((k_here; first | k_fold | (k_made; walk_at "execs cons") | k_gentoks | (with_reducible refine execs_one ?_) | ((with_reducible refine wpAny_execs_cons ?_); (try dsimp only); k_fold)))
  k_with "spliced" => ((k_here; first | (refine args_last ?_; (try dsimp only [List.cons_append, List.nil_append])) | refine args_cons ?_ | (refine args_nil ?_; (try dsimp only [List.cons_append, List.nil_append]))))
  k_with "storeName" => ((k_here; k_dflt (refine' storeM ?zk52F ?zk52N ?_ ?zk52a ?zk52b; (case zk52F => k_asm); (case zk52N => k_asm); (case zk52a => rfl); (case zk52b => rfl); k_whole; intro _ _ _ _; (try k_sweep))))
  k_with "call ref" => (((with_reducible show wpAny _ _ (call (Value.ref 96) _) _ _ _); k_dflt (refine' use_new ?zk64F ?zk64N (signs_ok ?zk64G ?zk64st ?zk64d _ _ _ ?zk64l ?zk64i ?zk64z ?zk64x) ?_; (case zk64F => assumption); (case zk64N => assumption); (case zk64G => assumption); (case zk64st => exact Fr.keep (by assumption)); (case zk64d => k_extra "my_room"); (case zk64l => k_extra "my_isl"); (case zk64i => with_reducible assumption); (case zk64z => k_extra "my_len4"); (case zk64x => k_extra "my_in4")); intro l9K us9K c9K _ _ hne hIK hL _ _; (rw [signs_len] at hL); (replace hne := allNe_of hne); (simp only [AllNe, and_true] at hne)))
  k_with "eval Name" => (((with_reducible show wpAny _ _ (eval _ (compEnvC _ _ _ _)) _ _ _); refine ld_comp (by assumption) (by k_extra "my_look") ?_))
  k_with "eval ListComp" => (refine stop_intro ?_)
  k_with "exec If" => ((refine stop_intro ?_))
  k_with "my_len4" => (first | exact pad_len (by with_reducible assumption) (by with_reducible assumption) (by with_reducible assumption) | (simp only [List.length_append, KBw.ints_length, List.flatten_replicate_singleton, List.length_replicate]; omega))
  k_with "my_in4" => (exact in4 fun _ hn => KBw.ints_in hn)
  trivial
/-- full groups: a z or five signs -/
def GroupDec (pe po : List Int) : Prop := 2 ≤ pe.length ∧ pe.length ≤ 5 ∧ (∀ c ∈ pe, 33 ≤ c ∧ c ≤ 117) ∧ val 85 (full85 (pe.map (· - 33))) ≤ 4294967295 ∧ po = octsOf (pe.map (· - 33))
inductive Full : List Int → List Int → Prop where
  | nil : Full [] []
  | z (e o : List Int) : Full e o → Full (122 :: e) ([0, 0, 0, 0] ++ o)
  | five (g po e o : List Int) : g.length = 5 → GroupDec g po → Full e o → Full (g ++ e) (po ++ o)
theorem Full.append {a x b y : List Int} (h : Full a x) (h2 : Full b y) : Full (a ++ b) (x ++ y) := by
  induction h with
  | nil => exact h2
  | z e o _ ih => have := Full.z _ _ ih; simpa [List.append_assoc] using this
  | five g po e o h0 h1 _ ih => have := Full.five g po _ _ h0 h1 ih; simpa [List.append_assoc] using this
theorem digs85_five (v : Int) : (digs 85 5 v).2.reverse = [v / 85 / 85 / 85 / 85 % 85, v / 85 / 85 / 85 % 85, v / 85 / 85 % 85, v / 85 % 85, v % 85] := rfl
theorem digs256_four (v : Int) : (digs 256 4 v).2.reverse = [v / 256 / 256 / 256 % 256, v / 256 / 256 % 256, v / 256 % 256, v % 256] := rfl
theorem digs85_val {v : Int} (h0 : 0 ≤ v) (h1 : v < 4294967296) : ∃ d4 d3 d2 d1 d0 : Int, (digs 85 5 v).2.reverse = [d4, d3, d2, d1, d0] ∧ (0 ≤ d4 ∧ d4 ≤ 84) ∧ (0 ≤ d3 ∧ d3 ≤ 84) ∧ (0 ≤ d2 ∧ d2 ≤ 84) ∧ (0 ≤ d1 ∧ d1 ≤ 84) ∧ (0 ≤ d0 ∧ d0 ≤ 84) ∧
    v = 52200625 * d4 + 614125 * d3 + 7225 * d2 + 85 * d1 + d0 := by
  rw [digs85_five]
  have e1 := Int.emod_add_mul_ediv v 85
  have e2 := Int.emod_add_mul_ediv (v / 85) 85
  have e3 := Int.emod_add_mul_ediv (v / 85 / 85) 85
  have e4 := Int.emod_add_mul_ediv (v / 85 / 85 / 85) 85
  have b1 : 0 ≤ v % 85 ∧ v % 85 ≤ 84 := by omega
  have b2 : 0 ≤ v / 85 % 85 ∧ v / 85 % 85 ≤ 84 := by omega
  have b3 : 0 ≤ v / 85 / 85 % 85 ∧ v / 85 / 85 % 85 ≤ 84 := by omega
  have b4 : 0 ≤ v / 85 / 85 / 85 % 85 ∧ v / 85 / 85 / 85 % 85 ≤ 84 := by omega
  refine ⟨v / 85 / 85 / 85 / 85 % 85, _, _, _, _, rfl, by omega, b4, b3, b2, b1, ?_⟩
  generalize v % 85 = d0 at *
  generalize v / 85 % 85 = d1 at *
  generalize v / 85 / 85 % 85 = d2 at *
  generalize v / 85 / 85 / 85 % 85 = d3 at *
  generalize v / 85 / 85 / 85 / 85 = q4 at *
  generalize v / 85 / 85 / 85 = q3 at *
  generalize v / 85 / 85 = q2 at *
  generalize v / 85 = q1 at *
  have h4 : 0 ≤ q4 ∧ q4 ≤ 84 := by omega
  have e5 : q4 % 85 = q4 := by omega
  rw [e5]
  omega
theorem top1 {t a : Int} (h0 : 0 ≤ a) (h1 : a < 256) (h : 16777216 * a ≤ t) (h' : t < 16777216 * a + 16777216) : t / 256 / 256 / 256 % 256 = a := by
  rw [Int.ediv_ediv_of_nonneg (by decide), Int.ediv_ediv_of_nonneg (by decide)]
  omega
theorem top2 {t a b : Int} (h0 : 0 ≤ a ∧ a < 256) (h1 : 0 ≤ b ∧ b < 256) (h : 16777216 * a + 65536 * b ≤ t) (h' : t < 16777216 * a + 65536 * b + 65536) : t / 256 / 256 / 256 % 256 = a ∧ t / 256 / 256 % 256 = b := by
  refine ⟨top1 h0.1 h0.2 (by omega) (by omega), ?_⟩
  rw [Int.ediv_ediv_of_nonneg (by decide)]
  omega
theorem top3 {t a b c : Int} (h0 : 0 ≤ a ∧ a < 256) (h1 : 0 ≤ b ∧ b < 256) (h2 : 0 ≤ c ∧ c < 256) (h : 16777216 * a + 65536 * b + 256 * c ≤ t) (h' : t < 16777216 * a + 65536 * b + 256 * c + 256) : t / 256 / 256 / 256 % 256 = a ∧ t / 256 / 256 % 256 = b ∧ t / 256 % 256 = c := by
  obtain ⟨x, y⟩ := top2 h0 h1 (t := t) (by omega) (by omega)
  exact ⟨x, y, by omega⟩
def padded (ks : List Int) : List Int := ks ++ List.replicate (4 - ks.length) 0
/-- a group of one to four octets, encoded -/
def enc1 (ks : List Int) : List Int := ((signsOf (padded ks)).take (5 - (4 - ks.length))).map (33 + ·)
theorem signs_range (v : Int) : ∀ x ∈ (digs 85 5 v).2.reverse, 0 ≤ x ∧ x ≤ 84 := by
  rw [digs85_five]
  intro x hx
  simp only [List.mem_cons, List.not_mem_nil, or_false] at hx
  omega
theorem map_sub_add (l : List Int) : (l.map (33 + ·)).map (· - 33) = l := by
  rw [List.map_map]
  conv => rhs; rw [← List.map_id l]
  exact List.map_congr_left fun x _ => by show 33 + x - 33 = x; omega
theorem w1 {v d4 d3 d2 d1 d0 : Int} (h2 : 0 ≤ d2 ∧ d2 ≤ 84) (h1 : 0 ≤ d1 ∧ d1 ≤ 84) (h0 : 0 ≤ d0 ∧ d0 ≤ 84) (hv : v = 52200625 * d4 + 614125 * d3 + 7225 * d2 + 85 * d1 + d0) : v ≤ 52200625 * d4 + 614125 * d3 + 614124 ∧ 52200625 * d4 + 614125 * d3 + 614124 ≤ v + 614124 := by omega
theorem w2 {v d4 d3 d2 d1 d0 : Int} (h1 : 0 ≤ d1 ∧ d1 ≤ 84) (h0 : 0 ≤ d0 ∧ d0 ≤ 84) (hv : v = 52200625 * d4 + 614125 * d3 + 7225 * d2 + 85 * d1 + d0) : v ≤ 52200625 * d4 + 614125 * d3 + 7225 * d2 + 7224 ∧ 52200625 * d4 + 614125 * d3 + 7225 * d2 + 7224 ≤ v + 7224 := by omega
theorem w3 {v d4 d3 d2 d1 d0 : Int} (h0 : 0 ≤ d0 ∧ d0 ≤ 84) (hv : v = 52200625 * d4 + 614125 * d3 + 7225 * d2 + 85 * d1 + d0) : v ≤ 52200625 * d4 + 614125 * d3 + 7225 * d2 + 85 * d1 + 84 ∧ 52200625 * d4 + 614125 * d3 + 7225 * d2 + 85 * d1 + 84 ≤ v + 84 := by omega
theorem low4 {a b c d : Int} (h0 : 0 ≤ d) (h1 : d < 256) : (16777216 * a + 65536 * b + 256 * c + d) % 256 = d := by omega
theorem enc1_dec {ks : List Int} (h : ∀ x ∈ ks, 0 ≤ x ∧ x < 256) (h1 : 1 ≤ ks.length) (h2 : ks.length ≤ 4) : GroupDec (enc1 ks) ks ∧ (enc1 ks).length = ks.length + 1 := by
  have hlen : (enc1 ks).length = ks.length + 1 := by
    unfold enc1 signsOf
    rw [List.length_map, List.length_take, digs85_five]
    simp only [List.length_cons, List.length_nil]
    omega
  refine ⟨⟨by omega, by omega, ?_, ?_⟩, hlen⟩
  · intro c hc
    unfold enc1 at hc
    obtain ⟨x, hx, rfl⟩ := List.mem_map.mp hc
    have := signs_range _ x (List.mem_of_mem_take hx)
    omega
  · unfold enc1
    rw [map_sub_add]
    unfold signsOf octsOf
    match ks, h1, h2 with
    | [a], _, _ =>
      have ha := h a (by simp)
      have e0 : val 256 (padded [a]) = 16777216 * a := by simp only [padded, val, List.length_cons, List.length_nil, List.replicate, List.cons_append, List.nil_append, List.foldl, Nat.reduceAdd, Nat.reduceSub]; omega
      rw [e0]
      obtain ⟨d4, d3, d2, d1, d0, e, h4, h3, h2', h1', h0', hv⟩ := digs85_val (v := 16777216 * a) (by omega) (by omega)
      rw [e]
      have e1 : val 85 (full85 ([d4, d3, d2, d1, d0].take (5 - (4 - [a].length)))) = 52200625 * d4 + 614125 * d3 + 614124 := by
        simp only [full85, val, List.length_cons, List.length_nil, List.replicate, List.take, List.cons_append, List.nil_append, List.foldl, Nat.reduceAdd, Nat.reduceSub]; omega
      rw [e1, digs256_four]
      have hw := w1 h2' h1' h0' hv
      generalize 52200625 * d4 + 614125 * d3 + 614124 = W at hw ⊢
      clear h4 h3 h2' h1' h0' hv e e1 e0
      refine ⟨by omega, ?_⟩
      rw [top1 ha.1 ha.2 hw.1 (by omega)]
      rfl
    | [a, b], _, _ =>
      have ha := h a (by simp)
      have hb := h b (by simp)
      have e0 : val 256 (padded [a, b]) = 16777216 * a + 65536 * b := by simp only [padded, val, List.length_cons, List.length_nil, List.replicate, List.cons_append, List.nil_append, List.foldl, Nat.reduceAdd, Nat.reduceSub]; omega
      rw [e0]
      obtain ⟨d4, d3, d2, d1, d0, e, h4, h3, h2', h1', h0', hv⟩ := digs85_val (v := 16777216 * a + 65536 * b) (by omega) (by omega)
      rw [e]
      have e1 : val 85 (full85 ([d4, d3, d2, d1, d0].take (5 - (4 - [a, b].length)))) = 52200625 * d4 + 614125 * d3 + 7225 * d2 + 7224 := by
        simp only [full85, val, List.length_cons, List.length_nil, List.replicate, List.take, List.cons_append, List.nil_append, List.foldl, Nat.reduceAdd, Nat.reduceSub]; omega
      rw [e1, digs256_four]
      have hw := w2 h1' h0' hv
      generalize 52200625 * d4 + 614125 * d3 + 7225 * d2 + 7224 = W at hw ⊢
      clear h4 h3 h2' h1' h0' hv e e1 e0
      refine ⟨by omega, ?_⟩
      obtain ⟨x, y⟩ := top2 (t := W) ha hb hw.1 (by omega)
      rw [x, y]
      rfl
    | [a, b, c], _, _ =>
      have ha := h a (by simp)
      have hb := h b (by simp)
      have hc := h c (by simp)
      have e0 : val 256 (padded [a, b, c]) = 16777216 * a + 65536 * b + 256 * c := by simp only [padded, val, List.length_cons, List.length_nil, List.replicate, List.cons_append, List.nil_append, List.foldl, Nat.reduceAdd, Nat.reduceSub]; omega
      rw [e0]
      obtain ⟨d4, d3, d2, d1, d0, e, h4, h3, h2', h1', h0', hv⟩ := digs85_val (v := 16777216 * a + 65536 * b + 256 * c) (by omega) (by omega)
      rw [e]
      have e1 : val 85 (full85 ([d4, d3, d2, d1, d0].take (5 - (4 - [a, b, c].length)))) = 52200625 * d4 + 614125 * d3 + 7225 * d2 + 85 * d1 + 84 := by
        simp only [full85, val, List.length_cons, List.length_nil, List.replicate, List.take, List.cons_append, List.nil_append, List.foldl, Nat.reduceAdd, Nat.reduceSub]; omega
      rw [e1, digs256_four]
      have hw := w3 h0' hv
      generalize 52200625 * d4 + 614125 * d3 + 7225 * d2 + 85 * d1 + 84 = W at hw ⊢
      clear h4 h3 h2' h1' h0' hv e e1 e0
      refine ⟨by omega, ?_⟩
      obtain ⟨x, y, z⟩ := top3 (t := W) ha hb hc hw.1 (by omega)
      rw [x, y, z]
      rfl
    | [a, b, c, d], _, _ =>
      have ha := h a (by simp)
      have hb := h b (by simp)
      have hc := h c (by simp)
      have hd := h d (by simp)
      have e0 : val 256 (padded [a, b, c, d]) = 16777216 * a + 65536 * b + 256 * c + d := by simp only [padded, val, List.length_cons, List.length_nil, List.replicate, List.cons_append, List.nil_append, List.append_nil, List.foldl, Nat.reduceAdd, Nat.reduceSub]; omega
      rw [e0]
      obtain ⟨d4, d3, d2, d1, d0, e, h4, h3, h2', h1', h0', hv⟩ := digs85_val (v := 16777216 * a + 65536 * b + 256 * c + d) (by omega) (by omega)
      rw [e]
      have e1 : val 85 (full85 ([d4, d3, d2, d1, d0].take (5 - (4 - [a, b, c, d].length)))) = 16777216 * a + 65536 * b + 256 * c + d := by
        simp only [full85, val, List.length_cons, List.length_nil, List.replicate, List.take, List.cons_append, List.nil_append, List.append_nil, List.foldl, Nat.reduceAdd, Nat.reduceSub]; omega
      rw [e1, digs256_four]
      clear h4 h3 h2' h1' h0' hv e e1 e0
      refine ⟨by omega, ?_⟩
      obtain ⟨x, y, z⟩ := top3 (t := 16777216 * a + 65536 * b + 256 * c + d) ha hb hc (Int.le_add_of_nonneg_right hd.1) (Int.add_lt_add_left hd.2 _)
      rw [x, y, z, low4 hd.1 hd.2]
      rfl
/-- encoded in base 85: full groups, and at the end at most one that is not full -/
def E85 (enc out : List Int) : Prop := ∃ e1 o1 e2 o2, enc = e1 ++ e2 ∧ out = o1 ++ o2 ∧ Full e1 o1 ∧ ((e2 = [] ∧ o2 = []) ∨ (GroupDec e2 o2 ∧ e2.length < 5))
theorem E85.full {e o : List Int} (h : Full e o) : E85 e o := ⟨e, o, [], [], by simp, by simp, h, .inl ⟨rfl, rfl⟩⟩
theorem enc_z {g : List Int} (h : ∀ x ∈ g, 0 ≤ x ∧ x < 256) (h4 : g.length = 4) (hz : signsOf (padded g) = [0, 0, 0, 0, 0]) : g = [0, 0, 0, 0] := by
  match g, h4 with
  | [a, b, c, d], _ =>
    have ha := h a (by simp)
    have hb := h b (by simp)
    have hc := h c (by simp)
    have hd := h d (by simp)
    have e0 : val 256 (padded [a, b, c, d]) = 16777216 * a + 65536 * b + 256 * c + d := by simp only [padded, val, List.length_cons, List.length_nil, List.replicate, List.cons_append, List.nil_append, List.append_nil, List.foldl, Nat.reduceAdd, Nat.reduceSub]; omega
    unfold signsOf at hz
    rw [e0] at hz
    obtain ⟨d4, d3, d2, d1, d0, e, _, _, _, _, _, hv⟩ := digs85_val (v := 16777216 * a + 65536 * b + 256 * c + d) (by omega) (by omega)
    rw [e] at hz
    obtain ⟨rfl, rfl, rfl, rfl, rfl⟩ : d4 = 0 ∧ d3 = 0 ∧ d2 = 0 ∧ d1 = 0 ∧ d0 = 0 := by simpa using hz
    have : a = 0 ∧ b = 0 ∧ c = 0 ∧ d = 0 := by omega
    obtain ⟨rfl, rfl, rfl, rfl⟩ := this
    rfl
theorem enc1_in {ks : List Int} : ∀ c ∈ enc1 ks, 0 ≤ c ∧ c < 256 := by
  intro c hc
  unfold enc1 at hc
  obtain ⟨x, hx, rfl⟩ := List.mem_map.mp hc
  have := signs_range _ x (List.mem_of_mem_take hx)
  omega
/-- between two turns of the encoder -/
structure EncInv (ks cs : List Int) (i : Nat) : Prop where
  e : E85 cs (ks.take (4 * i))
  f : 4 * i ≤ ks.length → Full cs (ks.take (4 * i))
  l : cs.length ≤ 5 * i
  r : ∀ n ∈ cs, 0 ≤ n ∧ n < 256
theorem take_more {ks : List Int} (i : Nat) : ks.take (4 * (i + 1)) = ks.take (4 * i) ++ (ks.drop (4 * i)).take 4 := by
  rw [show 4 * (i + 1) = 4 * i + 4 by omega, List.take_add]
theorem EncInv.zero {ks cs : List Int} {i : Nat} (h : EncInv ks cs i) (hk : ∀ n ∈ ks, 0 ≤ n ∧ n < 256) (hi : 4 * i < ks.length) (h4 : ((ks.drop (4 * i)).take 4).length = 4) (hz : signsOf (padded ((ks.drop (4 * i)).take 4)) = [0, 0, 0, 0, 0]) : EncInv ks (cs ++ [122]) (i + 1) := by
  have hg := enc_z (fun x hx => hk x (List.mem_of_mem_drop (List.mem_of_mem_take hx))) h4 hz
  have hf : Full (cs ++ [122]) (ks.take (4 * (i + 1))) := by
    rw [take_more, hg]
    exact (h.f (by omega)).append (Full.z [] [] .nil)
  refine ⟨E85.full hf, fun _ => hf, ?_, ?_⟩
  · have := h.l; simp only [List.length_append, List.length_cons, List.length_nil]; omega
  · intro n hn
    rcases List.mem_append.mp hn with q | q
    · exact h.r n q
    · rw [List.mem_singleton.mp q]; decide
theorem EncInv.group {ks cs : List Int} {i : Nat} (h : EncInv ks cs i) (hk : ∀ n ∈ ks, 0 ≤ n ∧ n < 256) (hi : 4 * i < ks.length) : EncInv ks (cs ++ enc1 ((ks.drop (4 * i)).take 4)) (i + 1) := by
  have hl : ((ks.drop (4 * i)).take 4).length = min 4 (ks.length - 4 * i) := by rw [List.length_take, List.length_drop]
  obtain ⟨hd, hdl⟩ := enc1_dec (ks := (ks.drop (4 * i)).take 4) (fun x hx => hk x (List.mem_of_mem_drop (List.mem_of_mem_take hx))) (by omega) (by omega)
  have hf0 := h.f (by omega)
  have hf : 4 * (i + 1) ≤ ks.length → Full (cs ++ enc1 ((ks.drop (4 * i)).take 4)) (ks.take (4 * (i + 1))) := by
    intro q
    rw [take_more]
    have := Full.five _ _ [] [] (by omega) hd .nil
    rw [List.append_nil, List.append_nil] at this
    exact hf0.append this
  refine ⟨?_, hf, ?_, ?_⟩
  · by_cases q : 4 * (i + 1) ≤ ks.length
    · exact E85.full (hf q)
    · exact ⟨cs, _, _, _, rfl, take_more i, hf0, .inr ⟨hd, by omega⟩⟩
  · have := h.l; rw [List.length_append]; omega
  · intro n hn
    rcases List.mem_append.mp hn with q | q
    · exact h.r n q
    · exact enc1_in n q
theorem in4 {ks : List Int} {n : Nat} (h : ∀ x ∈ ks, 0 ≤ x ∧ x < 256) : ∀ x ∈ ks ++ (List.replicate n [0]).flatten, 0 ≤ x ∧ x < 256 := by
  rw [List.flatten_replicate_singleton]
  intro x hx
  rcases List.mem_append.mp hx with q | q
  · exact h x q
  · rw [List.eq_of_mem_replicate q]; decide
theorem pad_eq {g x : List Int} {n : Int} (hg : x = g) (hn : n = 4 - (g.length : Int)) : x ++ (List.replicate n.toNat [0]).flatten = padded g := by
  rw [List.flatten_replicate_singleton, hg]
  unfold padded
  congr 2
  omega
theorem enc1_eq {g : List Int} {n : Int} (hn : n.toNat = 5 - (4 - g.length)) : ((signsOf (padded g)).take n.toNat).map (33 + ·) = enc1 g := by
  rw [hn]; rfl
theorem EncInv.done {ks cs : List Int} {i : Nat} (h : EncInv ks cs i) (hi : i = (ks.length + 3) / 4) : E85 cs ks ∧ (ks.length % 4 = 0 → Full cs ks) := by
  have e : ks.take (4 * i) = ks := List.take_of_length_le (by omega)
  have h1 := h.e
  have h2 := h.f
  rw [e] at h1 h2
  exact ⟨h1, fun q => h2 (by omega)⟩
theorem signs_len (xs : List Int) : (signsOf xs).length = 5 := by
  unfold signsOf
  rw [digs85_five]
  rfl
theorem small_four {b : Int} (h0 : 0 ≤ b) (h1 : b ≤ 100000) : Builtin.Range.small 0 b 4 = true := by
  unfold Builtin.Range.small
  rw [rangeSize_pos (by omega) h0]
  simp only [Builtin.Range.rangeFitsLong, Bool.and_eq_true, Bool.or_eq_true, decide_eq_true_eq, beq_iff_eq, show (4 : Int) > 0 by decide, if_true]
  omega
theorem pad_len {b : Array UInt8} {vs : List Value} {x y : Nat} (hN : b.size = min x y) (q1 : x = 4) (hL : vs.length = b.size) : (KBw.bInts b ++ (List.replicate (4 - (vs.length : Int)).toNat [(0 : Int)]).flatten).length = 4 := by
  have h4 : b.size ≤ 4 := by rw [hN, q1]; exact Nat.min_le_left _ _
  rw [List.length_append, KBw.ints_length, List.flatten_replicate_singleton, List.length_replicate, hL]
  clear hN q1 hL
  omega
inductive E85Res (oc : Array UInt8) (r : Value) : Prop
  | mk (b : Array UInt8) (t : Tok) (enc : List Int) : r = .bytes b t → KBw.bInts b = enc ++ [126, 62] → E85 enc (KBw.bInts oc) → (oc.size % 4 = 0 → Full enc (KBw.bInts oc)) → b.size ≤ 40 → E85Res oc r
inductive EncJ (oc : Array UInt8) (t : Tok) (lc : Addr) : Nat → (Str → Option Value) → List (Addr × Obj) → Prop
  | mk (i : Nat) (m : Str → Option Value) (us : List Value) (cs : List Int) (c : Nat) : IntsAre us cs → EncInv (KBw.bInts oc) cs i → m (Str.ofString "codes") = some (.ref lc) → m (Str.ofString "octets") = some (.bytes oc t) → EncJ oc t lc i m [(lc, listOf us.toArray c)]
theorem take_len {b : Array UInt8} {ks : List Int} {vs : List Value} (hC : KBw.bInts b = ks) (hL : vs.length = b.size) : ks.length = vs.length := by rw [← hC, KBw.ints_length, hL]
theorem size_div4 {n : Nat} : ((n : Int) + 4 - 1) / 4 = (((n + 3) / 4 : Nat) : Int) := by
  rw [show (n : Int) + 4 - 1 = ((n + 3 : Nat) : Int) by omega]; rfl
theorem five_four {v : Nat} (h : v ≤ 4) : (5 - (4 - (v : Int))).toNat = 5 - (4 - v) := by omega
set_option maxHeartbeats 8000000 in
theorem enc85_ok {w mean mg mb} {h₀ : Heap} {s : Shared} {dp un : Nat} {fr : Option (List Env)} {gd : Option (List Code)} (G : Gd w mean mg mb h₀) (st : h₀.StaysIn s.heap) (hdp : dp + 1 < recursionLimit) (hun : un + 300 < cLine)
    (oc : Array UInt8) (t : Tok) (hz : oc.size ≤ 16) :
    wpAny (model PySem.Challenge.pw_og0155_01 w) (Rm dp un fr gd) (call (.ref 101) [.bytes oc t]) (Ok s [] (fun r _ => E85Res oc r)) (fun _ _ => False) s := by
  refine' enter (binds := [(Str.ofString "octets", .bytes oc t)]) (news := []) G st (fun _ hp => nomatch hp) (Nat.lt_of_succ_lt hdp) ?ho ?hcd ?hbind ?hloc ?h ?hco ?hgen ?hk ?hcell
  k_extra "my_in"
  intro g' L' h' G' hg' F' N'
  dsimp only
  have X' := G'.X
  have T' := G'.T
  have hks := KBw.ints_length oc
  have hkr : ∀ n ∈ KBw.bInts oc, 0 ≤ n ∧ n < 256 := fun n hn => KBw.ints_in hn
  (try k_fold)
  k_steps
  unfold Stop
  rename_i lc _ _ _ _ _ _ _ _ _ _ _ _ _ _ hh _ _ _ _ hrg F1 N1 _
  have hrs : Builtin.Range.rangeSize 0 (oc.size : Int) 4 = (((oc.size + 3) / 4 : Nat) : Int) := by rw [rangeSize_pos (by decide) (Int.natCast_nonneg _)]; exact size_div4
  refine for_range (n := (oc.size + 3) / 4) rfl hrg (small_four (by omega) (by omega)) hrs F1 N1
    (EncJ oc t lc)
    (EncJ.mk _ _ [] [] _ .nil ⟨E85.full .nil, fun _ => .nil, by simp, (fun _ q => nomatch q)⟩ (by k_extra "my_look") (by k_extra "my_look")) ?turn ?done
  case turn =>
    rintro i ti m1 nx h1 tk1 own hi5 ha ⟨us, cs, c1, hus, hinv, hm1, hm2⟩ hoff F5 N5
    have F6 : Fr g' L' h1 m1 := F5
    have N6 : News g' L' h1 ((lc, listOf us.toArray c1) :: own) := N5
    simp only [List.map_cons, List.map_nil] at hoff
    have e1 : (0 : Int) + (i : Int) * 4 = 4 * i := by omega
    rw [e1]
    have hcl := hinv.l
    have hul := hus.length
    have hcr := hinv.r
    clear F1 N1 hrg F5 N5
    have hi4 : 4 * i < oc.size := by omega
    have q1 : (4 * (i : Int) + 4 - 4 * (i : Int)).toNat = 4 := by omega
    have q2 : (4 * (i : Int)).toNat = 4 * i := by omega
    (try k_fold)
    k_steps
    unfold Stop
    rw [q1, q2] at hC
    have hv := take_len hC (by with_reducible assumption)
    have hv4 := List.length_take_le 4 ((KBw.bInts oc).drop (4 * i))
    rw [pad_eq hC (by rw [hv])] at hIK
    (rename Fr _ _ _ _ => fE)
    (rename News _ _ _ _ => nE)
    dsimp +zetaDelta only at fE
    rw [← hv] at fE
    have hn9 : @Ne Nat l9K lc := hne.2.2.2.2.1.symm
    refine if_mid (news := (l9K, listOf us9K.toArray c9K) :: (lc, listOf us.toArray c1) :: own) (fun b => b = true → 4 - (((KBw.bInts oc).drop (4 * i)).take 4 : List Int).length = (0 : Int) ∧ signsOf (padded (((KBw.bInts oc).drop (4 * i)).take 4)) = [0, 0, 0, 0, 0]) fE (fun p hp => nE p ((by k_extra "my_sub" : ∀ p ∈ (l9K, listOf us9K.toArray c9K) :: (lc, listOf us.toArray c1) :: own, p ∈ _) p hp)) ?test ?yes ?no
    case test =>
      k_steps
      all_goals (rename News _ _ _ _ => nF)
      all_goals (first
        | exact Mid.mk false _ _ (by assumption) (fun p hp => nF p ((by k_extra "my_sub" : ∀ p ∈ (l9K, listOf us9K.toArray c9K) :: (lc, listOf us.toArray c1) :: own, p ∈ _) p hp)) (fun q => nomatch q)
        | exact Mid.mk true _ _ (by assumption) (fun p hp => nF p ((by k_extra "my_sub" : ∀ p ∈ (l9K, listOf us9K.toArray c9K) :: (lc, listOf us.toArray c1) :: own, p ∈ _) p hp)) (fun _ => ⟨by assumption, by assumption⟩))
    case yes =>
      intro h' tk' Fy Ny hy
      obtain ⟨hy1, hz0⟩ := hy rfl
      clear hy fE nE hne l1
      (try k_fold)
      k_steps
      (rename News _ _ _ _ => nE)
      refine' tend_next (nx := [(lc, listOf (us ++ [Value.int 122 _]).toArray _)]) (by assumption) nE ?sub ?own rfl (EncJ.mk _ _ (us ++ [Value.int 122 _]) (cs ++ [122]) _ (IntsAre.append hus (.cons _ _ .nil)) (hinv.zero hkr (by rw [hks]; exact hi4) (by omega) hz0) ?l1 ?l2)
      (case sub => k_extra "my_sub")
      (case own => k_extra "my_own")
      (case l1 => k_extra "my_look")
      (case l2 => k_extra "my_look")
    case no =>
      intro h' tk' Fy Ny hy
      clear hy fE nE hne l1
      (try k_fold)
      k_steps
      unfold Stop
      refine' comp_list ?F (33 + ·) ?hh ?cl ?ce ?ki ?na ?x ?h (fun _ => rfl)
      (case F => assumption)
      (case hh => rfl)
      (case cl => with_unfolding_all rfl)
      (case ce => decide)
      (case ki => rfl)
      (case na => decide)
      (case x => rfl)
      k_steps
      unfold Stop
      (rename News _ _ _ _ => nE)
      refine ⟨_, _, _, _, _, rfl, News.isList nE (.head _), by with_reducible assumption, ?z, by assumption, nE, ?elt, ?cont⟩
      case z => first | exact Nat.le_trans (Nat.le_of_eq (by with_reducible assumption)) (Nat.le_trans (List.length_take_le' _ _) (by rw [signs_len]; decide)) | k_extra "my_lens"
      case elt =>
        rintro C a tt ⟨h2, gs2, d2, k2, o2⟩ m2 ha2 F2 hm2
        k_steps
        exact keeps_self
      case cont =>
        intro D9 ws9 c9 h9 k9 hne9 F9 N9 hI9 hL9
        clear nE
        replace hne9 := allNe_of hne9
        simp only [AllNe, and_true] at hne9
        have hw9 : ws9.length ≤ 5 := by rw [hL9, List.length_map, List.length_take, signs_len]; exact Nat.min_le_right _ _
        clear hL9
        rw [enc1_eq (five_four hv4)] at hI9
        k_steps
        (rename News _ _ _ _ => nE)
        refine' tend_next (nx := [(lc, listOf (us ++ ws9).toArray _)]) (by assumption) nE ?sub ?own rfl (EncJ.mk _ _ (us ++ ws9) (cs ++ _) _ (IntsAre.append hus hI9) (hinv.group hkr (by rw [hks]; exact hi4)) ?l1 ?l2)
        (case sub => k_extra "my_sub")
        (case own => k_extra "my_own")
        (case l1 => k_extra "my_look")
        (case l2 => k_extra "my_look")
  case done =>
    rintro m1 nx h1 tk1 ha ⟨us, cs, c1, hus, hinv, hm1, hm2⟩ F5 N5
    have F6 : Fr g' L' h1 m1 := F5
    have N6 : News g' L' h1 [(lc, listOf us.toArray c1)] := N5
    have hcl := hinv.l
    have hul := hus.length
    have hcr := hinv.r
    clear F1 N1 hrg F5 N5
    (try dsimp only)
    (try k_fold)
    k_steps
    refine fin_ret (by assumption) ⟨_, _, cs, rfl, by with_reducible assumption, (hinv.done (by rw [hks])).1, fun q => (hinv.done (by rw [hks])).2 (by rw [hks]; exact q), ?_⟩
    (rename Array.size _ = List.length _ => hS9)
    simp only [List.length_append, List.length_cons, List.length_nil] at hS9
    omega
theorem set_Dec85 : True := by
  k_with_none
  k_with "my_in" => ((w_top off; (case ho => k_dflt k_is); (case hcd => k_dflt k_is); (case hbind => k_dflt (first | exact BindsTo.of_eq rfl | exact binds_K (K := hd.heap_39 _) (Frag.In.keeps (Gd.X (by assumption)) (by assumption)) rfl (by k_dflt k_is) rfl rfl rfl)); (case hloc => exact locs rfl); (case hco => exact rfl); (case hgen => exact rfl); (case hk => exact rfl); (case hcell => decide)))
  k_with "my_look" => (first | with_reducible assumption | exact rfl | (refine' lk_eq ?zk2r; (case zk2r => k_extra "my_look")) | (refine' lk_ne ?zk2n ?zk2r; (case zk2n => decide); (case zk2r => k_extra "my_look")))
  k_with "eval Name" => ((k_here; (with_reducible show wpAny _ _ (eval (PySem.Expr.Name _ _) (envOf _ _ _ _ _)) _ _ _); k_dflt (refine ld (by assumption) (by k_extra "my_look") ?_)))
  k_with "eval Constant int" => ((refine c_const ?_; intro _ _))
  k_with "binaryOp Add int int" => ((refine c_add ?_; intro _ _))
  k_with "binaryOp Sub int int" => ((refine c_sub ?_; intro _ _))
  k_with "binaryOp Mult int int" => ((refine c_mul (by mul_fits) ?_; intro _ _))
  k_with "binaryOp Mod int int" => ((refine c_mod (by omega) ?_; intro _ _ _ _))
  k_with "binaryOp FloorDiv int int" => ((refine c_div (by omega) (by omega) ?_; intro _ _))
  k_with "unaryOp USub int" => ((refine c_neg ?_; intro _ _))
  k_with "binaryOp Pow int int" => ((refine c_pow (by decide) (by decide) (by decide) ?_; intro _ _))
  k_with "my_for" => ((k_dflt (refine for_go (by assumption) ?_ (by intro _; rfl) PassesOwn.never)))
  k_with "my_room" => (first | assumption | ((try dsimp only [Rm]); omega))
  k_with "exec For Name Name cons nil" => (k_extra "my_for")
  k_with "exec For Name Call cons nil" => (k_extra "my_for")
  k_with "exec For Name BinOp cons nil" => (k_extra "my_for")
  k_with "exec For Name Tuple cons nil" => (k_extra "my_for")
  k_with "exec For Tuple Name cons nil" => (k_extra "my_for")
  k_with "exec For Tuple Call cons nil" => (k_extra "my_for")
  k_with "exec For Tuple BinOp cons nil" => (k_extra "my_for")
  k_with "exec For Tuple Tuple cons nil" => (k_extra "my_for")
  k_with "exec While Compare cons nil" => ((refine stop_intro ?_))
  k_with "exec While BoolOp cons nil" => ((refine stop_intro ?_))
  k_with "my_sub" => (first | exact List.forall_mem_nil _ | (refine' List.forall_mem_cons.mpr ⟨by k_mem, ?_⟩; k_extra "my_sub") | k_extra "my_own")
  k_with "my_own" => ((intro _ _; k_extra "my_mem"))
  k_with "my_mem" => (first | assumption | (refine' List.mem_append_left _ ?_; k_extra "my_mem") | (refine' List.mem_append_right _ ?_; k_extra "my_mem") | (refine' List.Mem.tail _ ?_; k_extra "my_mem"))
  k_with "my_size" => (first | exact Nat.le_trans (by with_reducible assumption) (Nat.le_of_ble_eq_true rfl) | omega | (simp only [KBw.ints_length, List.length_append, List.length_take, List.length_drop, List.length_cons, List.length_nil, Array.size_append] at *; omega))
  k_with "my_part" => (first | exact IsPart.none | exact IsPart.int _ _)
  k_with "eval Constant bytes" => ((refine cb_const ?_; intro _ _))
  k_with "call builtin:len" => (((with_reducible show wpAny _ _ (call (Value.builtin "len") [Value.bytes _ _]) _ _ _); refine cb_len (by k_extra "my_size") ?_; intro _ _))
  k_with "binaryOp Add bytes bytes" => ((refine cb_add (by k_extra "my_size") ?_; intro _ _ _ _ _))
  k_with "compareOp Eq bytes bytes" => ((refine cb_eq ?_))
  k_with "compareOp NotEq bytes bytes" => ((refine cb_ne ?_))
  k_with "truthy bytes" => ((refine cb_truthy (by k_extra "my_size") ?_; intro _))
  k_with "binaryOp Mult bytes int" => ((refine cb_mul (by omega) (by omega) (by omega) (by omega) ?_; intro _ _ _ _))
  k_with "call type:bytes" => (((with_reducible show wpAny _ _ (call (Value.type "bytes") [Value.ref _]) _ _ _); k_dflt (refine' cb_make ?zk36F ?zk36N rfl ?zk36l ?zk36i ?zk36r ?zk36n ?_; (case zk36F => assumption); (case zk36N => assumption); (case zk36l => first | exact News.isList (by assumption) (by k_mem) | assumption); (case zk36i => k_extra "my_ints"); (case zk36r => k_extra "my_range"); (case zk36n => k_extra "my_size")); intro _ _ _ _ _ _ _ _))
  k_with "my_ints" => (first | with_reducible assumption | exact IntsAre.nil | (refine' IntsAre.cons _ _ ?zk37c; (case zk37c => k_extra "my_ints")) | (with_reducible refine' IntsAre.append (by k_extra "my_ints") (by k_extra "my_ints")) | assumption)
  k_with "my_range" => (first | with_reducible assumption | exact List.forall_mem_nil _ | ((with_reducible refine' List.forall_mem_append.mpr ⟨?_, ?_⟩) <;> k_extra "my_range") | ((refine' List.forall_mem_cons.mpr ⟨⟨?_, ?_⟩, ?_⟩) <;> (first | omega | k_extra "my_range")))
  k_with "subscriptTail" => (((with_reducible show wpAny _ _ (subscriptTail _ _ (Value.bytes _ _) (Value.int _ _)) _ _ _); k_dflt (refine cb_item (by k_extra "my_size") (by omega) (by omega) ?_); intro _ _ _ _))
  k_with "subscriptTail" => (((with_reducible show wpAny _ _ (subscriptTail _ (Expr.Slice _ _ none _) (Value.bytes _ _) (Value.ref _)) _ _ _); k_dflt (refine' cb_slice ?zk40F ?zk40N ?zk40a ?zk40b ?zk40z ?_; (case zk40F => assumption); (case zk40N => assumption); (case zk40a => k_extra "my_part"); (case zk40b => k_extra "my_part"); (case zk40z => k_extra "my_size")); intro _ _ _ _ _ _ hC _; (first | rw [cut_nn (by omega) (by omega)] at hC | rw [cut_0n (by omega)] at hC | rw [cut_neg (by omega)] at hC); (have hN := congrArg List.length hC); (simp only [KBw.ints_length, List.length_take, List.length_drop] at hN)))
  k_with "call type:list" => (((with_reducible show wpAny _ _ (call (Value.type "list") [Value.bytes _ _]) _ _ _); k_dflt (refine' cl_bytes ?zk41F ?zk41N rfl ?zk41z ?_; (case zk41F => assumption); (case zk41N => assumption); (case zk41z => k_extra "my_size")); intro _ _ _ _ _ l1 _ _ _ _; (try k_lt l1)))
  k_with "call builtin:list.extend" => (((with_reducible show wpAny _ _ (call (Value.builtin _) [Value.ref _, Value.ref _]) _ _ _); k_dflt (refine' cl_extend ?zk42F ?zk42N ?zk42U ?zk42b ?zk42z ?_; (case zk42F => assumption); (case zk42N => assumption); (case zk42U => k_updF); (case zk42b => k_mem); (case zk42z => k_extra "my_lens")); intro _ _ _ _ N'; (try dsimp only at N')))
  k_with "my_lens" => (first | exact Nat.le_trans (by with_reducible assumption) (Nat.le_of_ble_eq_true rfl) | exact Nat.le_trans (Nat.add_le_add_right (by with_reducible assumption) _) (Nat.le_of_ble_eq_true rfl) | exact Nat.le_trans (Nat.add_le_add (by with_reducible assumption) (Nat.add_le_add_right (by with_reducible assumption) _)) (Nat.le_of_ble_eq_true rfl) | exact Nat.le_trans (Nat.add_le_add_right (Nat.add_le_add (by with_reducible assumption) (by with_reducible assumption)) _) (Nat.le_of_ble_eq_true rfl) | exact Nat.le_trans (Nat.add_le_add (by with_reducible assumption) (by with_reducible assumption)) (Nat.le_of_ble_eq_true rfl) | omega | (simp only [List.flatten_replicate_singleton, List.length_replicate]; omega) | ((repeat rw [IntsAre.length (by with_reducible assumption)]); k_extra "my_size"))
  k_with "exec Raise some none" => ((exfalso; omega))
  k_with "my_isl" => (first | exact News.isList (by assumption) (by k_mem) | assumption | exact Heap.IsList.at (by with_reducible assumption) fun o e => Fr.keep (by assumption) _ o e)
  k_with "call builtin:len" => (((with_reducible show wpAny _ _ (call (Value.builtin "len") [Value.ref _]) _ _ _); k_dflt (refine' cl_len ?zk46l ?zk46z ?_; (case zk46l => k_extra "my_isl"); (case zk46z => k_extra "my_lens")); intro _ _; (try simp only [List.length_append, List.length_cons, List.length_nil])))
  k_with "binaryOp Add ref ref" => (((with_reducible show wpAny _ _ (binaryOp Operator.Add (Value.ref _) (Value.ref _)) _ _ _); k_dflt (refine' cl_add ?zk47F ?zk47N ?zk47l ?zk47b ?zk47i ?zk47j ?zk47z ?_; (case zk47F => assumption); (case zk47N => assumption); (case zk47l => k_extra "my_isl"); (case zk47b => k_extra "my_isl"); (case zk47i => k_extra "my_ints"); (case zk47j => k_extra "my_ints"); (case zk47z => k_extra "my_lens")); intro _ _ _ _ _ l1 _ _ _ _; (try k_lt l1)))
  k_with "call builtin:list.append" => (((with_reducible show wpAny _ _ (call (Value.builtin _) [Value.ref _, _]) _ _ _); k_dflt (refine' cl_append ?zk48F ?zk48N ?zk48U ?zk48z ?_; (case zk48F => assumption); (case zk48N => assumption); (case zk48U => k_updF); (case zk48z => k_extra "my_lens")); intro _ _ _ N'; (try dsimp only at N')))
  k_with "subscriptTail Name Slice ref ref" => (((with_reducible show wpAny _ _ (subscriptTail _ (Expr.Slice none (some _) none _) (Value.ref _) (Value.ref _)) _ _ _); k_dflt (refine' cl_upto ?zk49F ?zk49N ?zk49l ?zk49i ?zk49a ?zk49z ?_; (case zk49F => assumption); (case zk49N => assumption); (case zk49l => k_extra "my_isl"); (case zk49i => k_extra "my_ints"); (case zk49a => omega); (case zk49z => k_extra "my_lens")); intro _ _ _ _ _ l1 _ _ _ _; (try k_lt l1)))
  k_with "execs cons" => ((k_here; first | k_fold | (k_made; walk_at "execs cons") | k_gentoks | (with_reducible refine execs_one ?_) | ((with_reducible refine wpAny_execs_cons ?_); (try dsimp only); k_fold)))
  k_with "spliced" => ((k_here; first | (refine args_last ?_; (try dsimp only [List.cons_append, List.nil_append])) | refine args_cons ?_ | (refine args_nil ?_; (try dsimp only [List.cons_append, List.nil_append]))))
  k_with "storeName" => ((k_here; k_dflt (refine' storeM ?zk52F ?zk52N ?_ ?zk52a ?zk52b; (case zk52F => k_asm); (case zk52N => k_asm); (case zk52a => rfl); (case zk52b => rfl); k_whole; intro _ _ _ _; (try k_sweep))))
  k_with "call type:enumerate" => (((with_reducible show wpAny _ _ (call (Value.type "enumerate") [Value.bytes _ _]) _ _ _); k_dflt (refine' cb_enum ?zk70F ?zk70N ?_; (case zk70F => assumption); (case zk70N => assumption)); intro _ _ _ _ _ _))
  k_with "call ref" => (((with_reducible show wpAny _ _ (call (Value.ref 29) _) _ _ _); k_dflt (refine' use_pure ?zk71F ?zk71N (is_white_ok ?zk71G ?zk71st ?zk71d _ _) ?_; (case zk71F => assumption); (case zk71N => assumption); (case zk71G => assumption); (case zk71st => exact Fr.keep (by assumption)); (case zk71d => k_extra "my_room"); intro _ _ _ hp9 _ _; (rename isWhite _ = false => hw9); (rw [hw9] at hp9); subst hp9)))
  k_with "call ref" => (((with_reducible show wpAny _ _ (call (Value.ref 115) _) _ _ _); k_dflt (refine' use_pure ?zk72F ?zk72N (end_at_ok ?zk72G ?zk72st ?zk72d _ _ ?zk72z _ _ ?zk72a0 ?zk72a1 ?zk72c) ?_; (case zk72F => assumption); (case zk72N => assumption); (case zk72G => assumption); (case zk72st => exact Fr.keep (by assumption)); (case zk72d => k_extra "my_room"); (case zk72z => omega); (case zk72a0 => omega); (case zk72a1 => omega); (case zk72c => assumption); intro _ _ _ hp9 _ _; subst hp9)))
  k_with "call ref" => (((with_reducible show wpAny _ _ (call (Value.ref 108) _) _ _ _); k_dflt (refine' use_new ?zk73F ?zk73N (octs_ok ?zk73G ?zk73st ?zk73d ?zk73u _ _ _ ?zk73l ?zk73i ?zk73z ?zk73z2 ?zk73x ?zk73v _ _) ?_; (case zk73F => assumption); (case zk73N => assumption); (case zk73G => assumption); (case zk73st => exact Fr.keep (by assumption)); (case zk73d => k_extra "my_room"); (case zk73u => (try dsimp only [Rm]); omega); (case zk73l => k_extra "my_isl"); (case zk73i => k_extra "my_ints"); (case zk73z => exact (show OctsGood _ from by first | assumption | exact (hg5 (by omega)).1 | exact hgS (by with_reducible assumption)).1); (case zk73z2 => exact (show OctsGood _ from by first | assumption | exact (hg5 (by omega)).1 | exact hgS (by with_reducible assumption)).2.1); (case zk73x => exact (show OctsGood _ from by first | assumption | exact (hg5 (by omega)).1 | exact hgS (by with_reducible assumption)).2.2.1); (case zk73v => exact (show OctsGood _ from by first | assumption | exact (hg5 (by omega)).1 | exact hgS (by with_reducible assumption)).2.2.2)); intro _ _ _ _ _ hne _ hL _ _; (replace hL := Nat.le_trans (Nat.le_of_eq hL) (octsOf_len _)); (replace hne := allNe_of hne); (simp only [AllNe, and_true] at hne)))
  trivial
theorem E85.cases {enc out : List Int} (h : E85 enc out) : (enc = [] ∧ out = []) ∨ (∃ e o, enc = 122 :: e ∧ out = [0, 0, 0, 0] ++ o ∧ E85 e o) ∨
    (∃ g po e o, enc = g ++ e ∧ out = po ++ o ∧ GroupDec g po ∧ ((g.length = 5 ∧ E85 e o) ∨ (g.length < 5 ∧ e = [] ∧ o = []))) := by
  obtain ⟨e1, o1, e2, o2, rfl, rfl, hf, h2⟩ := h
  cases hf with
  | nil =>
    rcases h2 with ⟨rfl, rfl⟩ | ⟨hd, hl⟩
    · exact .inl ⟨rfl, rfl⟩
    · exact .inr (.inr ⟨e2, o2, [], [], by simp, by simp, hd, .inr ⟨hl, rfl, rfl⟩⟩)
  | z e o hf => exact .inr (.inl ⟨e ++ e2, o ++ o2, by simp, by simp, e, o, e2, o2, rfl, rfl, hf, h2⟩)
  | five g po e o h5 hd hf => exact .inr (.inr ⟨g, po, e ++ e2, o ++ o2, by simp, by simp, hd, .inl ⟨h5, e, o, e2, o2, rfl, rfl, hf, h2⟩⟩)
def OctsGood (xs : List Int) : Prop := 2 ≤ xs.length ∧ xs.length ≤ 5 ∧ (∀ x ∈ xs, 0 ≤ x ∧ x ≤ 84) ∧ val 85 (full85 xs) ≤ 4294967295
theorem GroupDec.good {g po : List Int} (h : GroupDec g po) : OctsGood (g.map (· - 33)) ∧ octsOf (g.map (· - 33)) = po := by
  obtain ⟨h2, h5, hr, hv, ho⟩ := h
  refine ⟨⟨by simpa using h2, by simpa using h5, ?_, hv⟩, ho.symm⟩
  intro x hx
  obtain ⟨c, hc, rfl⟩ := List.mem_map.mp hx
  have := hr c hc
  show 0 ≤ c - 33 ∧ c - 33 ≤ 84
  omega
/-- what the decoder holds before code i -/
inductive DSt (enc out : List Int) : Nat → List Int → List Int → Prop where
  | free (done rest os ro : List Int) : enc = done ++ rest → out = os ++ ro → E85 rest ro → DSt enc out done.length os []
  | mid (done g1 g2 e os po o : List Int) : enc = done ++ (g1 ++ (g2 ++ e)) → out = os ++ (po ++ o) → g1 ≠ [] → GroupDec (g1 ++ g2) po →
      (((g1 ++ g2).length = 5 ∧ g2 ≠ [] ∧ E85 e o) ∨ ((g1 ++ g2).length < 5 ∧ e = [] ∧ o = [])) → DSt enc out (done.length + g1.length) os (g1.map (· - 33))
theorem DSt.start {enc out : List Int} (h : E85 enc out) : DSt enc out 0 [] [] := .free [] enc [] out rfl rfl h
theorem DSt.short {enc out os ss : List Int} {i : Nat} (h : DSt enc out i os ss) : ss.length < 5 ∧ os.length ≤ out.length := by
  cases h with
  | free done rest os ro h1 h2 h3 => exact ⟨by simp, by rw [h2, List.length_append]; omega⟩
  | mid done g1 g2 e os po o h1 h2 h3 h4 h5 =>
    refine ⟨?_, by rw [h2, List.length_append]; omega⟩
    rw [List.length_map]
    rcases h5 with ⟨a, b, _⟩ | ⟨a, _⟩
    · have := List.length_pos_iff.mpr b
      rw [List.length_append] at a
      omega
    · rw [List.length_append] at a
      omega
theorem DSt.step {enc out os ss : List Int} {i : Nat} {k : Int} (h : DSt enc out i os ss) (hk : enc[i]? = some k) :
    (k = 122 ∧ ss = [] ∧ DSt enc out (i + 1) (os ++ [0, 0, 0, 0]) []) ∨
    (k ≠ 122 ∧ 33 ≤ k ∧ k ≤ 117 ∧ ((ss.length + 1 < 5 ∧ DSt enc out (i + 1) os (ss ++ [k - 33])) ∨ (ss.length + 1 = 5 ∧ OctsGood (ss ++ [k - 33]) ∧ DSt enc out (i + 1) (os ++ octsOf (ss ++ [k - 33])) []))) := by
  cases h with
  | free done rest os ro h1 h2 h3 =>
    rw [h1, List.getElem?_append_right (Nat.le_refl _), Nat.sub_self] at hk
    rcases h3.cases with ⟨rfl, _⟩ | ⟨e, o, rfl, rfl, h4⟩ | ⟨g, po, e, o, rfl, rfl, hd, h4⟩
    · simp at hk
    · have hk' : (122 : Int) = k := by simpa using hk
      refine .inl ⟨hk'.symm, rfl, ?_⟩
      have := DSt.free (enc := enc) (out := out) (done ++ [122]) e (os ++ [0, 0, 0, 0]) o (by rw [h1]; simp) (by rw [h2]; simp) h4
      simpa using this
    · match g, hd with
      | [], hd => exact absurd hd.1 (by simp)
      | [x], hd => exact absurd hd.1 (by simp)
      | x :: y :: g', hd =>
        have hk' : x = k := by simpa using hk
        subst hk'
        have hr := hd.2.2.1 x (by simp)
        refine .inr ⟨by omega, hr.1, hr.2, .inl ⟨by simp, ?_⟩⟩
        have := DSt.mid (enc := enc) (out := out) done [x] (y :: g') e os po o (by rw [h1]; simp) (by rw [h2]) (by simp) hd (by
          rcases h4 with ⟨a, b⟩ | ⟨a, b, c⟩
          · exact .inl ⟨a, by simp, b⟩
          · exact .inr ⟨a, b, c⟩)
        simpa using this
  | mid done g1 g2 e os po o h1 h2 h3 h4 h5 =>
    rw [h1, List.getElem?_append_right (by omega), Nat.add_sub_cancel_left, List.getElem?_append_right (Nat.le_refl _), Nat.sub_self] at hk
    have hg1 := List.length_pos_iff.mpr h3
    match g2, h5, h4, hk, h1 with
    | [], h5, h4, hk, h1 =>
      rcases h5 with ⟨_, b, _⟩ | ⟨_, rfl, _⟩
      · exact absurd rfl b
      · simp at hk
    | x :: g2', h5, h4, hk, h1 =>
      have hk' : x = k := by simpa using hk
      subst hk'
      have hr := h4.2.2.1 x (by simp)
      have e1 : g1.map (· - 33) ++ [x - 33] = (g1 ++ [x]).map (· - 33) := by simp
      rw [e1]
      refine .inr ⟨by omega, hr.1, hr.2, ?_⟩
      have hl5 := h4.2.1
      rw [List.length_append, List.length_cons] at hl5
      rw [List.length_map]
      by_cases h6 : g1.length + 1 < 5
      · refine .inl ⟨h6, ?_⟩
        have hd' : GroupDec ((g1 ++ [x]) ++ g2') po := by simpa using h4
        have := DSt.mid (enc := enc) (out := out) done (g1 ++ [x]) g2' e os po o (by rw [h1]; simp) h2 (by simp) hd' (by
          rcases h5 with ⟨a, b, c⟩ | ⟨a, b, c⟩
          · refine .inl ⟨by simpa using a, ?_, c⟩
            intro q
            subst q
            simp at a
            omega
          · exact .inr ⟨by simpa using a, b, c⟩)
        rw [List.length_append, List.length_singleton] at this
        exact this
      · have hg : g2' = [] := List.eq_nil_of_length_eq_zero (by omega)
        subst hg
        have hgd := h4.good
        refine .inr ⟨by omega, hgd.1, ?_⟩
        rw [hgd.2]
        rcases h5 with ⟨a, b, c⟩ | ⟨a, _⟩
        · have := DSt.free (enc := enc) (out := out) (done ++ (g1 ++ [x])) e (os ++ po) o (by rw [h1]; simp) (by rw [h2]; simp) c
          rw [List.length_append, List.length_append, List.length_singleton] at this
          exact this
        · rw [List.length_append, List.length_singleton] at a
          omega
theorem DSt.fin {enc out os ss : List Int} (h : DSt enc out enc.length os ss) : (ss = [] ∧ os = out) ∨ (ss ≠ [] ∧ OctsGood ss ∧ os ++ octsOf ss = out) := by
  generalize hi : enc.length = i at h
  cases h with
  | free done rest os ro h1 h2 h3 =>
    have : rest = [] := by
      rw [h1, List.length_append] at hi
      exact List.eq_nil_of_length_eq_zero (by omega)
    subst this
    rcases h3.cases with ⟨_, rfl⟩ | ⟨e, o, h, _⟩ | ⟨g, po, e, o, h, _, hd, _⟩
    · exact .inl ⟨rfl, by rw [h2, List.append_nil]⟩
    · exact absurd h (by simp)
    · have hg : g = [] := (List.append_eq_nil_iff.mp h.symm).1
      subst hg
      exact absurd hd.1 (by simp)
  | mid done g1 g2 e os po o h1 h2 h3 h4 h5 =>
    have hl : g2.length + e.length = 0 := by
      rw [h1, List.length_append, List.length_append, List.length_append] at hi
      omega
    have hg : g2 = [] := List.eq_nil_of_length_eq_zero (by omega)
    subst hg
    rcases h5 with ⟨_, b, _⟩ | ⟨_, rfl, rfl⟩
    · exact absurd rfl b
    · rw [List.append_nil] at h4
      have hgd := h4.good
      refine .inr ⟨by simpa using h3, hgd.1, ?_⟩
      rw [hgd.2, h2, List.append_nil]
theorem octsOf_len (xs : List Int) : (octsOf xs).length ≤ 4 := by
  unfold octsOf
  rw [digs256_four, List.length_take]
  simp only [List.length_cons, List.length_nil]
  omega
theorem EnumAt.sub {g : Heap} {L : Addr} {h : Heap} {news nx : List (Addr × Obj)} {e it : Addr} {b : Array UInt8} {t : Tok} (en : EnumAt g L h news e it b t) (hs : ∀ p ∈ nx, p ∈ news) : EnumAt g L h nx e it b t :=
  { en with ne := fun p hp => en.ne p (hs p hp) }
theorem sign_not_white {k : Int} (h : 33 ≤ k) : isWhite k = false := by
  unfold isWhite
  simp only [List.any_cons, List.any_nil, Bool.or_false, Bool.or_eq_false_iff, beq_eq_false_iff_ne]
  omega
theorem ownOff_new {own : List (Addr × Obj)} {D a b : Addr} (h : ∀ p ∈ own, p.1 < D) (ho : OwnOff own [a, b]) : OwnOff own [D, b] := by
  intro p hp x hx
  rcases List.mem_cons.mp hx with rfl | hx
  · exact Nat.ne_of_lt (h p hp)
  · exact ho p hp x (.tail _ hx)
inductive DecJ (enc out : List Int) (data : Array UInt8) (t : Tok) (lo : Addr) : Nat → (Str → Option Value) → List (Addr × Obj) → Prop
  | mk (i : Nat) (m : Str → Option Value) (ls : Addr) (vs : List Value) (ss : List Int) (c2 : Nat) (us : List Value) (os : List Int) (c1 : Nat) (last : Int) (tl : Tok) : @Ne Nat lo ls → IntsAre vs ss → IntsAre us os → DSt enc out i os ss → i ≤ enc.length →
      m (Str.ofString "octets") = some (.ref lo) → m (Str.ofString "signs") = some (.ref ls) → m (Str.ofString "last") = some (.int last tl) → m (Str.ofString "data") = some (.bytes data t) → DecJ enc out data t lo i m [(ls, listOf vs.toArray c2), (lo, listOf us.toArray c1)]
set_option maxHeartbeats 8000000 in
theorem dec85_ok {w mean mg mb} {h₀ : Heap} {s : Shared} {dp un : Nat} {fr : Option (List Env)} {gd : Option (List Code)} (G : Gd w mean mg mb h₀) (st : h₀.StaysIn s.heap) (hdp : dp + 1 < recursionLimit) (hun : un + 300 < cLine)
    (data : Array UInt8) (t : Tok) (hz : data.size ≤ 1000) (enc out rest : List Int) (hdata : KBw.bInts data = enc ++ 126 :: 62 :: rest) (hd : E85 enc out) (hout : ∀ n ∈ out, 0 ≤ n ∧ n < 256) (hol : out.length ≤ 1000) :
    wpAny (model PySem.Challenge.pw_og0155_01 w) (Rm dp un fr gd) (call (.ref 122) [.bytes data t]) (Ok s [] (fun r _ => BytesAre out r)) (fun _ _ => False) s := by
  refine' enter (binds := [(Str.ofString "data", .bytes data t)]) (news := []) G st (fun _ hp => nomatch hp) (Nat.lt_of_succ_lt hdp) ?ho ?hcd ?hbind ?hloc ?h ?hco ?hgen ?hk ?hcell
  k_extra "my_in"
  intro g' L' h' G' hg' F' N'
  dsimp only
  have X' := G'.X
  have T' := G'.T
  have hks := KBw.ints_length data
  have hel : enc.length + 2 ≤ data.size := by rw [← hks, hdata]; simp
  (try k_fold)
  k_steps
  unfold Stop
  rename_i lo _ _ ls _ hlo _ _ _ _ _ _ _ _ _ _ _ _ _ _ _ _ _ _ e9 it9 hh en F1 N0
  have N1 : News g' L' hh [(ls, listOf #[] 0), (lo, listOf #[] 0)] := fun p hp => N0 p (.tail _ hp)
  have en1 := en.sub (nx := [(ls, listOf #[] 0), (lo, listOf #[] 0)]) fun p hp => .tail _ hp
  refine for_enum rfl en1 rfl rfl rfl F1 N1
    (DecJ enc out data t lo)
    (DecJ.mk _ _ ls [] [] _ [] [] _ (-1) _ (Nat.ne_of_lt hlo) .nil .nil (DSt.start hd) (Nat.zero_le _) (by k_extra "my_look") (by k_extra "my_look") (by k_extra "my_look") (by k_extra "my_look")) ?turn ?done
  case done =>
    rintro m1 nx h1 tk1 ⟨ls, vs, ss, c2, us, os, c1, last, tl, hne1, hvs, hus, hinv, hie, _⟩ _ _
    exfalso
    omega
  case turn =>
    rintro i k tk ti m1 nx h1 tk1 own hik hk0 hk1 ⟨ls, vs, ss, c2, us, os, c1, last, tl, hne1, hvs, hus, hinv, hie, hm1, hm2, hm3, hm4⟩ hoff F5 N5
    simp only [List.cons_append, List.nil_append, List.map_cons, List.map_nil] at N5 hoff
    have F6 : Fr g' L' h1 _ := F5
    have N6 : News g' L' h1 ((ls, listOf vs.toArray c2) :: (lo, listOf us.toArray c1) :: own) := N5
    clear F1 N1 N0 en en1 F5 N5 hlo
    have hvl := hvs.length
    have hul := hus.length
    have hsl := hinv.short
    have hss := hsl.1
    have hos := hsl.2
    clear hsl
    have hub : us.length ≤ 10000 := by omega
    have hvb : vs.length ≤ 10 := by omega
    have hob : os.length ≤ 10000 := by omega
    rcases Nat.lt_or_ge i enc.length with hlt | hge
    · have hke : enc[i]? = some k := by rw [hdata, List.getElem?_append_left hlt] at hik; exact hik
      rcases hinv.step hke with ⟨rfl, rfl, hst⟩ | ⟨h122, h33, h117, hst⟩
      · have hw : isWhite 122 = false := by decide
        cases hvs
        (try k_fold)
        k_steps
        (rename News _ _ _ _ => nE)
        (try dsimp only)
        refine' eend_cont (nx := [(ls, listOf ([] : List Value).toArray _), (lo, listOf (us ++ [Value.int 0 _, Value.int 0 _, Value.int 0 _, Value.int 0 _]).toArray _)]) (by assumption) nE ?sub ?own hoff (DecJ.mk _ _ ls [] [] _ (us ++ [Value.int 0 _, Value.int 0 _, Value.int 0 _, Value.int 0 _]) (os ++ [0, 0, 0, 0]) _ _ _ hne1 .nil (IntsAre.append hus (.cons _ _ (.cons _ _ (.cons _ _ (.cons _ _ .nil))))) hst hlt ?l1 ?l2 ?l3 ?l4)
        (case sub => k_extra "my_sub")
        (case own => k_extra "my_own")
        (case l1 => k_extra "my_look")
        (case l2 => k_extra "my_look")
        (case l3 => k_extra "my_look")
        (case l4 => k_extra "my_look")
      · have hw := sign_not_white h33
        have hg5 : ss.length + 1 = 5 → OctsGood (ss ++ [k - 33]) ∧ DSt enc out (i + 1) (os ++ octsOf (ss ++ [k - 33])) [] := fun q => hst.elim (fun a => absurd q (Nat.ne_of_lt a.1)) (fun a => a.2)
        have hl5 : ss.length + 1 ≠ 5 → DSt enc out (i + 1) os (ss ++ [k - 33]) := fun q => hst.elim (fun a => a.2) (fun a => absurd a.1 q)
        clear hst
        (try k_fold)
        k_steps
        all_goals first | (exfalso; omega) | skip
        all_goals (rename News _ _ _ _ => nE)
        all_goals (try dsimp only)
        all_goals (first
          | ((rename _ ∧ _ ∧ _ ∧ AllLt _ _ => hal)
             refine' eend_next (nx := [(_, listOf ([] : List Value).toArray _), (lo, listOf (us ++ _).toArray _)]) (by assumption) nE ?sub8 ?own8 (ownOff_new (kst_ltOf hal.2.2.2) hoff) (DecJ.mk _ _ _ [] [] _ (us ++ _) (os ++ octsOf (ss ++ [k - 33])) _ _ _ ?ne8 .nil (IntsAre.append hus (by with_reducible assumption)) (hg5 (by omega)).2 hlt ?l18 ?l28 ?l38 ?l48)
             (case ne8 => omega)
             (case sub8 => k_extra "my_sub")
             (case own8 => k_extra "my_own")
             (case l18 => k_extra "my_look")
             (case l28 => k_extra "my_look")
             (case l38 => k_extra "my_look")
             (case l48 => k_extra "my_look"))
          | (refine' eend_next (nx := [(ls, listOf (vs ++ [Value.int (k - 33) _]).toArray _), (lo, listOf us.toArray _)]) (by assumption) nE ?sub9 ?own9 hoff (DecJ.mk _ _ ls (vs ++ [Value.int (k - 33) _]) (ss ++ [k - 33]) _ us os _ _ _ hne1 (IntsAre.append hvs (.cons _ _ .nil)) hus (hl5 (by omega)) hlt ?l19 ?l29 ?l39 ?l49)
             (case sub9 => k_extra "my_sub")
             (case own9 => k_extra "my_own")
             (case l19 => k_extra "my_look")
             (case l29 => k_extra "my_look")
             (case l39 => k_extra "my_look")
             (case l49 => k_extra "my_look")))
    · have hie2 : i = enc.length := by omega
      subst hie2
      have hk126 : k = 126 := by
        rw [hdata, List.getElem?_append_right (Nat.le_refl _), Nat.sub_self] at hik
        simpa using hik.symm
      subst hk126
      have hend : (KBw.bInts data).getD ((enc.length : Int) + 1).toNat 0 = 62 := by
        rw [hdata, show ((enc.length : Int) + 1).toNat = enc.length + 1 by omega, List.getD_eq_getElem?_getD, List.getElem?_append_right (by omega), show enc.length + 1 - enc.length = 1 by omega]
        rfl
      have hw : isWhite 126 = false := by decide
      have hfin : os ++ octsOf ss = out := by
        rcases hinv.fin with ⟨h1, h2⟩ | ⟨_, _, h3⟩
        · rw [h1, h2]; exact List.append_nil _
        · exact h3
      have hos0 : decide (ss = []) = true → os = out := fun q => hinv.fin.elim (fun a => a.2) (fun a => absurd (of_decide_eq_true q) a.1)
      have hgS : decide (ss = []) = false → OctsGood ss := fun q => hinv.fin.elim (fun a => absurd a.1 (of_decide_eq_false q)) (fun a => a.2.1)
      have hnot1 : ss.length ≠ 1 := fun q => by
        rcases hinv.fin with ⟨h1, _⟩ | ⟨_, h2, _⟩
        · rw [h1] at q; exact absurd q (by decide)
        · have h2 := h2.1; rw [q] at h2; exact absurd h2 (by decide)
      have hor : ∀ n ∈ os ++ octsOf ss, 0 ≤ n ∧ n < 256 := by rw [hfin]; exact hout
      have hro : ∀ n ∈ os, 0 ≤ n ∧ n < 256 := fun n hn => hor n (List.mem_append_left _ hn)
      have hofl : (os ++ octsOf ss).length ≤ 1000 := by rw [hfin]; exact hol
      (try k_fold)
      k_steps
      unfold EEnd
      dsimp only
      k_steps
      all_goals first | (exfalso; omega) | skip
      all_goals first
        | ((rename KBw.bInts _ = os ++ octsOf ss => hb9)
           rw [hfin] at hb9
           exact fin_ret (by assumption) ⟨_, _, rfl, hb9⟩)
        | ((rename KBw.bInts _ = os => hb9)
           rw [hos0 (by with_reducible assumption)] at hb9
           exact fin_ret (by assumption) ⟨_, _, rfl, hb9⟩)
theorem set_HexDec : True := by
  k_with_none
  k_with "my_in" => ((w_top off; (case ho => k_dflt k_is); (case hcd => k_dflt k_is); (case hbind => k_dflt (first | exact BindsTo.of_eq rfl | exact binds_K (K := hd.heap_39 _) (Frag.In.keeps (Gd.X (by assumption)) (by assumption)) rfl (by k_dflt k_is) rfl rfl rfl)); (case hloc => exact locs rfl); (case hco => exact rfl); (case hgen => exact rfl); (case hk => exact rfl); (case hcell => decide)))
  k_with "my_look" => (first | with_reducible assumption | exact rfl | (refine' lk_eq ?zk2r; (case zk2r => k_extra "my_look")) | (refine' lk_ne ?zk2n ?zk2r; (case zk2n => decide); (case zk2r => k_extra "my_look")))
  k_with "eval Name" => ((k_here; (with_reducible show wpAny _ _ (eval (PySem.Expr.Name _ _) (envOf _ _ _ _ _)) _ _ _); k_dflt (refine ld (by assumption) (by k_extra "my_look") ?_)))
  k_with "eval Constant int" => ((refine c_const ?_; intro _ _))
  k_with "binaryOp Add int int" => ((refine c_add ?_; intro _ _))
  k_with "binaryOp Sub int int" => ((refine c_sub ?_; intro _ _))
  k_with "binaryOp Mult int int" => ((refine c_mul (by mul_fits) ?_; intro _ _))
  k_with "binaryOp Mod int int" => ((refine c_mod (by omega) ?_; intro _ _ _ _))
  k_with "binaryOp FloorDiv int int" => ((refine c_div (by omega) (by omega) ?_; intro _ _))
  k_with "unaryOp USub int" => ((refine c_neg ?_; intro _ _))
  k_with "binaryOp Pow int int" => ((refine c_pow (by decide) (by decide) (by decide) ?_; intro _ _))
  k_with "my_for" => ((k_dflt (refine for_go (by assumption) ?_ (by intro _; rfl) PassesOwn.never)))
  k_with "my_room" => (first | assumption | ((try dsimp only [Rm]); omega))
  k_with "exec For Name Name cons nil" => (k_extra "my_for")
  k_with "exec For Name Call cons nil" => (k_extra "my_for")
  k_with "exec For Name BinOp cons nil" => (k_extra "my_for")
  k_with "exec For Name Tuple cons nil" => (k_extra "my_for")
  k_with "exec For Tuple Name cons nil" => (k_extra "my_for")
  k_with "exec For Tuple Call cons nil" => (k_extra "my_for")
  k_with "exec For Tuple BinOp cons nil" => (k_extra "my_for")
  k_with "exec For Tuple Tuple cons nil" => (k_extra "my_for")
  k_with "exec While Compare cons nil" => ((refine stop_intro ?_))
  k_with "exec While BoolOp cons nil" => ((refine stop_intro ?_))
  k_with "my_sub" => (first | exact List.forall_mem_nil _ | (refine' List.forall_mem_cons.mpr ⟨by k_mem, ?_⟩; k_extra "my_sub") | k_extra "my_own")
  k_with "my_own" => ((intro _ _; k_extra "my_mem"))
  k_with "my_mem" => (first | assumption | (refine' List.mem_append_left _ ?_; k_extra "my_mem") | (refine' List.mem_append_right _ ?_; k_extra "my_mem") | (refine' List.Mem.tail _ ?_; k_extra "my_mem"))
  k_with "my_size" => (first | exact Nat.le_trans (by with_reducible assumption) (Nat.le_of_ble_eq_true rfl) | omega | (simp only [KBw.ints_length, List.length_append, List.length_take, List.length_drop, List.length_cons, List.length_nil, Array.size_append] at *; omega))
  k_with "my_part" => (first | exact IsPart.none | exact IsPart.int _ _)
  k_with "eval Constant bytes" => ((refine cb_const ?_; intro _ _))
  k_with "call builtin:len" => (((with_reducible show wpAny _ _ (call (Value.builtin "len") [Value.bytes _ _]) _ _ _); refine cb_len (by k_extra "my_size") ?_; intro _ _))
  k_with "binaryOp Add bytes bytes" => ((refine cb_add (by k_extra "my_size") ?_; intro _ _ _ _ _))
  k_with "compareOp Eq bytes bytes" => ((refine cb_eq ?_))
  k_with "compareOp NotEq bytes bytes" => ((refine cb_ne ?_))
  k_with "truthy bytes" => ((refine cb_truthy (by k_extra "my_size") ?_; intro _))
  k_with "binaryOp Mult bytes int" => ((refine cb_mul (by omega) (by omega) (by omega) (by omega) ?_; intro _ _ _ _))
  k_with "call type:bytes" => (((with_reducible show wpAny _ _ (call (Value.type "bytes") [Value.ref _]) _ _ _); k_dflt (refine' cb_make ?zk36F ?zk36N rfl ?zk36l ?zk36i ?zk36r ?zk36n ?_; (case zk36F => assumption); (case zk36N => assumption); (case zk36l => first | exact News.isList (by assumption) (by k_mem) | assumption); (case zk36i => k_extra "my_ints"); (case zk36r => k_extra "my_range"); (case zk36n => k_extra "my_size")); intro _ _ _ _ _ _ _ _))
  k_with "my_ints" => (first | with_reducible assumption | exact IntsAre.nil | (refine' IntsAre.cons _ _ ?zk37c; (case zk37c => k_extra "my_ints")) | (with_reducible refine' IntsAre.append (by k_extra "my_ints") (by k_extra "my_ints")) | assumption)
  k_with "my_range" => (first | with_reducible assumption | exact List.forall_mem_nil _ | ((with_reducible refine' List.forall_mem_append.mpr ⟨?_, ?_⟩) <;> k_extra "my_range") | ((refine' List.forall_mem_cons.mpr ⟨⟨?_, ?_⟩, ?_⟩) <;> (first | omega | k_extra "my_range")))
  k_with "subscriptTail" => (((with_reducible show wpAny _ _ (subscriptTail _ _ (Value.bytes _ _) (Value.int _ _)) _ _ _); k_dflt (refine cb_item (by k_extra "my_size") (by omega) (by omega) ?_); intro _ _ _ _))
  k_with "subscriptTail" => (((with_reducible show wpAny _ _ (subscriptTail _ (Expr.Slice _ _ none _) (Value.bytes _ _) (Value.ref _)) _ _ _); k_dflt (refine' cb_slice ?zk40F ?zk40N ?zk40a ?zk40b ?zk40z ?_; (case zk40F => assumption); (case zk40N => assumption); (case zk40a => k_extra "my_part"); (case zk40b => k_extra "my_part"); (case zk40z => k_extra "my_size")); intro _ _ _ _ _ _ hC _; (first | rw [cut_nn (by omega) (by omega)] at hC | rw [cut_0n (by omega)] at hC | rw [cut_neg (by omega)] at hC); (have hN := congrArg List.length hC); (simp only [KBw.ints_length, List.length_take, List.length_drop] at hN)))
  k_with "call type:list" => (((with_reducible show wpAny _ _ (call (Value.type "list") [Value.bytes _ _]) _ _ _); k_dflt (refine' cl_bytes ?zk41F ?zk41N rfl ?zk41z ?_; (case zk41F => assumption); (case zk41N => assumption); (case zk41z => k_extra "my_size")); intro _ _ _ _ _ l1 _ _ _ _; (try k_lt l1)))
  k_with "call builtin:list.extend" => (((with_reducible show wpAny _ _ (call (Value.builtin _) [Value.ref _, Value.ref _]) _ _ _); k_dflt (refine' cl_extend ?zk42F ?zk42N ?zk42U ?zk42b ?zk42z ?_; (case zk42F => assumption); (case zk42N => assumption); (case zk42U => k_updF); (case zk42b => k_mem); (case zk42z => k_extra "my_lens")); intro _ _ _ _ N'; (try dsimp only at N')))
  k_with "my_lens" => (first | exact Nat.le_trans (by with_reducible assumption) (Nat.le_of_ble_eq_true rfl) | exact Nat.le_trans (Nat.add_le_add_right (by with_reducible assumption) _) (Nat.le_of_ble_eq_true rfl) | exact Nat.le_trans (Nat.add_le_add (by with_reducible assumption) (Nat.add_le_add_right (by with_reducible assumption) _)) (Nat.le_of_ble_eq_true rfl) | exact Nat.le_trans (Nat.add_le_add_right (Nat.add_le_add (by with_reducible assumption) (by with_reducible assumption)) _) (Nat.le_of_ble_eq_true rfl) | exact Nat.le_trans (Nat.add_le_add (by with_reducible assumption) (by with_reducible assumption)) (Nat.le_of_ble_eq_true rfl) | omega | (simp only [List.flatten_replicate_singleton, List.length_replicate]; omega) | ((repeat rw [IntsAre.length (by with_reducible assumption)]); k_extra "my_size"))
  k_with "exec Raise some none" => ((exfalso; omega))
  k_with "my_isl" => (first | exact News.isList (by assumption) (by k_mem) | assumption | exact Heap.IsList.at (by with_reducible assumption) fun o e => Fr.keep (by assumption) _ o e)
  k_with "call builtin:len" => (((with_reducible show wpAny _ _ (call (Value.builtin "len") [Value.ref _]) _ _ _); k_dflt (refine' cl_len ?zk46l ?zk46z ?_; (case zk46l => k_extra "my_isl"); (case zk46z => k_extra "my_lens")); intro _ _; (try simp only [List.length_append, List.length_cons, List.length_nil])))
  k_with "binaryOp Add ref ref" => (((with_reducible show wpAny _ _ (binaryOp Operator.Add (Value.ref _) (Value.ref _)) _ _ _); k_dflt (refine' cl_add ?zk47F ?zk47N ?zk47l ?zk47b ?zk47i ?zk47j ?zk47z ?_; (case zk47F => assumption); (case zk47N => assumption); (case zk47l => k_extra "my_isl"); (case zk47b => k_extra "my_isl"); (case zk47i => k_extra "my_ints"); (case zk47j => k_extra "my_ints"); (case zk47z => k_extra "my_lens")); intro _ _ _ _ _ l1 _ _ _ _; (try k_lt l1)))
  k_with "call builtin:list.append" => (((with_reducible show wpAny _ _ (call (Value.builtin _) [Value.ref _, _]) _ _ _); k_dflt (refine' cl_append ?zk48F ?zk48N ?zk48U ?zk48z ?_; (case zk48F => assumption); (case zk48N => assumption); (case zk48U => k_updF); (case zk48z => k_extra "my_lens")); intro _ _ _ N'; (try dsimp only at N')))
  k_with "subscriptTail Name Slice ref ref" => (((with_reducible show wpAny _ _ (subscriptTail _ (Expr.Slice none (some _) none _) (Value.ref _) (Value.ref _)) _ _ _); k_dflt (refine' cl_upto ?zk49F ?zk49N ?zk49l ?zk49i ?zk49a ?zk49z ?_; (case zk49F => assumption); (case zk49N => assumption); (case zk49l => k_extra "my_isl"); (case zk49i => k_extra "my_ints"); (case zk49a => omega); (case zk49z => k_extra "my_lens")); intro _ _ _ _ _ l1 _ _ _ _; (try k_lt l1)))
  k_with "execs cons" => ((k_here; first | k_fold | (k_made; walk_at "execs cons") | k_gentoks | (with_reducible refine execs_one ?_) | ((with_reducible refine wpAny_execs_cons ?_); (try dsimp only); k_fold)))
  k_with "spliced" => ((k_here; first | (refine args_last ?_; (try dsimp only [List.cons_append, List.nil_append])) | refine args_cons ?_ | (refine args_nil ?_; (try dsimp only [List.cons_append, List.nil_append]))))
  k_with "storeName" => ((k_here; k_dflt (refine' storeM ?zk52F ?zk52N ?_ ?zk52a ?zk52b; (case zk52F => k_asm); (case zk52N => k_asm); (case zk52a => rfl); (case zk52b => rfl); k_whole; intro _ _ _ _; (try k_sweep))))
  k_with "call type:enumerate" => (((with_reducible show wpAny _ _ (call (Value.type "enumerate") [Value.bytes _ _]) _ _ _); k_dflt (refine' cb_enum ?zk74F ?zk74N ?_; (case zk74F => assumption); (case zk74N => assumption)); intro _ _ _ _ _ _))
  k_with "call ref" => (((with_reducible show wpAny _ _ (call (Value.ref 29) _) _ _ _); k_dflt (refine' use_pure ?zk75F ?zk75N (is_white_ok ?zk75G ?zk75st ?zk75d _ _) ?_; (case zk75F => assumption); (case zk75N => assumption); (case zk75G => assumption); (case zk75st => exact Fr.keep (by assumption)); (case zk75d => k_extra "my_room"); intro _ _ _ hp9 _ _; (rename isWhite _ = true => hw9); (rw [hw9] at hp9); subst hp9)))
  k_with "call ref" => (((with_reducible show wpAny _ _ (call (Value.ref 84) _) _ _ _); k_dflt (refine' use_pure ?zk76F ?zk76N (figure_worth_ok ?zk76G ?zk76st ?zk76d _ _) ?_; (case zk76F => assumption); (case zk76N => assumption); (case zk76G => assumption); (case zk76st => exact Fr.keep (by assumption)); (case zk76d => k_extra "my_room"); intro _ _ _ hp9 _ _; obtain ⟨t9, hp9⟩ := hp9; subst hp9)))
  k_with "eval Name" => ((k_here; (with_reducible show wpAny _ _ (eval (PySem.Expr.Name _ _) (envOfC _ _ _ _ _)) _ _ _); k_dflt (refine nameX_L (by assumption) (by k_extra "my_look") ?_)))
  k_with "eval Name" => ((k_here; (with_reducible show wpAny _ _ (eval (PySem.Expr.Name _ _) (compEnvC _ _ _ _)) _ _ _); k_dflt (first | refine ld_comp (by assumption) (by with_reducible assumption) ?_ | (refine' lcf_free ?zk78N ?zk78c ?zk78m ?zk78d ?_ ?zk78a ?zk78b; (case zk78a => rfl); (case zk78b => rfl); (case zk78N => assumption); (case zk78c => rfl); (case zk78m => k_mem); (case zk78d => assumption)))))
  k_with "eval ListComp" => (refine stop_intro ?_)
  k_with "my_in2" => ((w_top off; (case ho => k_dflt k_is); (case hcd => k_dflt k_is); (case hbind => k_dflt (first | exact BindsTo.of_eq rfl | exact binds_K (K := hd.heap_39 _) (Frag.In.keeps (Gd.X (by assumption)) (by assumption)) rfl (by k_dflt k_is) rfl rfl rfl)); (case hloc => rfl); (case hco => exact rfl); (case hgen => exact rfl); (case hk => exact rfl); (case hcell => decide)))
  trivial
theorem nibs_len (ks : List Int) : (nibs ks).length = 2 * ks.length := by
  induction ks with
  | nil => rfl
  | cons k ks ih =>
    have : nibs (k :: ks) = k / 16 :: k % 16 :: nibs ks := rfl
    rw [this, List.length_cons, List.length_cons, ih, List.length_cons]
    omega
theorem nibs_at : ∀ (ks : List Int) (j : Nat), (nibs ks).getD (2 * j) 0 = ks.getD j 0 / 16 ∧ (nibs ks).getD (2 * j + 1) 0 = ks.getD j 0 % 16
  | [], j => by simp [nibs]
  | k :: ks, 0 => ⟨rfl, rfl⟩
  | k :: ks, j + 1 => by
    have e : nibs (k :: ks) = k / 16 :: k % 16 :: nibs ks := rfl
    have := nibs_at ks j
    rw [e, show 2 * (j + 1) = 2 * j + 1 + 1 by omega]
    simpa using this
def pairUp (xs : List Int) (k : Int) : Int := 16 * xs.getD k.toNat 0 + xs.getD (k + 1).toNat 0
theorem pairUp_nibs (ks : List Int) : ((List.range ks.length).map fun (j : Nat) => pairUp (nibs ks) (0 + (j : Int) * 2)) = ks := by
  refine List.ext_getElem (by simp) fun i h1 h2 => ?_
  rw [List.getElem_map, List.getElem_range]
  unfold pairUp
  have e1 : (0 + (i : Int) * 2).toNat = 2 * i := by omega
  have e2 : (0 + (i : Int) * 2 + 1).toNat = 2 * i + 1 := by omega
  obtain ⟨a, b⟩ := nibs_at ks i
  rw [e1, e2, a, b, List.getD_eq_getElem?_getD, List.getElem?_eq_getElem h2]
  show 16 * (ks[i] / 16) + ks[i] % 16 = ks[i]
  omega
theorem small_two {b : Int} (h0 : 0 ≤ b) (h1 : b ≤ 100000) : Builtin.Range.small 0 b 2 = true := by
  unfold Builtin.Range.small
  rw [rangeSize_pos (by omega) h0]
  simp only [Builtin.Range.rangeFitsLong, Bool.and_eq_true, Bool.or_eq_true, decide_eq_true_eq, beq_iff_eq, show (2 : Int) > 0 by decide, if_true]
  omega
theorem size_two {n : Nat} : (((2 * n : Nat) : Int) + 2 - 1) / 2 = (n : Int) := by omega
theorem at_two {j n : Nat} (h : j < n) : ((0 : Int) + j * 2).toNat < 2 * n := by
  rw [show (0 : Int) + j * 2 = ((j * 2 : Nat) : Int) by rw [Int.zero_add]; rfl]
  show j * 2 < 2 * n
  omega
theorem at_two1 {j n : Nat} (h : j < n) : ((0 : Int) + j * 2 + 1).toNat < 2 * n := by
  rw [show (0 : Int) + j * 2 + 1 = ((j * 2 + 1 : Nat) : Int) by rw [Int.zero_add]; rfl]
  show j * 2 + 1 < 2 * n
  omega
def worthsOf (xs : List Int) : List Int := (xs.filter fun c => decide (0 ≤ worth c)).map worth
theorem worthsOf_snoc (xs : List Int) (c : Int) : worthsOf (xs ++ [c]) = worthsOf xs ++ (if 0 ≤ worth c then [worth c] else []) := by
  unfold worthsOf
  rw [List.filter_append, List.map_append]
  by_cases h : 0 ≤ worth c <;> simp [h]
theorem worthsOf_len (xs : List Int) : (worthsOf xs).length ≤ xs.length := by
  unfold worthsOf
  rw [List.length_map]
  exact List.length_filter_le _ _
set_option maxHeartbeats 8000000 in
theorem hex_decoded_ok {w mean mg mb} {h₀ : Heap} {s : Shared} {dp un : Nat} {fr : Option (List Env)} {gd : Option (List Code)} (G : Gd w mean mg mb h₀) (st : h₀.StaysIn s.heap) (hdp : dp + 1 < recursionLimit) (hun : un + 300 < cLine)
    (data : Array UInt8) (t : Tok) (hz : data.size ≤ 1000) (pre out rest : List Int) (hdata : KBw.bInts data = pre ++ 62 :: rest) (hx : HexSt pre (nibs out)) (hout : ∀ n ∈ out, 0 ≤ n ∧ n < 256) (hol : out.length ≤ 100) :
    wpAny (model PySem.Challenge.pw_og0155_01 w) (Rm dp un fr gd) (call (.ref 89) [.bytes data t]) (Ok s [] (fun r _ => BytesAre out r)) (fun _ _ => False) s := by
  refine' enterC (binds := [(Str.ofString "data", .bytes data t)]) G st (Nat.lt_of_succ_lt hdp) ?ho ?hcd ?hbind ?hloc ?h ?hco ?hgen ?hk ?hcell
  k_extra "my_in2"
  intro g' L' h' tk' cells G' hg' F0 N0 C0 ev Ak
  have X' := G'.X
  have T' := G'.T
  have hks := KBw.ints_length data
  have hel : pre.length + 1 ≤ data.size := by rw [← hks, hdata]; simp
  obtain ⟨oc, rfl, hoc⟩ := CellsAre.one (c := L' + 1) (n := Str.ofString "worths") C0
  have F' : Fr g' L' h' (fun y => if y = Str.ofString "data" then some (.bytes data t) else none) := F0
  clear F0 C0
  have N' : News g' L' h' [(L' + 1, oc)] := N0
  clear N0
  have hoc0 : oc.data = .cell none := hoc
  clear hoc
  (try k_fold)
  k_steps
  unfold Stop
  rename_i lw _ _ _ o1 _ _ hoc1 _ _ e9 it9 hh en F1 N1
  refine for_enum rfl en rfl rfl rfl F1 N1
    (fun i m nx => ∃ us c, nx = [(lw, listOf us.toArray c), (L' + 1, o1)] ∧ IntsAre us (worthsOf (pre.take i)) ∧ i ≤ pre.length)
    ⟨[], _, rfl, .nil, Nat.zero_le _⟩ ?turn ?done
  case done =>
    rintro m1 nx h1 tk1 ⟨us, c, rfl, hus, hie⟩ _ _
    exfalso
    omega
  case turn =>
    rintro i k tk ti m1 nx h1 tk1 own hik hk0 hk1 ⟨us, c1, rfl, hus, hie⟩ hoff F5 N5
    simp only [List.cons_append, List.nil_append, List.map_cons, List.map_nil] at N5 hoff
    have F6 : Fr g' L' h1 _ := F5
    have N6 : News g' L' h1 ((lw, listOf us.toArray c1) :: (L' + 1, o1) :: own) := N5
    clear F1 N1 en F5 N5
    have hul := hus.length
    have hwl := worthsOf_len (pre.take i)
    rw [List.length_take] at hwl
    have hub : us.length ≤ 1000 := by omega
    rcases Nat.lt_or_ge i pre.length with hlt | hge
    · have hke : pre[i]? = some k := by rw [hdata, List.getElem?_append_left hlt] at hik; exact hik
      obtain ⟨h62, hor, _, _⟩ := hx.ok k (List.mem_of_getElem? hke)
      have hsn := worthsOf_snoc (pre.take i) k
      rw [show pre.take i ++ [k] = pre.take (i + 1) by rw [List.take_add_one, hke]; rfl] at hsn
      by_cases hw0 : 0 ≤ worth k
      · rw [if_pos hw0] at hsn
        clear hor
        (try k_fold)
        k_steps
        all_goals first | (exfalso; omega) | skip
        (rename News _ _ _ _ => nE)
        (try dsimp only)
        refine' eend_next (nx := [(lw, listOf (us ++ [Value.int (worth k) _]).toArray _), (L' + 1, o1)]) (by assumption) nE ?sub ?own hoff ⟨us ++ [Value.int (worth k) _], _, rfl, ?ii, hlt⟩
        (case sub => k_extra "my_sub")
        (case own => k_extra "my_own")
        (case ii => rw [hsn]; exact IntsAre.append hus (.cons _ _ .nil))
      · rw [if_neg hw0, List.append_nil] at hsn
        have hw : isWhite k = true := hor.resolve_left hw0
        clear hor
        (try k_fold)
        k_steps
        all_goals first | (exfalso; omega) | skip
        (rename News _ _ _ _ => nE)
        (try dsimp only)
        refine' eend_next (nx := [(lw, listOf us.toArray _), (L' + 1, o1)]) (by assumption) nE ?sub ?own hoff ⟨us, _, rfl, ?ii, hlt⟩
        (case sub => k_extra "my_sub")
        (case own => k_extra "my_own")
        (case ii => rw [hsn]; exact hus)
    · have hie2 : i = pre.length := by omega
      subst hie2
      have hk62 : k = 62 := by
        rw [hdata, List.getElem?_append_right (Nat.le_refl _), Nat.sub_self] at hik
        simpa using hik.symm
      subst hk62
      have hall : worthsOf (pre.take pre.length) = nibs out := by rw [List.take_length]; exact hx.nb
      rw [hall] at hus hul hwl
      have hnl := nibs_len out
      rw [hnl] at hul
      have hob : out.length ≤ 1000 := Nat.le_trans hol (by decide)
      (try k_fold)
      k_steps
      unfold EEnd
      dsimp only
      k_steps
      · exfalso; omega
      · unfold Stop
        refine' comp_range ?F (pairUp (nibs out)) ?hh ?cl ?ce ?ki ?na ?x ?h (fun _ => rfl)
        (case F => assumption)
        (case hh => rfl)
        (case cl => with_unfolding_all rfl)
        (case ce => decide)
        (case ki => rfl)
        (case na => decide)
        (case x => rfl)
        k_steps
        unfold Stop
        (rename IsRange _ _ _ _ _ _ _ _ => hrg)
        (rename News _ _ _ _ => nE)
        refine ⟨_, 0, _, 2, _, _, _, out.length, _, _, rfl, hrg, small_two (by omega) (by omega), ?rs, by omega, by assumption, nE, ?elt, ?cont⟩
        case rs => rw [rangeSize_pos (by decide) (Int.natCast_nonneg _), hul]; exact size_two
        case elt =>
          rintro C j tj ⟨h2, gs2, d2, k2, o2⟩ m2 hj F2 N2 hm2
          have hp0 : ((0 : Int) + j * 2).toNat < us.length := by rw [hul]; exact at_two hj
          have hp1 : ((0 : Int) + j * 2 + 1).toNat < us.length := by rw [hul]; exact at_two1 hj
          clear nE hrg
          k_steps
          exact keeps_self
        case cont =>
          intro D9 ws9 c9 h9 k9 hne9 F9 N9 hI9 hL9
          clear nE hrg
          replace hne9 := allNe_of hne9
          simp only [AllNe, and_true] at hne9
          rw [pairUp_nibs out] at hI9
          k_steps
          refine fin_ret (by assumption) ⟨_, _, rfl, by with_reducible assumption⟩
theorem set_Pen : True := by
  k_with_none
  k_with "my_in" => ((w_top off; (case ho => k_dflt k_is); (case hcd => k_dflt k_is); (case hbind => k_dflt (first | exact BindsTo.of_eq rfl | exact binds_K (K := hd.heap_39 _) (Frag.In.keeps (Gd.X (by assumption)) (by assumption)) rfl (by k_dflt k_is) rfl rfl rfl)); (case hloc => exact locs rfl); (case hco => exact rfl); (case hgen => exact rfl); (case hk => exact rfl); (case hcell => decide)))
  k_with "my_look" => (first | with_reducible assumption | exact rfl | (refine' lk_eq ?zk2r; (case zk2r => k_extra "my_look")) | (refine' lk_ne ?zk2n ?zk2r; (case zk2n => decide); (case zk2r => k_extra "my_look")))
  k_with "eval Name" => ((k_here; (with_reducible show wpAny _ _ (eval (PySem.Expr.Name _ _) (envOf _ _ _ _ _)) _ _ _); k_dflt (refine ld (by assumption) (by k_extra "my_look") ?_)))
  k_with "eval Constant int" => ((refine c_const ?_; intro _ _))
  k_with "binaryOp Add int int" => ((refine c_add ?_; intro _ _))
  k_with "binaryOp Sub int int" => ((refine c_sub ?_; intro _ _))
  k_with "binaryOp Mult int int" => ((refine c_mul (by mul_fits) ?_; intro _ _))
  k_with "binaryOp Mod int int" => ((refine c_mod (by omega) ?_; intro _ _ _ _))
  k_with "binaryOp FloorDiv int int" => ((refine c_div (by omega) (by omega) ?_; intro _ _))
  k_with "unaryOp USub int" => ((refine c_neg ?_; intro _ _))
  k_with "binaryOp Pow int int" => ((refine c_pow (by decide) (by decide) (by decide) ?_; intro _ _))
  k_with "my_for" => ((k_dflt (refine for_go (by assumption) ?_ (by intro _; rfl) PassesOwn.never)))
  k_with "my_room" => (first | assumption | ((try dsimp only [Rm]); omega))
  k_with "exec For Name Name cons nil" => (k_extra "my_for")
  k_with "exec For Name Call cons nil" => (k_extra "my_for")
  k_with "exec For Name BinOp cons nil" => (k_extra "my_for")
  k_with "exec For Name Tuple cons nil" => (k_extra "my_for")
  k_with "exec For Tuple Name cons nil" => (k_extra "my_for")
  k_with "exec For Tuple Call cons nil" => (k_extra "my_for")
  k_with "exec For Tuple BinOp cons nil" => (k_extra "my_for")
  k_with "exec For Tuple Tuple cons nil" => (k_extra "my_for")
  k_with "exec While Compare cons nil" => ((refine stop_intro ?_))
  k_with "exec While BoolOp cons nil" => ((refine stop_intro ?_))
  k_with "my_sub" => (first | exact List.forall_mem_nil _ | (refine' List.forall_mem_cons.mpr ⟨by k_mem, ?_⟩; k_extra "my_sub") | k_extra "my_own")
  k_with "my_own" => ((intro _ _; k_extra "my_mem"))
  k_with "my_mem" => (first | assumption | (refine' List.mem_append_left _ ?_; k_extra "my_mem") | (refine' List.mem_append_right _ ?_; k_extra "my_mem") | (refine' List.Mem.tail _ ?_; k_extra "my_mem"))
  k_with "my_size" => (first | exact Nat.le_trans (by with_reducible assumption) (Nat.le_of_ble_eq_true rfl) | omega | (simp only [KBw.ints_length, List.length_append, List.length_take, List.length_drop, List.length_cons, List.length_nil, Array.size_append] at *; omega))
  k_with "my_part" => (first | exact IsPart.none | exact IsPart.int _ _)
  k_with "eval Constant bytes" => ((refine cb_const ?_; intro _ _))
  k_with "call builtin:len" => (((with_reducible show wpAny _ _ (call (Value.builtin "len") [Value.bytes _ _]) _ _ _); refine cb_len (by k_extra "my_size") ?_; intro _ _))
  k_with "binaryOp Add bytes bytes" => ((refine cb_add (by k_extra "my_size") ?_; intro _ _ _ _ _))
  k_with "compareOp Eq bytes bytes" => ((refine cb_eq ?_))
  k_with "compareOp NotEq bytes bytes" => ((refine cb_ne ?_))
  k_with "truthy bytes" => ((refine cb_truthy (by k_extra "my_size") ?_; intro _))
  k_with "binaryOp Mult bytes int" => ((refine cb_mul (by omega) (by omega) (by omega) (by omega) ?_; intro _ _ _ _))
  k_with "call type:bytes" => (((with_reducible show wpAny _ _ (call (Value.type "bytes") [Value.ref _]) _ _ _); k_dflt (refine' cb_make ?zk36F ?zk36N rfl ?zk36l ?zk36i ?zk36r ?zk36n ?_; (case zk36F => assumption); (case zk36N => assumption); (case zk36l => first | exact News.isList (by assumption) (by k_mem) | assumption); (case zk36i => k_extra "my_ints"); (case zk36r => k_extra "my_range"); (case zk36n => k_extra "my_size")); intro _ _ _ _ _ _ _ _))
  k_with "my_ints" => (first | with_reducible assumption | exact IntsAre.nil | (refine' IntsAre.cons _ _ ?zk37c; (case zk37c => k_extra "my_ints")) | (with_reducible refine' IntsAre.append (by k_extra "my_ints") (by k_extra "my_ints")) | assumption)
  k_with "my_range" => (first | with_reducible assumption | exact List.forall_mem_nil _ | ((with_reducible refine' List.forall_mem_append.mpr ⟨?_, ?_⟩) <;> k_extra "my_range") | ((refine' List.forall_mem_cons.mpr ⟨⟨?_, ?_⟩, ?_⟩) <;> (first | omega | k_extra "my_range")))
  k_with "subscriptTail" => (((with_reducible show wpAny _ _ (subscriptTail _ _ (Value.bytes _ _) (Value.int _ _)) _ _ _); k_dflt (refine cb_item (by k_extra "my_size") (by omega) (by omega) ?_); intro _ _ _ _))
  k_with "subscriptTail" => (((with_reducible show wpAny _ _ (subscriptTail _ (Expr.Slice _ _ none _) (Value.bytes _ _) (Value.ref _)) _ _ _); k_dflt (refine' cb_slice ?zk40F ?zk40N ?zk40a ?zk40b ?zk40z ?_; (case zk40F => assumption); (case zk40N => assumption); (case zk40a => k_extra "my_part"); (case zk40b => k_extra "my_part"); (case zk40z => k_extra "my_size")); intro _ _ _ _ _ _ hC _; (first | rw [cut_nn (by omega) (by omega)] at hC | rw [cut_0n (by omega)] at hC | rw [cut_neg (by omega)] at hC); (have hN := congrArg List.length hC); (simp only [KBw.ints_length, List.length_take, List.length_drop] at hN)))
  k_with "call type:list" => (((with_reducible show wpAny _ _ (call (Value.type "list") [Value.bytes _ _]) _ _ _); k_dflt (refine' cl_bytes ?zk41F ?zk41N rfl ?zk41z ?_; (case zk41F => assumption); (case zk41N => assumption); (case zk41z => k_extra "my_size")); intro _ _ _ _ _ l1 _ _ _ _; (try k_lt l1)))
  k_with "call builtin:list.extend" => (((with_reducible show wpAny _ _ (call (Value.builtin _) [Value.ref _, Value.ref _]) _ _ _); k_dflt (refine' cl_extend ?zk42F ?zk42N ?zk42U ?zk42b ?zk42z ?_; (case zk42F => assumption); (case zk42N => assumption); (case zk42U => k_updF); (case zk42b => k_mem); (case zk42z => k_extra "my_lens")); intro _ _ _ _ N'; (try dsimp only at N')))
  k_with "my_lens" => (first | exact Nat.le_trans (by with_reducible assumption) (Nat.le_of_ble_eq_true rfl) | exact Nat.le_trans (Nat.add_le_add_right (by with_reducible assumption) _) (Nat.le_of_ble_eq_true rfl) | exact Nat.le_trans (Nat.add_le_add (by with_reducible assumption) (Nat.add_le_add_right (by with_reducible assumption) _)) (Nat.le_of_ble_eq_true rfl) | exact Nat.le_trans (Nat.add_le_add_right (Nat.add_le_add (by with_reducible assumption) (by with_reducible assumption)) _) (Nat.le_of_ble_eq_true rfl) | exact Nat.le_trans (Nat.add_le_add (by with_reducible assumption) (by with_reducible assumption)) (Nat.le_of_ble_eq_true rfl) | omega | (simp only [List.flatten_replicate_singleton, List.length_replicate]; omega) | ((repeat rw [IntsAre.length (by with_reducible assumption)]); k_extra "my_size"))
  k_with "exec Raise some none" => ((exfalso; omega))
  k_with "my_isl" => (first | exact News.isList (by assumption) (by k_mem) | assumption | exact Heap.IsList.at (by with_reducible assumption) fun o e => Fr.keep (by assumption) _ o e)
  k_with "call builtin:len" => (((with_reducible show wpAny _ _ (call (Value.builtin "len") [Value.ref _]) _ _ _); k_dflt (refine' cl_len ?zk46l ?zk46z ?_; (case zk46l => k_extra "my_isl"); (case zk46z => k_extra "my_lens")); intro _ _; (try simp only [List.length_append, List.length_cons, List.length_nil])))
  k_with "binaryOp Add ref ref" => (((with_reducible show wpAny _ _ (binaryOp Operator.Add (Value.ref _) (Value.ref _)) _ _ _); k_dflt (refine' cl_add ?zk47F ?zk47N ?zk47l ?zk47b ?zk47i ?zk47j ?zk47z ?_; (case zk47F => assumption); (case zk47N => assumption); (case zk47l => k_extra "my_isl"); (case zk47b => k_extra "my_isl"); (case zk47i => k_extra "my_ints"); (case zk47j => k_extra "my_ints"); (case zk47z => k_extra "my_lens")); intro _ _ _ _ _ l1 _ _ _ _; (try k_lt l1)))
  k_with "call builtin:list.append" => (((with_reducible show wpAny _ _ (call (Value.builtin _) [Value.ref _, _]) _ _ _); k_dflt (refine' cl_append ?zk48F ?zk48N ?zk48U ?zk48z ?_; (case zk48F => assumption); (case zk48N => assumption); (case zk48U => k_updF); (case zk48z => k_extra "my_lens")); intro _ _ _ N'; (try dsimp only at N')))
  k_with "subscriptTail Name Slice ref ref" => (((with_reducible show wpAny _ _ (subscriptTail _ (Expr.Slice none (some _) none _) (Value.ref _) (Value.ref _)) _ _ _); k_dflt (refine' cl_upto ?zk49F ?zk49N ?zk49l ?zk49i ?zk49a ?zk49z ?_; (case zk49F => assumption); (case zk49N => assumption); (case zk49l => k_extra "my_isl"); (case zk49i => k_extra "my_ints"); (case zk49a => omega); (case zk49z => k_extra "my_lens")); intro _ _ _ _ _ l1 _ _ _ _; (try k_lt l1)))
  k_with "execs cons" => ((k_here; first | k_fold | (k_made; walk_at "execs cons") | k_gentoks | (with_reducible refine execs_one ?_) | ((with_reducible refine wpAny_execs_cons ?_); (try dsimp only); k_fold)))
  k_with "spliced" => ((k_here; first | (refine args_last ?_; (try dsimp only [List.cons_append, List.nil_append])) | refine args_cons ?_ | (refine args_nil ?_; (try dsimp only [List.cons_append, List.nil_append]))))
  k_with "storeName" => ((k_here; k_dflt (refine' storeM ?zk52F ?zk52N ?_ ?zk52a ?zk52b; (case zk52F => k_asm); (case zk52N => k_asm); (case zk52a => rfl); (case zk52b => rfl); k_whole; intro _ _ _ _; (try k_sweep))))
  trivial
/-- a pen that the call has made, with its cells -/
inductive NewPen (h : Heap) (r : Value) (h' : Heap) : Prop
  | mk (pen cells : Addr) (sa : Int) (t1 t2 t3 : Tok) (c : Nat) (vs : List Value) (ns : List Int) (c2 : Nat) : r = .ref pen → h'.get? pen = some (penObj cells 0 0 sa t1 t2 t3 c) → h'.get? cells = some (listOf vs.toArray c2) → h.get? pen = none → h.get? cells = none → IntsAre vs ns → ns.length ≤ 63 → PenIn 0 0 0 sa → NewPen h r h'
set_option maxHeartbeats 8000000 in
theorem pen_ok {w mean mg mb} {h₀ : Heap} {s : Shared} {dp un : Nat} {fr : Option (List Env)} {gd : Option (List Code)} (G : Gd w mean mg mb h₀) (st : h₀.StaysIn s.heap) (hdp : dp < recursionLimit) (hun : un + 300 < cLine)
    (l : Addr) (us : List Value) (xs : List Int) (hl : s.heap.IsList l us.toArray) (hi : IntsAre us xs) (hz : xs.length ≤ 63) :
    wpAny (model PySem.Challenge.pw_og0155_01 w) (Rm dp un fr gd) (call (.ref 164) [.ref l]) (Ok s [] (NewPen s.heap)) (fun _ _ => False) s := by
  refine' enter (binds := [(Str.ofString "script", .ref l)]) (news := []) G st (fun _ hp => nomatch hp) hdp ?ho ?hcd ?hbind ?hloc ?h ?hco ?hgen ?hk ?hcell
  k_extra "my_in"
  intro g' L' h' ⟨X', T'⟩ hg' F' N' ev Ak
  have hlg : g'.IsList l us.toArray := Heap.IsList.at hl fun o e => hg' _ o (fun q => nomatch q) e
  clear hl
  have hul := hi.length
  (try k_fold)
  k_steps
  (rename News _ _ _ _ => nE)
  (rename Fr _ _ _ _ => fE)
  refine fin_ret fE ⟨_, _, _, _, _, _, _, _, xs.take (Int.toNat 63), _, rfl, News.get nE (.head _), News.get nE (.tail _ (.tail _ (.head _))), fresh_of hg' nE (.head _), fresh_of hg' nE (.tail _ (.tail _ (.head _))), by assumption, ?_, ⟨Int.le_refl _, Int.le_refl _, Int.le_refl _, by assumption, by assumption⟩⟩
  rw [List.length_take]
  exact Nat.le_trans (Nat.min_le_left _ _) (by decide)
theorem set_Law : True := by
  k_with_none
  k_with "my_in" => ((w_top off; (case ho => k_dflt k_is); (case hcd => k_dflt k_is); (case hbind => k_dflt (first | exact BindsTo.of_eq rfl | exact binds_K (K := hd.heap_39 _) (Frag.In.keeps (Gd.X (by assumption)) (by assumption)) rfl (by k_dflt k_is) rfl rfl rfl)); (case hloc => exact locs rfl); (case hco => exact rfl); (case hgen => exact rfl); (case hk => exact rfl); (case hcell => decide)))
  k_with "my_look" => (first | with_reducible assumption | exact rfl | (refine' lk_eq ?zk2r; (case zk2r => k_extra "my_look")) | (refine' lk_ne ?zk2n ?zk2r; (case zk2n => decide); (case zk2r => k_extra "my_look")))
  k_with "eval Name" => ((k_here; (with_reducible show wpAny _ _ (eval (PySem.Expr.Name _ _) (envOf _ _ _ _ _)) _ _ _); k_dflt (refine ld (by assumption) (by k_extra "my_look") ?_)))
  k_with "eval Constant int" => ((refine c_const ?_; intro _ _))
  k_with "binaryOp Add int int" => ((refine c_add ?_; intro _ _))
  k_with "binaryOp Sub int int" => ((refine c_sub ?_; intro _ _))
  k_with "binaryOp Mult int int" => ((refine c_mul (by mul_fits) ?_; intro _ _))
  k_with "binaryOp Mod int int" => ((refine c_mod (by omega) ?_; intro _ _ _ _))
  k_with "binaryOp FloorDiv int int" => ((refine c_div (by omega) (by omega) ?_; intro _ _))
  k_with "unaryOp USub int" => ((refine c_neg ?_; intro _ _))
  k_with "binaryOp Pow int int" => ((refine c_pow (by decide) (by decide) (by decide) ?_; intro _ _))
  k_with "my_for" => ((k_dflt (refine for_go (by assumption) ?_ (by intro _; rfl) PassesOwn.never)))
  k_with "my_room" => (first | assumption | ((try dsimp only [Rm]); omega))
  k_with "exec For Name Name cons nil" => (k_extra "my_for")
  k_with "exec For Name Call cons nil" => (k_extra "my_for")
  k_with "exec For Name BinOp cons nil" => (k_extra "my_for")
  k_with "exec For Name Tuple cons nil" => (k_extra "my_for")
  k_with "exec For Tuple Name cons nil" => (k_extra "my_for")
  k_with "exec For Tuple Call cons nil" => (k_extra "my_for")
  k_with "exec For Tuple BinOp cons nil" => (k_extra "my_for")
  k_with "exec For Tuple Tuple cons nil" => (k_extra "my_for")
  k_with "exec While Compare cons nil" => ((refine stop_intro ?_))
  k_with "exec While BoolOp cons nil" => ((refine stop_intro ?_))
  k_with "my_sub" => (first | exact List.forall_mem_nil _ | (refine' List.forall_mem_cons.mpr ⟨by k_mem, ?_⟩; k_extra "my_sub") | k_extra "my_own")
  k_with "my_own" => ((intro _ _; k_extra "my_mem"))
  k_with "my_mem" => (first | assumption | (refine' List.mem_append_left _ ?_; k_extra "my_mem") | (refine' List.mem_append_right _ ?_; k_extra "my_mem") | (refine' List.Mem.tail _ ?_; k_extra "my_mem"))
  k_with "my_size" => (first | exact Nat.le_trans (by with_reducible assumption) (Nat.le_of_ble_eq_true rfl) | omega | (simp only [KBw.ints_length, List.length_append, List.length_take, List.length_drop, List.length_cons, List.length_nil, Array.size_append] at *; omega))
  k_with "my_part" => (first | exact IsPart.none | exact IsPart.int _ _)
  k_with "eval Constant bytes" => ((refine cb_const ?_; intro _ _))
  k_with "call builtin:len" => (((with_reducible show wpAny _ _ (call (Value.builtin "len") [Value.bytes _ _]) _ _ _); refine cb_len (by k_extra "my_size") ?_; intro _ _))
  k_with "binaryOp Add bytes bytes" => ((refine cb_add (by k_extra "my_size") ?_; intro _ _ _ _ _))
  k_with "compareOp Eq bytes bytes" => ((refine cb_eq ?_))
  k_with "compareOp NotEq bytes bytes" => ((refine cb_ne ?_))
  k_with "truthy bytes" => ((refine cb_truthy (by k_extra "my_size") ?_; intro _))
  k_with "binaryOp Mult bytes int" => ((refine cb_mul (by omega) (by omega) (by omega) (by omega) ?_; intro _ _ _ _))
  k_with "call type:bytes" => (((with_reducible show wpAny _ _ (call (Value.type "bytes") [Value.ref _]) _ _ _); k_dflt (refine' cb_make ?zk36F ?zk36N rfl ?zk36l ?zk36i ?zk36r ?zk36n ?_; (case zk36F => assumption); (case zk36N => assumption); (case zk36l => first | exact News.isList (by assumption) (by k_mem) | assumption); (case zk36i => k_extra "my_ints"); (case zk36r => k_extra "my_range"); (case zk36n => k_extra "my_size")); intro _ _ _ _ _ _ _ _))
  k_with "my_ints" => (first | with_reducible assumption | exact IntsAre.nil | (refine' IntsAre.cons _ _ ?zk37c; (case zk37c => k_extra "my_ints")) | (with_reducible refine' IntsAre.append (by k_extra "my_ints") (by k_extra "my_ints")) | assumption)
  k_with "my_range" => (first | with_reducible assumption | exact List.forall_mem_nil _ | ((with_reducible refine' List.forall_mem_append.mpr ⟨?_, ?_⟩) <;> k_extra "my_range") | ((refine' List.forall_mem_cons.mpr ⟨⟨?_, ?_⟩, ?_⟩) <;> (first | omega | k_extra "my_range")))
  k_with "subscriptTail" => (((with_reducible show wpAny _ _ (subscriptTail _ _ (Value.bytes _ _) (Value.int _ _)) _ _ _); k_dflt (refine cb_item (by k_extra "my_size") (by omega) (by omega) ?_); intro _ _ _ _))
  k_with "subscriptTail" => (((with_reducible show wpAny _ _ (subscriptTail _ (Expr.Slice _ _ none _) (Value.bytes _ _) (Value.ref _)) _ _ _); k_dflt (refine' cb_slice ?zk40F ?zk40N ?zk40a ?zk40b ?zk40z ?_; (case zk40F => assumption); (case zk40N => assumption); (case zk40a => k_extra "my_part"); (case zk40b => k_extra "my_part"); (case zk40z => k_extra "my_size")); intro _ _ _ _ _ _ hC _; (first | rw [cut_nn (by omega) (by omega)] at hC | rw [cut_0n (by omega)] at hC | rw [cut_neg (by omega)] at hC); (have hN := congrArg List.length hC); (simp only [KBw.ints_length, List.length_take, List.length_drop] at hN)))
  k_with "call type:list" => (((with_reducible show wpAny _ _ (call (Value.type "list") [Value.bytes _ _]) _ _ _); k_dflt (refine' cl_bytes ?zk41F ?zk41N rfl ?zk41z ?_; (case zk41F => assumption); (case zk41N => assumption); (case zk41z => k_extra "my_size")); intro _ _ _ _ _ l1 _ _ _ _; (try k_lt l1)))
  k_with "call builtin:list.extend" => (((with_reducible show wpAny _ _ (call (Value.builtin _) [Value.ref _, Value.ref _]) _ _ _); k_dflt (refine' cl_extend ?zk42F ?zk42N ?zk42U ?zk42b ?zk42z ?_; (case zk42F => assumption); (case zk42N => assumption); (case zk42U => k_updF); (case zk42b => k_mem); (case zk42z => k_extra "my_lens")); intro _ _ _ _ N'; (try dsimp only at N')))
  k_with "my_lens" => (first | exact Nat.le_trans (by with_reducible assumption) (Nat.le_of_ble_eq_true rfl) | exact Nat.le_trans (Nat.add_le_add_right (by with_reducible assumption) _) (Nat.le_of_ble_eq_true rfl) | exact Nat.le_trans (Nat.add_le_add (by with_reducible assumption) (Nat.add_le_add_right (by with_reducible assumption) _)) (Nat.le_of_ble_eq_true rfl) | exact Nat.le_trans (Nat.add_le_add_right (Nat.add_le_add (by with_reducible assumption) (by with_reducible assumption)) _) (Nat.le_of_ble_eq_true rfl) | exact Nat.le_trans (Nat.add_le_add (by with_reducible assumption) (by with_reducible assumption)) (Nat.le_of_ble_eq_true rfl) | omega | (simp only [List.flatten_replicate_singleton, List.length_replicate]; omega) | ((repeat rw [IntsAre.length (by with_reducible assumption)]); k_extra "my_size"))
  k_with "exec Raise some none" => ((exfalso; omega))
  k_with "my_isl" => (first | exact News.isList (by assumption) (by k_mem) | assumption | exact Heap.IsList.at (by with_reducible assumption) fun o e => Fr.keep (by assumption) _ o e)
  k_with "call builtin:len" => (((with_reducible show wpAny _ _ (call (Value.builtin "len") [Value.ref _]) _ _ _); k_dflt (refine' cl_len ?zk46l ?zk46z ?_; (case zk46l => k_extra "my_isl"); (case zk46z => k_extra "my_lens")); intro _ _; (try simp only [List.length_append, List.length_cons, List.length_nil])))
  k_with "binaryOp Add ref ref" => (((with_reducible show wpAny _ _ (binaryOp Operator.Add (Value.ref _) (Value.ref _)) _ _ _); k_dflt (refine' cl_add ?zk47F ?zk47N ?zk47l ?zk47b ?zk47i ?zk47j ?zk47z ?_; (case zk47F => assumption); (case zk47N => assumption); (case zk47l => k_extra "my_isl"); (case zk47b => k_extra "my_isl"); (case zk47i => k_extra "my_ints"); (case zk47j => k_extra "my_ints"); (case zk47z => k_extra "my_lens")); intro _ _ _ _ _ l1 _ _ _ _; (try k_lt l1)))
  k_with "call builtin:list.append" => (((with_reducible show wpAny _ _ (call (Value.builtin _) [Value.ref _, _]) _ _ _); k_dflt (refine' cl_append ?zk48F ?zk48N ?zk48U ?zk48z ?_; (case zk48F => assumption); (case zk48N => assumption); (case zk48U => k_updF); (case zk48z => k_extra "my_lens")); intro _ _ _ N'; (try dsimp only at N')))
  k_with "subscriptTail Name Slice ref ref" => (((with_reducible show wpAny _ _ (subscriptTail _ (Expr.Slice none (some _) none _) (Value.ref _) (Value.ref _)) _ _ _); k_dflt (refine' cl_upto ?zk49F ?zk49N ?zk49l ?zk49i ?zk49a ?zk49z ?_; (case zk49F => assumption); (case zk49N => assumption); (case zk49l => k_extra "my_isl"); (case zk49i => k_extra "my_ints"); (case zk49a => omega); (case zk49z => k_extra "my_lens")); intro _ _ _ _ _ l1 _ _ _ _; (try k_lt l1)))
  k_with "execs cons" => ((k_here; first | k_fold | (k_made; walk_at "execs cons") | k_gentoks | (with_reducible refine execs_one ?_) | ((with_reducible refine wpAny_execs_cons ?_); (try dsimp only); k_fold)))
  k_with "spliced" => ((k_here; first | (refine args_last ?_; (try dsimp only [List.cons_append, List.nil_append])) | refine args_cons ?_ | (refine args_nil ?_; (try dsimp only [List.cons_append, List.nil_append]))))
  k_with "storeName" => ((k_here; k_dflt (refine' storeM ?zk52F ?zk52N ?_ ?zk52a ?zk52b; (case zk52F => k_asm); (case zk52N => k_asm); (case zk52a => rfl); (case zk52b => rfl); k_whole; intro _ _ _ _; (try k_sweep))))
  k_with "my_room" => (first | assumption | exact Nat.le_of_ble_eq_true rfl)
  k_with "call ref" => (((with_reducible show wpAny _ _ (call (Value.ref 164) _) _ _ _); k_dflt (refine' use_newpen ?zk82F ?zk82N (pen_ok ?zk82G ?zk82st ?zk82d ?zk82u _ _ _ ?zk82l ?zk82i ?zk82z) ?_; (case zk82F => assumption); (case zk82N => assumption); (case zk82G => assumption); (case zk82st => exact Fr.keep (by assumption)); (case zk82d => k_extra "my_room"); (case zk82u => k_extra "my_room"); (case zk82l => k_extra "my_isl"); (case zk82i => assumption); (case zk82z => k_extra "my_z")); intro _ _ _ _ _ _ _ _ _ _ _ _ _ _ _ _ _ _))
  k_with "call ref" => (((with_reducible show wpAny _ _ (call (Value.ref 157) _) _ _ _); k_dflt (refine' use_draw2 ?zk83G ?zk83F ?zk83N ?zk83U ?zk83m ?zk83B ?zk83i ?zk83l ?zk83d ?zk83n ?zk83a ?zk83b ?_; (case zk83G => assumption); (case zk83F => assumption); (case zk83N => assumption); (case zk83U => k_updF); (case zk83m => k_mem); (case zk83B => assumption); (case zk83i => assumption); (case zk83l => assumption); (case zk83d => k_extra "my_room"); (case zk83n => omega); (case zk83a => omega); (case zk83b => omega)); intro _ _ _ _ _ _ _ _ _ _ _ _ _ _ _ N'; (try dsimp only at N')))
  k_with "call ref" => (((with_reducible show wpAny _ _ (call (Value.ref 171) _) _ _ _); k_dflt (refine' use_octets ?zk84G ?zk84F ?zk84N ?zk84U ?zk84m ?zk84B ?zk84i ?zk84l ?zk84d ?zk84n ?zk84a ?zk84b ?_; (case zk84G => assumption); (case zk84F => assumption); (case zk84N => assumption); (case zk84U => k_updF); (case zk84m => k_mem); (case zk84B => assumption); (case zk84i => assumption); (case zk84l => assumption); (case zk84d => k_extra "my_room"); (case zk84n => omega); (case zk84a => omega); (case zk84b => omega)); intro _ _ _ _ _ _ _ _ _ _ _ _ _ _ N'; (try dsimp only at N')))
  k_with "call ref" => (((with_reducible show wpAny _ _ (call (Value.ref 178) _) _ _ _); k_dflt (refine' use_runs ?zk85G ?zk85F ?zk85N ?zk85U ?zk85m ?zk85B ?zk85i ?zk85l ?zk85d ?zk85n ?zk85z ?_; (case zk85G => assumption); (case zk85F => assumption); (case zk85N => assumption); (case zk85U => k_updF); (case zk85m => k_mem); (case zk85B => assumption); (case zk85i => assumption); (case zk85l => assumption); (case zk85d => k_extra "my_room"); (case zk85n => omega); (case zk85z => k_extra "my_z")); intro _ _ _ _ _ _ _ _ _ _ _ _ _ _ _ N'; (try dsimp only at N')))
  k_with "call ref" => (((with_reducible show wpAny _ _ (call (Value.ref 136) _) _ _ _); k_dflt (refine' use_pure ?zk86F ?zk86N (run_encoded_ok ?zk86G ?zk86st ?zk86d ?zk86u _ _ ?zk86z) ?_; (case zk86F => assumption); (case zk86N => assumption); (case zk86G => assumption); (case zk86st => exact Fr.keep (by assumption)); (case zk86d => k_extra "my_room"); (case zk86u => k_extra "my_room"); (case zk86z => k_extra "my_z")); intro _ _ _ hp9 _ _; obtain ⟨b9, t9, e9, q1, q2, q3, q4⟩ := hp9; subst q1))
  k_with "my_dec" => (first | exact dec_of (by with_reducible assumption) (by with_reducible assumption) (by with_reducible assumption) (by with_reducible assumption) (by with_reducible assumption) | exact dec_end (by with_reducible assumption) (by with_reducible assumption) rfl (by with_reducible assumption))
  k_with "my_two" => (first | exact two_in _ _ | exact fun n hn => KBw.ints_in hn)
  k_with "my_len2" => (first | exact len_two (by with_reducible assumption) (by with_reducible assumption) | exact len_one (by with_reducible assumption) | exact Nat.le_trans (len_two (by with_reducible assumption) (by with_reducible assumption)) (by decide) | exact Nat.le_trans (len_one (by with_reducible assumption)) (by decide))
  k_with "my_z" => (first | with_reducible assumption | exact Nat.le_trans (by with_reducible assumption) (by decide) | omega)
  k_with "my_bd" => (first | with_reducible assumption | exact Nat.le_refl _)
  k_with "subscriptTail" => (((with_reducible show wpAny _ _ (subscriptTail _ (Expr.Slice _ _ none _) (Value.bytes _ _) (Value.ref _)) _ _ _); k_dflt (refine' cb_slice ?zk92F ?zk92N ?zk92a ?zk92b ?zk92z ?_; (case zk92F => assumption); (case zk92N => assumption); (case zk92a => k_extra "my_part"); (case zk92b => k_extra "my_part"); (case zk92z => k_extra "my_z")); intro _ _ _ _ _ _ hC hS; (replace hS := Nat.le_trans hS (by with_reducible assumption)); (first | rw [cut_0n (by omega)] at hC | rw [cut_neg (by decide)] at hC); (have hN := congrArg List.length hC); (simp only [KBw.ints_length, List.length_take, List.length_drop] at hN)))
  k_with "call ref" => (((with_reducible show wpAny _ _ (call (Value.ref 150) _) _ _ _); (try k_fold); k_dflt (refine' use_pure ?zk93F ?zk93N (run_decoded_ok ?zk93G ?zk93st ?zk93d _ _ ?zk93z _ ?zk93ho ?zk93hl ?zk93dd) ?_; (case zk93F => assumption); (case zk93N => assumption); (case zk93G => assumption); (case zk93st => exact Fr.keep (by assumption)); (case zk93d => k_extra "my_room"); (case zk93dd => k_extra "my_dec"); (case zk93z => k_extra "my_z"); (case zk93ho => k_extra "my_two"); (case zk93hl => k_extra "my_len2")); intro _ _ _ hp9 _ _; obtain ⟨b9, t9, q1, q2⟩ := hp9; subst q1))
  k_with "call ref" => (((with_reducible show wpAny _ _ (call (Value.ref 77) _) _ _ _); (try k_fold); k_dflt (refine' use_pure ?zk94F ?zk94N (hex_encoded_ok ?zk94G ?zk94st ?zk94d ?zk94u _ _ ?zk94z _ _ ?zk94w0 ?zk94w1) ?_; (case zk94F => assumption); (case zk94N => assumption); (case zk94G => assumption); (case zk94st => exact Fr.keep (by assumption)); (case zk94d => k_extra "my_room"); (case zk94u => k_extra "my_room"); (case zk94z => k_extra "my_z"); (case zk94w0 => omega); (case zk94w1 => omega)); intro _ _ _ hp9 _ _; obtain ⟨b9, t9, e9, q1, q2, q3, q4⟩ := hp9; subst q1))
  k_with "my_hex" => (first | (refine' ⟨_, _, _, hex_both ?zk95a ?zk95b ?zk95c ?zk95d, ?zk95e⟩) | skip)
  k_with "call ref" => (((with_reducible show wpAny _ _ (call (Value.ref 89) _) _ _ _); (try k_fold); k_dflt (first | (refine' use_pure ?zk96F ?zk96N (hex_decoded_ok ?zk96G ?zk96st ?zk96d ?zk96u _ _ ?zk96z _ _ _ (hex_both (by with_reducible assumption) (by with_reducible assumption) (by with_reducible assumption) (by with_reducible assumption)) (hexst_both (by with_reducible assumption) (by with_reducible assumption)) ?zk96ho ?zk96hl) ?_; (case zk96F => assumption); (case zk96N => assumption); (case zk96G => assumption); (case zk96st => exact Fr.keep (by assumption)); (case zk96d => k_extra "my_room"); (case zk96u => k_extra "my_room"); (case zk96z => k_extra "my_z"); (case zk96ho => k_extra "my_two"); (case zk96hl => k_extra "my_len2")) | (refine' use_pure ?zk96F ?zk96N (hex_decoded_ok ?zk96G ?zk96st ?zk96d ?zk96u _ _ ?zk96z _ _ _ (hex_first (by with_reducible assumption) (by with_reducible assumption)) (by with_reducible assumption) ?zk96ho ?zk96hl) ?_; (case zk96F => assumption); (case zk96N => assumption); (case zk96G => assumption); (case zk96st => exact Fr.keep (by assumption)); (case zk96d => k_extra "my_room"); (case zk96u => k_extra "my_room"); (case zk96z => k_extra "my_z"); (case zk96ho => k_extra "my_two"); (case zk96hl => k_extra "my_len2"))); intro _ _ _ hp9 _ _; obtain ⟨b9, t9, q1, q2⟩ := hp9; subst q1))
  k_with "call ref" => (((with_reducible show wpAny _ _ (call (Value.ref 101) _) _ _ _); (try k_fold); k_dflt (refine' use_pure ?zk97F ?zk97N (enc85_ok ?zk97G ?zk97st ?zk97d ?zk97u _ _ ?zk97z) ?_; (case zk97F => assumption); (case zk97N => assumption); (case zk97G => assumption); (case zk97st => exact Fr.keep (by assumption)); (case zk97d => k_extra "my_room"); (case zk97u => k_extra "my_room"); (case zk97z => k_extra "my_z")); intro _ _ _ hp9 _ _; obtain ⟨b9, t9, e9, q1, q2, q3, q4, q5⟩ := hp9; subst q1))
  k_with "call ref" => (((with_reducible show wpAny _ _ (call (Value.ref 122) _) _ _ _); (try k_fold); k_dflt (first | (refine' use_pure ?zk98F ?zk98N (dec85_ok ?zk98G ?zk98st ?zk98d ?zk98u _ _ ?zk98z _ _ _ (b85_both (by with_reducible assumption) (by with_reducible assumption) (by with_reducible assumption) (by with_reducible assumption)) (full_e85 (by with_reducible assumption) (whole_mod (by with_reducible assumption)) (by with_reducible assumption)) ?zk98ho ?zk98hl) ?_; (case zk98F => assumption); (case zk98N => assumption); (case zk98G => assumption); (case zk98st => exact Fr.keep (by assumption)); (case zk98d => k_extra "my_room"); (case zk98u => k_extra "my_room"); (case zk98z => k_extra "my_z"); (case zk98ho => k_extra "my_two"); (case zk98hl => k_extra "my_len2")) | (refine' use_pure ?zk98F ?zk98N (dec85_ok ?zk98G ?zk98st ?zk98d ?zk98u _ _ ?zk98z _ _ _ (b85_first (by with_reducible assumption) (by with_reducible assumption)) (by with_reducible assumption) ?zk98ho ?zk98hl) ?_; (case zk98F => assumption); (case zk98N => assumption); (case zk98G => assumption); (case zk98st => exact Fr.keep (by assumption)); (case zk98d => k_extra "my_room"); (case zk98u => k_extra "my_room"); (case zk98z => k_extra "my_z"); (case zk98ho => k_extra "my_two"); (case zk98hl => k_extra "my_len2"))); intro _ _ _ hp9 _ _; obtain ⟨b9, t9, q1, q2⟩ := hp9; subst q1))
  k_with "my_same" => (first | with_reducible assumption | exact Eq.trans (by with_reducible assumption) (Eq.symm (by with_reducible assumption)))
  k_with "compareOp NotEq bytes bytes" => ((refine' cb_ne_f ?zk100e ?_; (case zk100e => k_extra "my_same")))
  k_with "compareOp Eq bytes bytes" => ((refine' cb_eq_t ?zk101e ?_; (case zk101e => k_extra "my_same")))
  k_with "binaryOp Add bytes bytes" => ((refine cb_addB (by k_extra "my_bd") (by k_extra "my_bd") (by decide) ?_; intro _ _ _ _ _))
  trivial
theorem use_newpen {M : Model} {A : Around} {t : Sem Value} {s : Shared} {Q E : Value → Shared → Prop} {g : Heap} {L : Addr} {m : Str → Option Value}
    (F : Fr g L s.heap m) (N : News g L s.heap []) (H : wpAny M A t (Ok s [] (NewPen s.heap)) (fun _ _ => False) s)
    (h : ∀ pen cells sa t1 t2 t3 c vs ns c2 h' tk', @Ne Nat pen cells → IntsAre vs ns → ns.length ≤ 63 → PenIn 0 0 0 sa → Fr g L h' m → News g L h' [(pen, penObj cells 0 0 sa t1 t2 t3 c), (cells, listOf vs.toArray c2)] → Q (.ref pen) { s with heap := h', toks := tk' }) : wpAny M A t Q E s :=
  use_pure F N H fun r h' tk' p F' N' => by
    obtain ⟨pen, cells, sa, t1, t2, t3, c, vs, ns, c2, rfl, h1, h2, h3, h4, h5, h6, h7⟩ := p
    have nL : ∀ a : Addr, s.heap.get? a = none → a ≠ L ∧ g.get? a = none := fun a ha => by
      refine ⟨fun e => ?_, ?_⟩
      · obtain ⟨oL, _, _, hL, _⟩ := F.ns
        rw [e, hL] at ha
        cases ha
      · cases e : g.get? a with
        | none => rfl
        | some o => rw [F.keep _ _ e] at ha; cases ha
    refine h pen cells sa t1 t2 t3 c vs ns c2 h' tk' (fun e => ?_) h5 h6 h7 F' fun p hp => ?_
    · have e' : pen = cells := e
      rw [e', h2] at h1
      cases h5 with
      | nil => cases h1
      | cons _ _ _ => cases h1
    · rcases List.mem_cons.mp hp with rfl | hp
      · exact ⟨h1, nL _ h3⟩
      · rw [List.mem_singleton.mp hp]; exact ⟨h2, nL _ h4⟩
section
variable {w : World} {mean : ExcName → Option Value} {mg mb : Str → Option Value} {g : Heap} {s : Shared} {dp un : Nat} {fr : Option (List Env)} {gd : Option (List Code)} {L : Addr} {m : Str → Option Value} {news : List (Addr × Obj)} {u : Obj → List (Addr × Obj)} {pen cells : Addr} {n c c2 : Nat} {spot great salt : Int} {t1 t2 t3 : Tok} {vs : List Value} {ns : List Int} {Q E : Value → Shared → Prop}
theorem use_pen {P : Value → Prop} {M : Model} {A : Around} {t : Sem Value} {n' : Nat} (F : Fr g L s.heap m) (N : News g L s.heap news) (U : UpdF pen (penObj cells spot great salt t1 t2 t3 c) news u)
    (H : wpAny M A t (Ok s [pen] (fun r h' => P r ∧ PenOk h' pen cells n')) (fun _ _ => False) s)
    (h : ∀ r h' tk' sp gr sa v1 v2 v3 c', P r → PenIn n' sp gr sa → Fr g L h' m → News g L h' (u (penObj cells sp gr sa v1 v2 v3 c')) → Q r { s with heap := h', toks := tk' }) : wpAny M A t Q E s := by
  have hpn := N _ (updF_ins U)
  refine use_ok H ?_
  rintro r h' tk' k ⟨p, sp, gr, sa, v1, v2, v3, c', ho, B'⟩
  exact h r h' tk' _ _ _ _ _ _ _ p B' (fr_kx F k (fun q => hpn.2.1 (List.mem_singleton.mp q).symm) fun a q => by rw [List.mem_singleton.mp q]; exact hpn.2.2) (news_updF N U k ho)
theorem use_draw2 {many : Int} {t : Tok} (G : Gd w mean mg mb g) (F : Fr g L s.heap m) (N : News g L s.heap news) (U : UpdF pen (penObj cells spot great salt t1 t2 t3 c) news u) (hcm : (cells, listOf vs.toArray c2) ∈ news) (B : PenIn n spot great salt) (hi : IntsAre vs ns) (hlen : ns.length ≤ 63)
    (hdp : dp < recursionLimit) (hn : n < 1000) (hm : 1 ≤ many) (hm2 : many ≤ 256)
    (h : ∀ k t h' tk' sp gr sa v1 v2 v3 c', 0 ≤ k → k < many → PenIn (n + 1) sp gr sa → Fr g L h' m → News g L h' (u (penObj cells sp gr sa v1 v2 v3 c')) → Q (.int k t) { s with heap := h', toks := tk' }) :
    wpAny (model PySem.Challenge.pw_og0155_01 w) (Rm dp un fr gd) (call (.ref 157) [.ref pen, .int many t]) Q E s := by
  have hpn := N _ (updF_ins U)
  refine use_pen F N U (draw_ok G F.keep hdp pen cells n hn ⟨_, _, _, _, _, _, _, hpn.1, B⟩ hpn.2.2 vs ns (N.isList hcm) hi hlen many t hm hm2) ?_
  rintro r h' tk' sp gr sa v1 v2 v3 c' ⟨k, t', rfl, a, b⟩ B' F' N'
  exact h k t' h' tk' _ _ _ _ _ _ _ a b B' F' N'
theorem use_octets {most : Int} {t : Tok} (G : Gd w mean mg mb g) (F : Fr g L s.heap m) (N : News g L s.heap news) (U : UpdF pen (penObj cells spot great salt t1 t2 t3 c) news u) (hcm : (cells, listOf vs.toArray c2) ∈ news) (B : PenIn n spot great salt) (hi : IntsAre vs ns) (hlen : ns.length ≤ 63)
    (hdp : dp + 1 < recursionLimit) (hn : n + 40 < 1000) (hm : 0 ≤ most) (hm2 : most ≤ 16)
    (h : ∀ b t h' tk' sp gr sa v1 v2 v3 c', b.size ≤ 16 → PenIn (n + 33) sp gr sa → Fr g L h' m → News g L h' (u (penObj cells sp gr sa v1 v2 v3 c')) → Q (.bytes b t) { s with heap := h', toks := tk' }) :
    wpAny (model PySem.Challenge.pw_og0155_01 w) (Rm dp un fr gd) (call (.ref 171) [.ref pen, .int most t]) Q E s := by
  have hpn := N _ (updF_ins U)
  refine use_pen F N U (octets_ok G F.keep hdp pen cells n hn ⟨_, _, _, _, _, _, _, hpn.1, B⟩ hpn.2.2 vs ns (N.isList hcm) hi hlen most t hm hm2) ?_
  rintro r h' tk' sp gr sa v1 v2 v3 c' ⟨b, t', rfl, a⟩ B' F' N'
  exact h b t' h' tk' _ _ _ _ _ _ _ a B' F' N'
theorem use_runs {oc : Array UInt8} {t : Tok} (G : Gd w mean mg mb g) (F : Fr g L s.heap m) (N : News g L s.heap news) (U : UpdF pen (penObj cells spot great salt t1 t2 t3 c) news u) (hcm : (cells, listOf vs.toArray c2) ∈ news) (B : PenIn n spot great salt) (hi : IntsAre vs ns) (hlen : ns.length ≤ 63)
    (hdp : dp + 1 < recursionLimit) (hn : n + 40 < 1000) (hz : oc.size ≤ 16)
    (h : ∀ b t h' tk' sp gr sa v1 v2 v3 c', b.size ≤ 40 → Blocks (KBw.bInts b) (KBw.bInts oc) → PenIn (n + 40) sp gr sa → Fr g L h' m → News g L h' (u (penObj cells sp gr sa v1 v2 v3 c')) → Q (.bytes b t) { s with heap := h', toks := tk' }) :
    wpAny (model PySem.Challenge.pw_og0155_01 w) (Rm dp un fr gd) (call (.ref 178) [.ref pen, .bytes oc t]) Q E s := by
  have hpn := N _ (updF_ins U)
  refine use_pen F N U (runs_ok G F.keep hdp pen cells n hn ⟨_, _, _, _, _, _, _, hpn.1, B⟩ hpn.2.2 vs ns (N.isList hcm) hi hlen oc t hz) ?_
  rintro r h' tk' sp gr sa v1 v2 v3 c' ⟨b, t', rfl, a, a2⟩ B' F' N'
  exact h b t' h' tk' _ _ _ _ _ _ _ a a2 B' F' N'
end
theorem dec_of {x y f s e : Array UInt8} {o1 o2 : List Int} (hA : KBw.bInts x = KBw.bInts y ++ KBw.bInts e) (hB : KBw.bInts y = KBw.bInts f ++ KBw.bInts s) (h1 : Blocks (KBw.bInts f) o1) (h2 : Blocks (KBw.bInts s) o2) (h3 : Dec (KBw.bInts e) []) : Dec (KBw.bInts x) (o1 ++ o2) := by
  rw [hA, hB, List.append_assoc]
  have := h1.dec (h2.dec h3)
  rwa [List.append_nil] at this
theorem dec_end {x y f e c : Array UInt8} {o1 : List Int} (hA : KBw.bInts x = KBw.bInts y ++ KBw.bInts e) (hB : KBw.bInts y = KBw.bInts f ++ KBw.bInts c) (hc : KBw.bInts c = [128]) (h1 : Blocks (KBw.bInts f) o1) : Dec (KBw.bInts x) o1 := by
  rw [hA, hB, hc, List.append_assoc]
  have := h1.dec (Dec.stop (KBw.bInts e))
  rwa [List.append_nil] at this
theorem take_end {e r : List Int} {k : Nat} (hk : r.length = k) : (e ++ r).take ((e ++ r).length - k) = e := by
  rw [List.length_append, hk, Nat.add_sub_cancel, List.take_left]
theorem hex_both {x f fc s : Array UInt8} {e1 e2 : List Int} (hA : KBw.bInts x = KBw.bInts fc ++ KBw.bInts s) (hC : KBw.bInts fc = (KBw.bInts f).take ((KBw.bInts f).length - Int.natAbs (-1))) (hf : KBw.bInts f = e1 ++ [62]) (hs : KBw.bInts s = e2 ++ [62]) : KBw.bInts x = (e1 ++ e2) ++ 62 :: [] := by
  rw [hA, hC, hf, hs, take_end (r := [62]) (k := Int.natAbs (-1)) rfl, List.append_assoc]
theorem hex_first {x f s : Array UInt8} {e1 : List Int} (hA : KBw.bInts x = KBw.bInts f ++ KBw.bInts s) (hf : KBw.bInts f = e1 ++ [62]) : KBw.bInts x = e1 ++ 62 :: KBw.bInts s := by
  rw [hA, hf, List.append_assoc]; rfl
theorem b85_both {x f fc s : Array UInt8} {e1 e2 : List Int} (hA : KBw.bInts x = KBw.bInts fc ++ KBw.bInts s) (hC : KBw.bInts fc = (KBw.bInts f).take ((KBw.bInts f).length - Int.natAbs (-2))) (hf : KBw.bInts f = e1 ++ [126, 62]) (hs : KBw.bInts s = e2 ++ [126, 62]) : KBw.bInts x = (e1 ++ e2) ++ 126 :: 62 :: [] := by
  rw [hA, hC, hf, hs, take_end (r := [126, 62]) (k := Int.natAbs (-2)) rfl, List.append_assoc]
theorem b85_first {x f s : Array UInt8} {e1 : List Int} (hA : KBw.bInts x = KBw.bInts f ++ KBw.bInts s) (hf : KBw.bInts f = e1 ++ [126, 62]) : KBw.bInts x = e1 ++ 126 :: 62 :: KBw.bInts s := by
  rw [hA, hf, List.append_assoc]; rfl
theorem Full.e85 {e1 o1 e2 o2 : List Int} (h : Full e1 o1) (h2 : E85 e2 o2) : E85 (e1 ++ e2) (o1 ++ o2) := by
  obtain ⟨a, b, c, d, rfl, rfl, hF, hr⟩ := h2
  exact ⟨e1 ++ a, o1 ++ b, c, d, by simp, by simp, h.append hF, hr⟩
theorem two_in (a b : Array UInt8) : ∀ n ∈ KBw.bInts a ++ KBw.bInts b, 0 ≤ n ∧ n < 256 := fun n hn => (List.mem_append.mp hn).elim (fun q => KBw.ints_in q) fun q => KBw.ints_in q
section
variable {prog : Program} {w : World} {A : Around} {E : Value → Shared → Prop} {Q : Value → Shared → Prop} {s : Shared} {b c : Array UInt8} {t u : Tok}
theorem cb_ne_f (e : KBw.bInts b = KBw.bInts c) (hq : Q (.bool false) s) : wpAny (model prog w) A (compareOp .NotEq (.bytes b t) (.bytes c u)) Q E s := by
  obtain ⟨h, gs, d, k, o⟩ := s
  exact cb_ne (by rw [decide_eq_true e]; exact hq)
theorem cb_eq_t (e : KBw.bInts b = KBw.bInts c) (hq : Q (.bool true) s) : wpAny (model prog w) A (compareOp .Eq (.bytes b t) (.bytes c u)) Q E s := by
  obtain ⟨h, gs, d, k, o⟩ := s
  exact cb_eq (by rw [decide_eq_true e]; exact hq)
end
theorem hexst_both {e1 e2 o1 o2 : List Int} (h : HexSt e1 (nibs o1)) (h2 : HexSt e2 (nibs o2)) : HexSt (e1 ++ e2) (nibs (o1 ++ o2)) := by
  rw [nibs_append]; exact h.append h2
theorem full_e85 {e1 o1 e2 o2 : List Int} {n : Nat} (h : n % 4 = 0 → Full e1 o1) (hn : n % 4 = 0) (h2 : E85 e2 o2) : E85 (e1 ++ e2) (o1 ++ o2) := (h hn).e85 h2
theorem cb_addB {prog : Program} {w : World} {A : Around} {E : Value → Shared → Prop} {Q : Value → Shared → Prop} {h : Heap} {gs : Array GenState} {d : Drawn} {k : Nat} {o : OsState} {b c : Array UInt8} {t u : Tok} {B C : Nat} (h1 : b.size ≤ B) (h2 : c.size ≤ C) (hk : B + C ≤ 1000)
    (hq : ∀ b' t k', KBw.bInts b' = KBw.bInts b ++ KBw.bInts c → b'.size ≤ B + C → Q (.bytes b' t) ⟨h, gs, d, k', o⟩) : wpAny (model prog w) A (binaryOp .Add (.bytes b t) (.bytes c u)) Q E ⟨h, gs, d, k, o⟩ :=
  cb_add (Nat.le_trans (Nat.add_le_add h1 h2) (Nat.le_trans hk (by decide))) fun b' t k' e s => hq b' t k' e (Nat.le_trans (Nat.le_of_eq s) (Nat.add_le_add h1 h2))
theorem len_one {a : Array UInt8} (h : a.size ≤ 16) : (KBw.bInts a).length ≤ 100 := Nat.le_trans (Nat.le_of_eq (KBw.ints_length a)) (Nat.le_trans h (by decide))
theorem len_two {a b : Array UInt8} (h : a.size ≤ 16) (h2 : b.size ≤ 16) : (KBw.bInts a ++ KBw.bInts b).length ≤ 100 := by
  rw [List.length_append, KBw.ints_length, KBw.ints_length]
  exact Nat.le_trans (Nat.add_le_add h h2) (by decide)
theorem whole_mod {n m : Nat} (h : n = min ((m : Int) / 4 * 4).toNat m) : n % 4 = 0 := by
  have e : ((m : Int) / 4 * 4).toNat = m / 4 * 4 := by omega
  have e2 := Nat.div_mul_le_self m 4
  rw [e, Nat.min_eq_left e2] at h
  rw [h]; exact Nat.mul_mod_left _ _
structure LJ (one oth beh : Array UInt8) (tone toth tbeh : Tok) (pen ls : Addr) (m : Str → Option Value) : Prop where
  k1 : m (Str.ofString "one") = some (.bytes one tone)
  k2 : m (Str.ofString "other") = some (.bytes oth toth)
  k3 : m (Str.ofString "pen") = some (.ref pen)
  k4 : m (Str.ofString "theirs") = some (.ref ls)
  k5 : m (Str.ofString "behind") = some (.bytes beh tbeh)
structure LJ2 (one oth beh : Array UInt8) (tone toth tbeh : Tok) (pen ls : Addr) (f : Array UInt8) (tf : Tok) (m : Str → Option Value) : Prop extends LJ one oth beh tone toth tbeh pen ls m where
  k6 : m (Str.ofString "first") = some (.bytes f tf)
structure LJ3 (one oth beh : Array UInt8) (tone toth tbeh : Tok) (pen ls : Addr) (f : Array UInt8) (tf : Tok) (g : Array UInt8) (tg : Tok) (m : Str → Option Value) : Prop extends LJ2 one oth beh tone toth tbeh pen ls f tf m where
  k7 : m (Str.ofString "second") = some (.bytes g tg)
/-- codes of runs of octets -/
def RunsOf (oc : Array UInt8) (v : Value) : Prop := ∃ b t, v = .bytes b t ∧ b.size ≤ 40 ∧ Blocks (KBw.bInts b) (KBw.bInts oc)
theorem runs_cut {m ew oc : Array UInt8} {e : List Int} (hC : KBw.bInts m = (KBw.bInts ew).take ((KBw.bInts ew).length - Int.natAbs (-1))) (he : KBw.bInts ew = e ++ [128]) (hb : Blocks e (KBw.bInts oc)) : Blocks (KBw.bInts m) (KBw.bInts oc) := by
  rw [hC, he, take_end (r := [128]) (k := Int.natAbs (-1)) rfl]; exact hb
theorem runs_two {oc m0 m1 : Array UInt8} {t0 t1 : Tok} (h0 : m0.size ≤ 40) (h1 : m1.size ≤ 40) (b0 : Blocks (KBw.bInts m0) (KBw.bInts oc)) (b1 : Blocks (KBw.bInts m1) (KBw.bInts oc)) {j : Nat} {v : Value} (hv : [Value.bytes m0 t0, Value.bytes m1 t1][j]? = some v) : RunsOf oc v := by
  match j with
  | 0 => cases hv; exact ⟨_, _, rfl, h0, b0⟩
  | 1 => cases hv; exact ⟨_, _, rfl, h1, b1⟩
  | n + 2 => cases hv
/-- what may stand at the end -/
def EndOf (v : Value) : Prop := ∃ b t, v = .bytes b t ∧ b.size ≤ 20 ∧ Dec (KBw.bInts b) []
theorem end_four {e beh : Array UInt8} {t0 t1 t2 t3 : Tok} (hA : KBw.bInts e = KBw.bInts [128].toArray ++ KBw.bInts beh) (hz : e.size ≤ 20) {j : Nat} {v : Value} (hv : [Value.bytes [].toArray t0, Value.bytes [128].toArray t1, Value.bytes e t2, Value.bytes [128, 128].toArray t3][j]? = some v) : EndOf v := by
  match j with
  | 0 => cases hv; exact ⟨_, _, rfl, by decide, Dec.nil⟩
  | 1 => cases hv; exact ⟨_, _, rfl, by decide, Dec.stop _⟩
  | 2 => cases hv; exact ⟨_, _, rfl, hz, by rw [hA]; exact Dec.stop _⟩
  | 3 => cases hv; exact ⟨_, _, rfl, by decide, Dec.stop _⟩
  | n + 4 => cases hv
/-- the law has said True -/
def LFin (g : Heap) (L : Addr) (s : Shared) (fl : Flow) (s' : Shared) : Prop := ∃ h' tk' m', s' = { s with heap := h', toks := tk' } ∧ Fr g L h' m' ∧ fl = .ret (.bool true)
set_option maxHeartbeats 8000000 in
theorem law_holds : PySem.Challenge.rw_og0155_01.Holds := hd (by
  w_top off
  k_go0
  (all_goals try k_fold)
  rename_i w s₀ s₁ mg mb _ _ _ _ _ _ _ _ _ KX _ _ _ T _ _ _ _ _ _ _ _ hcd xs hs hlay0 hL1 hr1 hl2 _ _ sl us _ hL ra w1 r0 hI hr hcond _ K0 hD h1 F1 N1
  have hxl : xs.length ≤ 63 := by omega
  have G' : Gd w (ExcName.means s₀.heap) mg mb s₁.heap := ⟨KX, T⟩
  clear hcd hD
  dsimp only
  refine wpAny_mono (Q := LFin s₁.heap s₁.heap.objs.size s₁) (E := fun _ _ => False) ?walk ?fin (fun _ _ x => x.elim)
  case fin =>
    rintro fl s' ⟨h', tk', m', rfl, F', rfl⟩
    dsimp only
    dsimp only at F1
    k_steps
  case walk =>
    change wpAny (model PySem.Challenge.pw_og0155_01 w) _ _ _ _ _
    clear hs hlay0 hL1 hr1 hl2 ra w1 r0 hr hcond K0
    have X' := G'.X
    have T' := G'.T
    clear KX T
    rename_i G0 Y0 fa o pm doc kV ho hg _ _ _ B0 TE0 TW0 _ _ M0 _ _ _ _ _ _
    clear G0 Y0 TE0 TW0 M0
    dsimp only at F1
    k_steps
    unfold Stop
    rename_i pen cells sa v1 v2 v3 c1 vs ns c2 _ _ hnec his hls B1 _ _ _ _ _ _ _ _ _ one tone _ _ _ _ _ _ _ _ _ hzo B2 _ _ oth toth _ _ _ _ _ _ _ _ _ hzt B3 D _ lD _ _ _ _ _ _ _ _ m0 tm0 _ _ _ _ _ _ _ _ _ hzm0 hbm0 B4 _ _ ew tew ew1 hew bew hzew _ _ _ _ m1 tm1 _ _ hCm hSm hNm lm _ llm _ _ _ _ _ s0 ts0 _ _ _ _ _ _ _ _ _ hzs0 hbs0 B5 _ _ _ _ _ _ n1 tn1 _ _ ls _ lls _ _ _ _ _ _ _ beh tbeh _ _ sp gr sa2 w1 w2 w3 c3 hzb B6 hh _ F1 N1
    have hbm1 := runs_cut hCm hew bew
    have hbn1 := runs_cut hC q2 q3
    have hzm1 : m1.size ≤ 40 := hSm
    have hzn1 : n1.size ≤ 40 := hS
    clear hCm hew bew hC q2 q3 hSm hS hNm hN hzew q4 B1 B2 B3 B4 B5
    refine ro_list (l := lm) (vs := [Value.bytes m0 tm0, Value.bytes m1 tm1]) rfl (News.isList N1 (by k_mem)) (N1 _ (.tail _ (.head _))).2.1 F1 N1
      (fun _ => LJ one oth beh tone toth tbeh pen ls)
      ⟨by k_extra "my_look", by k_extra "my_look", by k_extra "my_look", by k_extra "my_look", by k_extra "my_look"⟩ ?turn ?done
    case turn =>
      rintro i v n2 h2 tk2 own2 hv ⟨k1, k2, k3, k4, k5⟩ F2 N2
      obtain ⟨f, tf, rfl, hfz, hfb⟩ := runs_two hzm0 hzm1 hbm0 hbm1 hv
      have F3 : Fr s₁.heap s₁.heap.objs.size h2 n2 := F2
      have N3 : News s₁.heap s₁.heap.objs.size h2 ((ls, listOf #[Value.bytes s0 ts0, Value.bytes n1 tn1] 0) :: (lm, listOf #[Value.bytes m0 tm0, Value.bytes m1 tm1] 0) :: (D, { cls := Value.type "tuple", data := Data.seq #[Value.bytes one tone, Value.bytes oth toth] }) :: (pen, penObj cells sp gr sa2 w1 w2 w3 c3) :: (cells, listOf vs.toArray c2) :: own2) := N2
      clear F1 N1 F2 N2 hv
      (try k_fold)
      k_steps
      unfold Stop
      (rename Fr _ _ _ _ => F4)
      (rename News _ _ _ _ => N4)
      refine ro_list (l := ls) (vs := [Value.bytes s0 ts0, Value.bytes n1 tn1]) rfl (News.isList N4 (by k_mem)) (N4 _ (by k_mem)).2.1 F4 N4
        (fun _ => LJ2 one oth beh tone toth tbeh pen ls f tf)
        ⟨⟨by k_extra "my_look", by k_extra "my_look", by k_extra "my_look", by k_extra "my_look", by k_extra "my_look"⟩, by k_extra "my_look"⟩ ?turn2 ?done2
      case turn2 =>
        rintro i3 v3 n3 h3 tk3 own3 hv3 ⟨⟨k1, k2, k3, k4, k5⟩, k6⟩ F5 N5
        obtain ⟨g, tg, rfl, hgz, hgb⟩ := runs_two hzs0 hzn1 hbs0 hbn1 hv3
        have F6 : Fr s₁.heap s₁.heap.objs.size h3 n3 := F5
        have N6 : News s₁.heap s₁.heap.objs.size h3 ((ls, listOf #[Value.bytes s0 ts0, Value.bytes n1 tn1] 0) :: (lm, listOf #[Value.bytes m0 tm0, Value.bytes m1 tm1] 0) :: (D, { cls := Value.type "tuple", data := Data.seq #[Value.bytes one tone, Value.bytes oth toth] }) :: (pen, penObj cells sp gr sa2 w1 w2 w3 c3) :: (cells, listOf vs.toArray c2) :: (own2 ++ own3)) := N5
        clear F4 N4 F5 N5 hv3
        (try k_fold)
        k_steps
        unfold Stop
        (rename Fr _ _ _ _ => F7)
        (rename News _ _ _ _ => N7)
        refine ro_tuple (vs := [Value.bytes [].toArray _, Value.bytes [128].toArray _, Value.bytes _ _, Value.bytes [128, 128].toArray _]) rfl ⟨_, (N7 _ (.head _)).1, rfl, _, rfl⟩ (N7 _ (.head _)).2.1 F7 N7
          (fun _ => LJ3 one oth beh tone toth tbeh pen ls f tf g tg)
          ⟨⟨⟨by k_extra "my_look", by k_extra "my_look", by k_extra "my_look", by k_extra "my_look", by k_extra "my_look"⟩, by k_extra "my_look"⟩, by k_extra "my_look"⟩ ?turn3 ?done3
        case turn3 =>
          rintro i4 v4 n4 h5 tk5 own5 hv5 ⟨⟨⟨k1, k2, k3, k4, k5⟩, k6⟩, k7⟩ F8 N8
          obtain ⟨e5, te5, rfl, hez, heb⟩ := end_four (by with_reducible assumption) (Nat.le_trans (by with_reducible assumption) (by decide)) hv5
          have F9 : Fr s₁.heap s₁.heap.objs.size h5 n4 := F8
          clear F7 F8 hv5
          (try k_fold)
          k_steps
          (rename News _ _ _ _ => nE)
          (rename Fr _ _ _ _ => fE)
          exact rend_next fE nE (fun p hp => hp) ⟨⟨⟨by k_extra "my_look", by k_extra "my_look", by k_extra "my_look", by k_extra "my_look", by k_extra "my_look"⟩, by k_extra "my_look"⟩, by k_extra "my_look"⟩
        case done3 =>
          rintro n4 h5 tk5 ⟨⟨⟨k1, k2, k3, k4, k5⟩, k6⟩, k7⟩ F8 N8
          clear F7 N7
          (try k_fold)
          k_steps
          (rename News _ _ _ _ => nE)
          (rename Fr _ _ _ _ => fE)
          exact rend_next fE nE (fun p hp => .tail _ hp) ⟨⟨by k_extra "my_look", by k_extra "my_look", by k_extra "my_look", by k_extra "my_look", by k_extra "my_look"⟩, by k_extra "my_look"⟩
      case done2 =>
        rintro n3 h4 tk4 ⟨⟨k1, k2, k3, k4, k5⟩, k6⟩ F5 N5
        clear F4 N4
        (try k_fold)
        k_steps
        (rename News _ _ _ _ => nE)
        (rename Fr _ _ _ _ => fE)
        exact rend_next fE nE (fun p hp => hp) ⟨by k_extra "my_look", by k_extra "my_look", by k_extra "my_look", by k_extra "my_look", by k_extra "my_look"⟩
    case done =>
      rintro n2 h2 tk2 ⟨k1, k2, k3, k4, k5⟩ F2 N2
      have N3 : News s₁.heap s₁.heap.objs.size h2 [(pen, penObj cells sp gr sa2 w1 w2 w3 c3), (cells, listOf vs.toArray c2)] := fun p hp => N2 p (.tail _ (.tail _ (.tail _ hp)))
      clear F1 N1 N2 k4 k5 hbm0 hbm1 hbs0 hbn1 hzm0 hzm1 hzs0 hzn1 hzb llm lls lD
      (try k_fold)
      k_steps
      exact ⟨_, _, _, rfl, by assumption, rfl⟩)
end Mine

theorem PySem.Challenge.cw_og0155_01_holds : PySem.Challenge.rw_og0155_01.Holds :=
  Mine.law_holds
