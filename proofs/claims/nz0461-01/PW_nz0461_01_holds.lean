import PyProof.Rows.All
import Wide.All
import OpenK.AllK
import Wide.FinOn
import PySem.Challenge.RW_nz0461_01
open PySem PySem.W PyProof.Rows PySem.Calls
set_option Elab.async false
set_option maxRecDepth 100000
set_option maxHeartbeats 4000000
set_option compiler.extract_closed false
namespace Mine
set_option maxHeartbeats 8000000 in
open_top hd for PySem.Challenge.rw_nz0461_01
local macro_rules | `(tactic| walk_at $s:str) => `(tactic| k_extra $(Lean.Syntax.mkStrLit ("my " ++ s.getString)))
section
abbrev pgm : Program := PySem.Challenge.rw_nz0461_01.row.prog

/-- the base beneath all frames has the text's own objects -/
structure BaseOk (w : World) (base : Heap) : Prop where
  X : (hd.heap_39 w.params).In base
  T : ∃ p loose mean mg mb, Top p loose mean mg mb base

/-- all that a callee wants of the heap it is called in; n: how many frames deeper it may go -/
structure Gd (n : Nat) (w : World) (A : Around) (h : Heap) : Prop where
  below : ∃ base envs, Below A base envs h ∧ BaseOk w base
  hand : A.handled = none
  dep : A.depth + n ≤ 340
  un : A.units + 4 * n ≤ 400
theorem Gd.kin {n : Nat} {w : World} {A : Around} {h : Heap} (G : Gd n w A h) : (hd.heap_39 w.params).In h := let ⟨_, _, B, K⟩ := G.below; K.X.keeps B.stays

theorem Gd.keeps {n : Nat} {w : World} {A : Around} {h h' : Heap} (G : Gd n w A h) (k : h.StaysIn h') : Gd n w A h' := by
  obtain ⟨⟨base, envs, B, K⟩, a, b, c⟩ := G
  exact ⟨⟨base, envs, ⟨B.stack, fun b o e => k b o (B.stays b o e), B.frames.of_keeps fun b o e _ => ⟨o, k b o e, rfl⟩⟩, K⟩, a, b, c⟩
theorem Gd.less {n m : Nat} {w : World} {A : Around} {h : Heap} (G : Gd n w A h) (hm : m ≤ n) : Gd m w A h := ⟨G.below, G.hand, by have := G.dep; omega, by have := G.un; omega⟩

def PureR (s : Shared) (P : Value → Heap → Prop) (r : Result) (s' : Shared) : Prop :=
  ∃ v h' tk, r = .ok (.ret v) ∧ s' = { s with heap := h', toks := tk } ∧ s.heap.StaysIn h' ∧ P v h'

def PureCall (w : World) (A : Around) (f : Addr) (args : List Value) (s : Shared) (P : Value → Heap → Prop) : Prop :=
  codeAny (model pgm w) A (.call (.ref f) ⟨args, []⟩) (PureR s P) s

theorem PureCall.mono {w : World} {A : Around} {f : Addr} {args : List Value} {s : Shared} {P P' : Value → Heap → Prop} (h : PureCall w A f args s P) (k : ∀ v h', s.heap.StaysIn h' → P v h' → P' v h') : PureCall w A f args s P' :=
  codeAny_mono h fun _ _ ⟨v, h', tk, a, b, c, d⟩ => ⟨v, h', tk, a, b, c, k v h' c d⟩

theorem PureCall.use {w : World} {A : Around} {f : Addr} {args : List Value} {s : Shared} {P : Value → Heap → Prop} {h₀ : Heap} {L : Addr} {m : Str → Option Value} {news : List (Addr × Obj)}
    {Q : Value → Shared → Prop} {E : Value → Shared → Prop} (hp : PureCall w A f args s P) (F : Fr h₀ L s.heap m) (N : News h₀ L s.heap news)
    (h : ∀ v h' tk, P v h' → s.heap.StaysIn h' → Fr h₀ L h' m → News h₀ L h' news → Q v { s with heap := h', toks := tk }) : wpAny (model pgm w) A (call (.ref f) args []) Q E s := by
  refine wpAny_call (codeAny_mono hp ?_)
  rintro r s' ⟨v, h', tk, rfl, rfl, k, hP⟩
  refine h v h' tk hP k ⟨F.ns.keeps k, fun b o e => k b o (F.keep b o e), F.above⟩ fun p hp => ⟨k _ _ (N p hp).1, (N p hp).2⟩

abbrev Ar (dep : Nat) (envs : List Env) (grd : Option (List Code)) (unt : Nat) : Around := { handled := none, depth := dep, frames := some envs, guards := grd, units := unt }

/-- the facts of a frame that is walked -/
structure Wk (n : Nat) (w : World) (dep : Nat) (envs : List Env) (grd : Option (List Code)) (unt : Nat) (base : Heap) (p : Program) (loose : List Str) (mean : ExcName → Option Value) (mg mb : Str → Option Value) (h : Heap) : Prop where
  B : Below (Ar dep envs grd unt) base envs h
  W : BaseOk w base
  X : (hd.heap_39 w.params).In h
  T : Top p loose mean mg mb h
  d : dep + n ≤ 340
  u : unt + 4 * n ≤ 400

theorem Gd.elim {n : Nat} {w : World} {A : Around} {h : Heap} {C : Around → Prop} (G : Gd n w A h)
    (k : ∀ dep envs grd unt base p loose mean mg mb, Wk n w dep envs grd unt base p loose mean mg mb h → C (Ar dep envs grd unt)) : C A := by
  obtain ⟨⟨base, envs, B, K⟩, a, b, c⟩ := G
  obtain ⟨hdl, dep, frs, grd, unt⟩ := A
  have e := B.stack
  dsimp only at a b c e
  subst a e
  obtain ⟨p, l, me, mg, mb, T⟩ := K.T
  exact k dep envs grd unt base p l me mg mb ⟨B, K, K.X.keeps B.stays, T.keeps B.stays, b, c⟩

theorem Gd.elimP {n : Nat} {w : World} {A : Around} {f : Addr} {args : List Value} {s : Shared} {P : Value → Heap → Prop} (G : Gd n w A s.heap)
    (k : ∀ dep envs grd unt base p loose mean mg mb, Wk n w dep envs grd unt base p loose mean mg mb s.heap → PureCall w (Ar dep envs grd unt) f args s P) : PureCall w A f args s P :=
  Gd.elim (C := fun A => PureCall w A f args s P) G k

theorem enterP {n : Nat} {w : World} {dep : Nat} {envs : List Env} {grd : Option (List Code)} {unt : Nat} {base : Heap} {p : Program} {loose : List Str} {mean : ExcName → Option Value} {mg mb : Str → Option Value}
    {s : Shared} {name qual : Str} {params : Arguments} {body : List Stmt} {scope : Scope} {dV kV doc pm cdv ct oc : Value} {an od : Option Addr} {osl : Array (Option Value)} {f : Addr}
    {args : List Value} {binds : List (Str × Value)} {P : Value → Heap → Prop}
    (G : Wk n w dep envs grd unt base p loose mean mg mb s.heap)
    (ho : (hd.heap_39 w.params).lookup f = some ⟨oc, od, .func (fnOf name qual params body scope dV kV doc pm an cdv ct), osl⟩) (hcd : codeIn (hd.heap_39 w.params) cdv qual = true)
    (hbind : BindsTo s (fnOf name qual params body scope dV kV doc pm an cdv ct) ⟨args, []⟩ binds) (hloc : ∀ y ∈ binds, scope.names.lookup y.1 = some .local)
    (hco : scope.isCoroutine = false) (hgen : scope.isGenerator = false) (hk : scope.kind = .function)
    (hcell : ∀ x ∈ scope.names, x.2 ≠ .cell)
    (h : ∀ h₁, Fr s.heap s.heap.objs.size h₁ (fun y => binds.reverse.lookup y) → News s.heap s.heap.objs.size h₁ [] →
      wpAny (model pgm w) ((Ar dep envs grd unt).deeper (envOf qual scope s.heap.objs.size f cdv)) (execs body (envOf qual scope s.heap.objs.size f cdv))
        (fun fl s' => PureR s P (.ok (.ret (match fl with | .ret v => v | _ => .none))) s') (fun _ _ => False)
        { s with heap := h₁, toks := s.toks + binds.length }) : PureCall w (Ar dep envs grd unt) f args s P := by
  refine codeAny_call_def (fd := fnOf name qual params body scope dV kV doc pm an cdv ct) (body := body) (binds := binds) (Nat.lt_of_le_of_lt (Nat.le_trans (Nat.le_add_right _ _) G.d) (by decide)) (G.X _ _ ho) rfl G.T.nolimit (codeRec_of G.X hcd) rfl hbind hcell hloc (fun h₁ hns hk₁ => ?_) hco hgen hk
  exact wpAny_mono (h h₁ ⟨hns, hk₁, Nat.le_refl _⟩ News.nil) (fun _ _ x => x) fun _ _ x => x.elim

/-- what a walked frame hands to its callees -/
theorem Wk.call {n : Nat} {w : World} {dep : Nat} {envs : List Env} {grd : Option (List Code)} {unt : Nat} {base h₀ h : Heap} {L : Addr} {m : Str → Option Value} {env : Env}
    (B : Below (Ar dep envs grd unt) base envs h₀) (F : Fr h₀ L h m) (K : BaseOk w base) (hd : dep + (n + 1) ≤ 340) (hu : unt + 4 * (n + 1) ≤ 400)
    (hf : env.frame = some L) (hk : env.scope.kind = .function) : Gd n w ((Ar dep envs grd unt).deeper env) h :=
  ⟨⟨base, env :: envs, pushX B F hf hk, K⟩, rfl, by simp only [depth_deeper]; omega, by simp only [Around.deeper_units]; omega⟩

def EndP (P : Value → Heap → Prop) (v : Value) (h : Heap) : Prop := P v h
theorem PureR.intro {s : Shared} {P : Value → Heap → Prop} {v : Value} {L : Addr} {h' : Heap} {m : Str → Option Value} {tk : Nat} (F : Fr s.heap L h' m) (hP : EndP P v h') :
    PureR s P (.ok (.ret v)) { s with heap := h', toks := tk } := ⟨v, h', tk, rfl, rfl, F.keep, hP⟩

end
local macro_rules | `(tactic| k_room) => `(tactic| ((try simp only [depth_under_make, depth_under_kw, depth_in1, depth_deeper, depth_mark]); (have hrl : recursionLimit = 1000 := (by decide)); omega))
local macro_rules | `(tactic| k_in) => `(tactic| ((with_reducible rename Fr _ _ _ _ => kinF); k_dflt (exact Frag.In.keeps (by with_reducible assumption) (Fr.keep kinF))))
theorem lines_b_Base : True := by
  k_with "my PureR" => ((refine PureR.intro (by with_reducible assumption) ?_))
  k_with "my m wk" => (exact Wk.call (by with_reducible assumption) (by with_reducible assumption) (by with_reducible assumption) (by omega) (by omega) rfl rfl)
  trivial
section
/-- the dict of an empty alternative; of a whole number's vector -/
abbrev missD (P : Params) (t1 t2 t3 : Tok) : Obj := dictOf [⟨PyData.keyHash P "kind", .str "kind" t1, .str "missing" t2⟩, ⟨PyData.keyHash P "attrs", .str "attrs" t3, .none⟩] 2
abbrev vecD (P : Params) (l : Addr) (t1 t2 t3 t4 t5 t6 : Tok) : Obj := dictOf [⟨PyData.keyHash P "kind", .str "kind" t1, .str "integer" t2⟩, ⟨PyData.keyHash P "items", .str "items" t3, .ref l⟩,
  ⟨PyData.keyHash P "attrs", .str "attrs" t4, .none⟩, ⟨PyData.keyHash P "shared", .str "shared" t5, .bool false⟩, ⟨PyData.keyHash P "loose", .str "loose" t6, .bool false⟩] 5
def MissAt (w : World) (h : Heap) (x : Addr) : Prop := ∃ d t1 t2 t3, h.get? x = some (instObj 98 d) ∧ h.get? d = some (missD w.params t1 t2 t3)
def VecAt (w : World) (h : Heap) (x : Addr) (i : Int) : Prop := ∃ d l t1 t2 t3 t4 t5 t6 tk, h.get? x = some (instObj 127 d) ∧ h.get? d = some (vecD w.params l t1 t2 t3 t4 t5 t6) ∧ h.get? l = some (W.listOf #[.int i tk] 0)
/-- an alternative: 0 is an empty one -/
def ItemAt (w : World) (h : Heap) (x : Addr) (fig : Int) : Prop := (fig = 0 ∧ MissAt w h x) ∨ (fig ≠ 0 ∧ VecAt w h x fig)
theorem MissAt.keeps {w : World} {h h' : Heap} {x : Addr} (k : h.StaysIn h') : MissAt w h x → MissAt w h' x := by
  rintro ⟨d, t1, t2, t3, a, b⟩
  exact ⟨d, t1, t2, t3, k _ _ a, k _ _ b⟩
theorem VecAt.keeps {w : World} {h h' : Heap} {x : Addr} {i : Int} (k : h.StaysIn h') : VecAt w h x i → VecAt w h' x i := by
  rintro ⟨d, l, t1, t2, t3, t4, t5, t6, tk, a, b, c⟩
  exact ⟨d, l, t1, t2, t3, t4, t5, t6, tk, k _ _ a, k _ _ b, k _ _ c⟩
theorem ItemAt.keeps {w : World} {h h' : Heap} {x : Addr} {i : Int} (k : h.StaysIn h') : ItemAt w h x i → ItemAt w h' x i := fun q => q.imp (fun ⟨a, b⟩ => ⟨a, b.keeps k⟩) fun ⟨a, b⟩ => ⟨a, b.keeps k⟩
theorem inst_of_base {h₀ h : Heap} {L x C dx : Addr} {m : Str → Option Value} {od : Obj} (F : Fr h₀ L h m) (h1 : h₀.get? x = some (instObj C dx)) (h2 : h₀.get? dx = some od) : InstAt h x (instObj C dx) C (some od) :=
  ⟨F.keep _ _ h1, rfl, rfl, F.keep _ _ h2⟩
theorem list_of_base {h₀ h : Heap} {L l : Addr} {m : Str → Option Value} {its : Array Value} {n : Nat} (F : Fr h₀ L h m) (h1 : h₀.get? l = some (W.listOf its n)) : h.IsList l its := ⟨_, F.keep _ _ h1, rfl, n, rfl⟩
/-- a result shown: a number or a text -/
def IsRes (v : Value) : Int ⊕ Str → Prop
  | .inl i => ∃ t, v = .int i t
  | .inr x => ∃ t, v = .str x t

theorem item_list {w : World} {A : Around} {E : Value → Shared → Prop} {s : Shared} {value slice : PySem.Expr} {l : Addr} {its : Array Value} {k : Int} {u : Tok} {v : Value} {Q : Value → Shared → Prop}
    (hl : s.heap.IsList l its) (h0 : 0 ≤ k) (hhi : k < 2 ^ 63) (hx : its[k.toNat]? = some v) (h : Q v s)
    (hs : subscripted slice false (.ref l) (.int k u) = operate [.ref l, .int k u] (getItem (.ref l) (.int k u)) := by with_unfolding_all rfl) :
    wpAny (model pgm w) A (subscriptTail value slice (.ref l) (.int k u)) Q E s :=
  tail_any hl.typeIs slot_list_getitem.lookup (wpAny_getItem_list hl h0 hhi hx h) hs
theorem tup_0 {w : World} {A : Around} {E : Value → Shared → Prop} {s : Shared} {h₀ : Heap} {L : Addr} {m : Str → Option Value} {value slice : PySem.Expr} {t : Addr} {a b : Value} {u : Tok} {Q : Value → Shared → Prop} (F : Fr h₀ L s.heap m) (ht : IsTup h₀ t #[a, b]) (h : Q a s)
    (hs : subscripted slice false (.ref t) (.int 0 u) = operate [.ref t, .int 0 u] (getItem (.ref t) (.int 0 u)) := by with_unfolding_all rfl) :
    wpAny (model pgm w) A (subscriptTail value slice (.ref t) (.int 0 u)) Q E s :=
  have ht' : IsTup s.heap t #[a, b] := isTup_stays F.keep ht
  tail_any ht'.typeIs slot_tuple_getitem.lookup (getItem_tuple ht' (by decide) (by decide) (j := 0) rfl rfl h) hs
theorem tup_1 {w : World} {A : Around} {E : Value → Shared → Prop} {s : Shared} {h₀ : Heap} {L : Addr} {m : Str → Option Value} {value slice : PySem.Expr} {t : Addr} {a b : Value} {u : Tok} {Q : Value → Shared → Prop} (F : Fr h₀ L s.heap m) (ht : IsTup h₀ t #[a, b]) (h : Q b s)
    (hs : subscripted slice false (.ref t) (.int 1 u) = operate [.ref t, .int 1 u] (getItem (.ref t) (.int 1 u)) := by with_unfolding_all rfl) :
    wpAny (model pgm w) A (subscriptTail value slice (.ref t) (.int 1 u)) Q E s :=
  have ht' : IsTup s.heap t #[a, b] := isTup_stays F.keep ht
  tail_any ht'.typeIs slot_tuple_getitem.lookup (getItem_tuple ht' (by decide) (by decide) (j := 1) rfl rfl h) hs

end
local macro_rules | `(tactic| k_inst) => `(tactic| (refine' inst_of_base (by with_reducible assumption) (by with_reducible assumption) (by with_reducible assumption)))
theorem lines_b_Data : True := by
  k_with "my mine sub" => ((k_here; (with_reducible show wpAny _ _ (subscriptTail _ _ (Value.ref _) (Value.int _ _)) _ _ _); (with_unfolding_all refine' item_list ?k1 ?k2 ?k3 ?k4 ?_ ?k6; (case k1 => first | exact list_of_base (by with_reducible assumption) (by with_reducible assumption) | with_reducible assumption); (case k2 => first | decide | omega); (case k3 => first | decide | omega); (case k4 => first | rfl | with_reducible assumption); (case k6 => with_unfolding_all rfl); k_whole)))
  k_with "my mine sub" => (((with_reducible show wpAny _ _ (subscriptTail _ _ (Value.ref _) (Value.int 0 _)) _ _ _); (with_unfolding_all refine' tup_0 ?k1 ?k2 ?_ ?k6; (case k1 => with_reducible assumption); (case k2 => with_reducible assumption); (case k6 => with_unfolding_all rfl); k_whole)))
  k_with "my mine sub" => (((with_reducible show wpAny _ _ (subscriptTail _ _ (Value.ref _) (Value.int 1 _)) _ _ _); (with_unfolding_all refine' tup_1 ?k1 ?k2 ?_ ?k6; (case k1 => with_reducible assumption); (case k2 => with_reducible assumption); (case k6 => with_unfolding_all rfl); k_whole)))
  k_with "my subscriptTail" => (k_extra "my mine sub")
  k_with "my subscriptTail Name Name ref int" => (k_extra "my mine sub")
  k_with "my subscriptTail Subscript Name Name Constant ref int" => (k_extra "my mine sub")
  k_with "my subscriptTail Name BinOp ref int" => (k_extra "my mine sub")
  k_with "my subscriptTail Subscript Name BinOp Constant ref int" => (k_extra "my mine sub")
  k_with "my subscriptTail Name Constant ref int" => (k_extra "my mine sub")
  k_with "my subscriptTail Attribute Name Constant ref int" => (k_extra "my mine sub")
  k_with "my subscriptTail Name Call ref int" => (k_extra "my mine sub")
  k_with "my subscriptTail Name Subscript ref int" => (k_extra "my mine sub")
  k_with "my subscriptTail Subscript Name Subscript Constant ref int" => (k_extra "my mine sub")
  trivial
section
theorem shown_none {w : World} {A : Around} {s : Shared} (G : Gd 3 w A s.heap) : PureCall w A 159 [.none] s (fun v _ => IsRes v (.inr "none")) := by
  with_reducible rename Gd _ _ _ _ => Gq
  refine' Gd.elimP Gq ?_
  intro depq envsq grdq untq baseq pq looseq meanq mgq mbq Wq
  clear Gq
  refine' enterP Wq ?ho ?hcd ?hb ?hl ?c1 ?c2 ?c3 ?c4 ?_
  (case ho => k_is); (case hcd => k_is); (case hb => exact BindsTo.of_eq rfl); (case hl => exact locs rfl); (case c1 => exact rfl); (case c2 => exact rfl); (case c3 => exact rfl); (case c4 => decide)
  obtain ⟨Bq, BWq, KXq, Tq, hdepq, hunq⟩ := Wq
  intro hq₁ Fq Nq
  try dsimp only
  k_steps
  exact ⟨_, rfl⟩
theorem shown_miss {w : World} {A : Around} {s : Shared} (G : Gd 3 w A s.heap) {x : Addr} (hx : MissAt w s.heap x) : PureCall w A 159 [.ref x] s (fun v _ => IsRes v (.inr "empty")) := by
  obtain ⟨d, t1, t2, t3, h1, h2⟩ := hx
  with_reducible rename Gd _ _ _ _ => Gq
  refine' Gd.elimP Gq ?_
  intro depq envsq grdq untq baseq pq looseq meanq mgq mbq Wq
  clear Gq
  refine' enterP Wq ?ho ?hcd ?hb ?hl ?c1 ?c2 ?c3 ?c4 ?_
  (case ho => k_is); (case hcd => k_is); (case hb => exact BindsTo.of_eq rfl); (case hl => exact locs rfl); (case c1 => exact rfl); (case c2 => exact rfl); (case c3 => exact rfl); (case c4 => decide)
  obtain ⟨Bq, BWq, KXq, Tq, hdepq, hunq⟩ := Wq
  intro hq₁ Fq Nq
  try dsimp only
  k_steps
  exact ⟨_, rfl⟩
theorem shown_vec {w : World} {A : Around} {s : Shared} (G : Gd 3 w A s.heap) {x : Addr} {i : Int} (hx : VecAt w s.heap x i) : PureCall w A 159 [.ref x] s (fun v _ => IsRes v (.inl i)) := by
  obtain ⟨d, l, t1, t2, t3, t4, t5, t6, tk, h1, h2, h3⟩ := hx
  with_reducible rename Gd _ _ _ _ => Gq
  refine' Gd.elimP Gq ?_
  intro depq envsq grdq untq baseq pq looseq meanq mgq mbq Wq
  clear Gq
  refine' enterP Wq ?ho ?hcd ?hb ?hl ?c1 ?c2 ?c3 ?c4 ?_
  (case ho => k_is); (case hcd => k_is); (case hb => exact BindsTo.of_eq rfl); (case hl => exact locs rfl); (case c1 => exact rfl); (case c2 => exact rfl); (case c3 => exact rfl); (case c4 => decide)
  obtain ⟨Bq, BWq, KXq, Tq, hdepq, hunq⟩ := Wq
  intro hq₁ Fq Nq
  try dsimp only
  k_steps
  exact ⟨_, rfl⟩

end
section
theorem picked_tuple {w : World} {A : Around} {s : Shared} (G : Gd 3 w A s.heap) {t : Addr} {a b : Int} {ta tb tk : Tok} (ht : IsTup s.heap t #[.int a ta, .int b tb]) (hb : 0 ≤ b) (hb2 : b < 100) (ha : a < 1000) (ha2 : -1000 < a) :
    PureCall w A 60 [.ref t, .str "double" tk] s (fun v _ => IsRes v (.inl (if b = 0 ∨ a < 0 then 0 else a / b))) := by
  with_reducible rename Gd _ _ _ _ => Gq
  refine' Gd.elimP Gq ?_
  intro depq envsq grdq untq baseq pq looseq meanq mgq mbq Wq
  clear Gq
  refine' enterP Wq ?ho ?hcd ?hb ?hl ?c1 ?c2 ?c3 ?c4 ?_
  (case ho => k_is); (case hcd => k_is); (case hb => exact BindsTo.of_eq rfl); (case hl => exact locs rfl); (case c1 => exact rfl); (case c2 => exact rfl); (case c3 => exact rfl); (case c4 => decide)
  obtain ⟨Bq, BWq, KXq, Tq, hdepq, hunq⟩ := Wq
  intro hq₁ Fq Nq
  try dsimp only
  k_steps
  · with_reducible rename b = 0 => h
    rw [if_pos (.inl h)]; exact ⟨_, rfl⟩
  · with_reducible rename a < 0 => h
    rw [if_pos (.inr h)]; exact ⟨_, rfl⟩
  · with_reducible rename ¬ a < 0 => h
    with_reducible rename b ≠ 0 => h2
    rw [if_neg (by omega)]
    rw [← Int.fdiv_eq_ediv_of_nonneg _ hb]
    exact ⟨_, rfl⟩
theorem picked_none {w : World} {A : Around} {s : Shared} (G : Gd 3 w A s.heap) {k : Str} {tk : Tok} :
    PureCall w A 60 [.none, .str k tk] s (fun v _ => IsRes v (.inl 0)) := by
  with_reducible rename Gd _ _ _ _ => Gq
  refine' Gd.elimP Gq ?_
  intro depq envsq grdq untq baseq pq looseq meanq mgq mbq Wq
  clear Gq
  refine' enterP Wq ?ho ?hcd ?hb ?hl ?c1 ?c2 ?c3 ?c4 ?_
  (case ho => k_is); (case hcd => k_is); (case hb => exact BindsTo.of_eq rfl); (case hl => exact locs rfl); (case c1 => exact rfl); (case c2 => exact rfl); (case c3 => exact rfl); (case c4 => decide)
  obtain ⟨Bq, BWq, KXq, Tq, hdepq, hunq⟩ := Wq
  intro hq₁ Fq Nq
  try dsimp only
  k_steps
  exact ⟨_, rfl⟩
theorem picked_int {w : World} {A : Around} {s : Shared} (G : Gd 3 w A s.heap) {i : Int} {t tk : Tok} :
    PureCall w A 60 [.int i t, .str "integer" tk] s (fun v _ => IsRes v (.inl i)) := by
  with_reducible rename Gd _ _ _ _ => Gq
  refine' Gd.elimP Gq ?_
  intro depq envsq grdq untq baseq pq looseq meanq mgq mbq Wq
  clear Gq
  refine' enterP Wq ?ho ?hcd ?hb ?hl ?c1 ?c2 ?c3 ?c4 ?_
  (case ho => k_is); (case hcd => k_is); (case hb => exact BindsTo.of_eq rfl); (case hl => exact locs rfl); (case c1 => exact rfl); (case c2 => exact rfl); (case c3 => exact rfl); (case c4 => decide)
  obtain ⟨Bq, BWq, KXq, Tq, hdepq, hunq⟩ := Wq
  intro hq₁ Fq Nq
  try dsimp only
  k_steps
  exact ⟨_, rfl⟩
theorem picked_log {w : World} {A : Around} {s : Shared} (G : Gd 3 w A s.heap) {i : Int} {t tk : Tok} :
    PureCall w A 60 [.int i t, .str "logical" tk] s (fun v _ => IsRes v (.inl i)) := by
  with_reducible rename Gd _ _ _ _ => Gq
  refine' Gd.elimP Gq ?_
  intro depq envsq grdq untq baseq pq looseq meanq mgq mbq Wq
  clear Gq
  refine' enterP Wq ?ho ?hcd ?hb ?hl ?c1 ?c2 ?c3 ?c4 ?_
  (case ho => k_is); (case hcd => k_is); (case hb => exact BindsTo.of_eq rfl); (case hl => exact locs rfl); (case c1 => exact rfl); (case c2 => exact rfl); (case c3 => exact rfl); (case c4 => decide)
  obtain ⟨Bq, BWq, KXq, Tq, hdepq, hunq⟩ := Wq
  intro hq₁ Fq Nq
  try dsimp only
  k_steps
  exact ⟨_, rfl⟩

end
section
theorem place_arith {a b k : Int} (hb : 0 < b) (h0 : 0 ≤ k) (h1 : ∀ j : Int, 0 ≤ j → j < k → decide ((j + 1) * b ≤ a) = true) (ha : ¬ a < 0) (h2 : decide ((k + 1) * b ≤ a) = false) : k = a / b := by
  have h2' : ¬ ((k + 1) * b ≤ a) := of_decide_eq_false h2
  have h3 : k * b ≤ a := by
    by_cases hk : k = 0
    · subst hk; omega
    · have := of_decide_eq_true (h1 (k - 1) (by omega) (by omega))
      rwa [Int.sub_add_cancel] at this
  apply Int.le_antisymm
  · exact (Int.le_ediv_iff_mul_le hb).mpr h3
  · have : a / b < k + 1 := Int.ediv_lt_of_lt_mul hb (Int.not_le.mp h2')
    omega
theorem due_place_tuple {w : World} {A : Around} {s : Shared} (G : Gd 3 w A s.heap) {t : Addr} {a b : Int} {ta tb : Tok} (ht : IsTup s.heap t #[.int a ta, .int b tb]) (hb : 0 < b) (hb2 : b < 100) (ha : a < 1000) (ha2 : -1000 < a) :
    PureCall w A 192 [.ref t] s (fun v _ => IsRes v (.inl (if b = 0 ∨ a < 0 then 0 else a / b))) := by
  with_reducible rename Gd _ _ _ _ => Gq
  refine' Gd.elimP Gq ?_
  intro depq envsq grdq untq baseq pq looseq meanq mgq mbq Wq
  clear Gq
  refine' enterP Wq ?ho ?hcd ?hb ?hl ?c1 ?c2 ?c3 ?c4 ?_
  (case ho => k_is); (case hcd => k_is); (case hb => exact BindsTo.of_eq rfl); (case hl => exact locs rfl); (case c1 => exact rfl); (case c2 => exact rfl); (case c3 => exact rfl); (case c4 => decide)
  obtain ⟨Bq, BWq, KXq, Tq, hdepq, hunq⟩ := Wq
  intro hq₁ Fq Nq
  try dsimp only
  k_steps
  any_goals exact a
  · with_reducible rename b = 0 => h
    rw [if_pos (.inl h)]; exact ⟨_, rfl⟩
  · with_reducible rename a < 0 => h
    rw [if_pos (.inr h)]; exact ⟨_, rfl⟩
  · with_reducible rename ¬ a < 0 => h
    refine ⟨by omega, ?_⟩
    have : (a + 1) * 1 ≤ (a + 1) * b := Int.mul_le_mul_of_nonneg_left (by omega) (by omega)
    exact decide_eq_false (by omega)
  · with_reducible rename b ≠ 0 => hz
    with_reducible rename ¬ a < 0 => h
    with_reducible rename ∀ j : Int, _ → _ → _ = true => h1
    with_reducible rename _ = false => h2
    with_reducible rename 0 ≤ (_ : Int) => h0
    rw [if_neg (by omega)]
    rw [← place_arith hb h0 h1 h h2]
    exact ⟨_, rfl⟩

end
section
abbrev wellO (v : Int) (row : Addr) (sp : Int) (t1 t2 : Tok) (n : Nat) : Obj := W.listOf #[.int v t1, .ref row, .int sp t2] n

def PullR (s : Shared) (W row : Addr) (most sp : Int) (r : Result) (s' : Shared) : Prop :=
  ∃ d t h' tk v' sp' t1 t2 n, r = .ok (.ret (.int d t)) ∧ s' = { s with heap := h', toks := tk } ∧ (∀ b o, b ≠ W → s.heap.get? b = some o → h'.get? b = some o) ∧
    h'.get? W = some (wellO v' row sp' t1 t2 n) ∧ 0 ≤ v' ∧ sp ≤ sp' ∧ sp' ≤ sp + 1 ∧ 0 ≤ d ∧ d < most

def EndW (most sp d v' sp' : Int) : Prop := 0 ≤ v' ∧ sp ≤ sp' ∧ sp' ≤ sp + 1 ∧ 0 ≤ d ∧ d < most

theorem PullR.intro {s : Shared} {W row L : Addr} {most sp d v' sp' : Int} {t t1 t2 : Tok} {n : Nat} {h' : Heap} {m : Str → Option Value} {tk : Nat} (F : Fr (hideAll s.heap [W]) L h' m) (N : News (hideAll s.heap [W]) L h' [(W, wellO v' row sp' t1 t2 n)])
    (hE : EndW most sp d v' sp') : PullR s W row most sp (.ok (.ret (.int d t))) { s with heap := h', toks := tk } :=
  ⟨d, t, h', tk, v', sp', t1, t2, n, rfl, rfl, fun b o hb e => F.keep b o (hideAll_get [W] e fun q => hb (List.mem_singleton.mp q)), (N _ (.head _)).1, hE⟩

theorem Gd.elimC {n : Nat} {w : World} {A : Around} {c : Code} {h : Heap} {s : Shared} {R : Result → Shared → Prop} (G : Gd n w A h)
    (k : ∀ dep envs grd unt base p loose mean mg mb, Wk n w dep envs grd unt base p loose mean mg mb h → codeAny (model pgm w) (Ar dep envs grd unt) c R s) : codeAny (model pgm w) A c R s :=
  Gd.elim (C := fun A => codeAny (model pgm w) A c R s) G k

theorem enterW {n : Nat} {w : World} {dep : Nat} {envs : List Env} {grd : Option (List Code)} {unt : Nat} {base : Heap} {p : Program} {loose : List Str} {mean : ExcName → Option Value} {mg mb : Str → Option Value} {W : Addr} {o : Obj}
    {s : Shared} {name qual : Str} {params : Arguments} {body : List Stmt} {scope : Scope} {dV kV doc pm cdv ct oc : Value} {an od : Option Addr} {osl : Array (Option Value)} {f : Addr}
    {args : List Value} {binds : List (Str × Value)} {R : Result → Shared → Prop}
    (G : Wk n w dep envs grd unt base p loose mean mg mb (hideAll s.heap [W])) (hW : s.heap.get? W = some o)
    (ho : (hd.heap_39 w.params).lookup f = some ⟨oc, od, .func (fnOf name qual params body scope dV kV doc pm an cdv ct), osl⟩) (hcd : codeIn (hd.heap_39 w.params) cdv qual = true)
    (hbind : BindsTo s (fnOf name qual params body scope dV kV doc pm an cdv ct) ⟨args, []⟩ binds) (hloc : ∀ y ∈ binds, scope.names.lookup y.1 = some .local)
    (hco : scope.isCoroutine = false) (hgen : scope.isGenerator = false) (hk : scope.kind = .function)
    (hcell : ∀ x ∈ scope.names, x.2 ≠ .cell)
    (h : ∀ h₁ L, Fr (hideAll s.heap [W]) L h₁ (fun y => binds.reverse.lookup y) → News (hideAll s.heap [W]) L h₁ [(W, o)] →
      wpAny (model pgm w) ((Ar dep envs grd unt).deeper (envOf qual scope L f cdv)) (execs body (envOf qual scope L f cdv))
        (fun fl s' => R (.ok (.ret (match fl with | .ret v => v | _ => .none))) s') (fun _ _ => False)
        { s with heap := h₁, toks := s.toks + binds.length }) : codeAny (model pgm w) (Ar dep envs grd unt) (.call (.ref f) ⟨args, []⟩) R s := by
  have st : (hideAll s.heap [W]).StaysIn s.heap := fun b o e => of_hideAll _ e
  refine codeAny_call_def (fd := fnOf name qual params body scope dV kV doc pm an cdv ct) (body := body) (binds := binds) (Nat.lt_of_le_of_lt (Nat.le_trans (Nat.le_add_right _ _) G.d) (by decide)) (st _ _ (G.X _ _ ho)) rfl (G.T.nolimit.keeps st) ((codeRec_of G.X hcd).keeps st) rfl hbind hcell hloc (fun h₁ hns hk₁ => ?_) hco hgen hk
  refine wpAny_mono (h h₁ _ ⟨hns, fun b o e => hk₁ b o (st b o e), Nat.le_of_eq (hideAll_size _ _)⟩ fun q hq => ?_) (fun _ _ x => x) fun _ _ x => x.elim
  obtain rfl := List.mem_singleton.mp hq
  exact ⟨hk₁ _ _ hW, Nat.ne_of_lt (Heap.lt_size hW), hideAll_none _ (.head _)⟩

end
theorem lines_b_P4 : True := by
  k_with "my PullR" => ((refine PullR.intro (by with_reducible assumption) (by with_reducible assumption) ?_))
  trivial
section
theorem fmod_nn (a : Int) {b : Int} (hb : 0 < b) : 0 ≤ a.fmod b := by
  rw [Int.fmod_eq_emod_of_nonneg _ (Int.le_of_lt hb)]; exact Int.emod_nonneg _ (by omega)
theorem endW_of {x most sp sp' : Int} (hx : 0 ≤ x) (hm : 0 < most) (h1 : sp ≤ sp') (h2 : sp' ≤ sp + 1) : EndW most sp (x.fmod most) (x.fdiv most) sp' := by
  refine ⟨?_, h1, h2, fmod_nn _ hm, ?_⟩
  · rw [Int.fdiv_eq_ediv_of_nonneg _ (Int.le_of_lt hm)]; exact Int.ediv_nonneg hx (Int.le_of_lt hm)
  · rw [Int.fmod_eq_emod_of_nonneg _ (Int.le_of_lt hm)]; exact Int.emod_lt_of_pos _ hm
theorem pull_spec {w : World} {A : Around} {s : Shared} {W row : Addr} {v sp most : Int} {t1 t2 t : Tok} {n : Nat} {vs : List Value} {ns : List Int} (G : Gd 3 w A (hideAll s.heap [W])) (hW : s.heap.get? W = some (wellO v row sp t1 t2 n))
    (hrow : (hideAll s.heap [W]).IsList row vs.toArray) (hI : IntsAre vs ns) (hl0 : 0 < ns.length) (hl1 : ns.length ≤ 40) (hv : 0 ≤ v) (hs0 : 0 ≤ sp) (hs1 : sp ≤ 100) (hm : 0 < most) (hm1 : most < 1000) :
    codeAny (model pgm w) A (.call (.ref 152) ⟨[.ref W, .int most t], []⟩) (PullR s W row most sp) s := by
  with_reducible rename Gd _ _ _ _ => Gq
  refine' Gd.elimC Gq ?_
  intro depq envsq grdq untq baseq pq looseq meanq mgq mbq Wq
  clear Gq
  refine' enterW Wq (by with_reducible assumption) ?ho ?hcd ?hb ?hl ?c1 ?c2 ?c3 ?c4 ?_
  (case ho => k_is); (case hcd => k_is); (case hb => exact BindsTo.of_eq rfl); (case hl => exact locs rfl); (case c1 => exact rfl); (case c2 => exact rfl); (case c3 => exact rfl); (case c4 => decide)
  obtain ⟨Bq, BWq, KXq, Tq, hdepq, hunq⟩ := Wq
  intro hq₁ Lq Fq Nq
  try dsimp only
  k_steps
  · exact endW_of (fmod_nn _ (by decide)) hm (by omega) (by omega)
  · exact endW_of (fmod_nn _ (by decide)) hm (by omega) (by omega)
  · exact endW_of (fmod_nn _ (by decide)) hm (by omega) (by omega)
  · exact endW_of hv hm (by omega) (by omega)

end
section
/-- a tree that calls nothing and turns no object's dict -/
noncomputable def Soft {α : Type} : Sem α → Prop
  | .pure _ => True
  | .raise _ => True
  | .unsupported _ => True
  | .finish _ => True
  | .rule _ k => Soft (k ())
  | .at _ k => Soft (k ())
  | .load _ _ k => ∀ o, Soft (k o)
  | .update _ _ f k => (∀ o, (f o).dict = o.dict) ∧ Soft (k ())
  | .alloc _ k => ∀ a, Soft (k a)
  | .loadIfAlive _ k => ∀ o, Soft (k o)
  | .point _ k => Soft (k ())
  | .register _ _ => True
  | .fresh k => ∀ t, Soft (k t)
  | .ask k => ∀ x, Soft (k x)
  | .choose _ _ k => ∀ x, Soft (k x)
  | .os _ _ _ => False
  | .call _ _ _ _ _ => False
  | .handled _ k => ∀ x, Soft (k x)
  | .newGen _ _ => False
  | .genState _ _ => False
  | .resume _ _ _ _ => False
  | .yield _ _ _ _ => False
  | .stack k => ∀ x, Soft (k x)
  | .fork _ _ => False
  | .thread k => ∀ x, Soft (k x)
  | .await _ _ _ _ _ => False

theorem soft_bind {α β : Type} {m : Sem α} {f : α → Sem β} (hm : Soft m) (hf : ∀ a, Soft (f a)) : Soft (m >>= f) := by
  show Soft (m.bind f)
  induction m with
  | pure a => exact hf a
  | raise => exact True.intro
  | unsupported => exact True.intro
  | finish => exact True.intro
  | rule _ _ ih => exact ih () hm
  | «at» _ _ ih => exact ih () hm
  | load _ _ _ ih => exact fun o => ih o (hm o)
  | update _ _ _ _ ih => exact ⟨hm.1, ih () hm.2⟩
  | alloc _ _ ih => exact fun o => ih o (hm o)
  | loadIfAlive _ _ ih => exact fun o => ih o (hm o)
  | point _ _ ih => exact ih () hm
  | register => exact True.intro
  | fresh _ ih => exact fun o => ih o (hm o)
  | ask _ ih => exact fun o => ih o (hm o)
  | choose _ _ _ ih => exact fun o => ih o (hm o)
  | os => exact hm
  | call => exact hm
  | handled _ _ ih => exact fun o => ih o (hm o)
  | newGen => exact hm
  | genState => exact hm
  | resume => exact hm
  | yield => exact hm
  | stack _ ih => exact fun o => ih o (hm o)
  | fork => exact hm
  | thread _ ih => exact fun o => ih o (hm o)
  | await => exact hm

/-- the object at e has the dict D -/
def Dk (e : Addr) (D : Option Addr) (h : Heap) : Prop := ∃ o, h.objs[e]? = some o ∧ o.dict = D

theorem Dk.update {e : Addr} {D : Option Addr} {h : Heap} {a : Addr} {f : Obj → Obj} (hf : ∀ o, (f o).dict = o.dict) (x : Dk e D h) : Dk e D (h.update a f) := by
  obtain ⟨o, ho, hd⟩ := x
  obtain ⟨objs, l⟩ := h
  by_cases q : a = e
  · subst q
    exact ⟨f o, by show (objs.modify a f)[a]? = _; rw [Array.getElem?_modify]; simp only [if_true]; rw [show objs[a]? = some o from ho]; rfl, (hf o).trans hd⟩
  · exact ⟨o, by show (objs.modify a f)[e]? = _; rw [Array.getElem?_modify]; rw [if_neg q]; exact ho, hd⟩
theorem Dk.push {e : Addr} {D : Option Addr} {h : Heap} {o' : Obj} (x : Dk e D h) : Dk e D (h.push o') := by
  obtain ⟨o, ho, hd⟩ := x
  obtain ⟨objs, l⟩ := h
  refine ⟨o, ?_, hd⟩
  show (objs.push o')[e]? = _
  have hlt : e < objs.size := by
    rcases Nat.lt_or_ge e objs.size with q | q
    · exact q
    · rw [show objs[e]? = none from Array.getElem?_eq_none q] at ho; cases ho
  rw [Array.getElem?_push_lt hlt]
  rw [show objs[e]? = some objs[e] from Array.getElem?_eq_getElem hlt] at ho
  exact ho

theorem soft_wp {α : Type} {M : Model} {Γ : Ctx} {Q : α → Pos → Shared → Prop} {E : Value → Pos → Shared → Prop} {e : Addr} {D : Option Addr} : ∀ {t : Sem α} {p : Pos} {s : Shared}, Soft t → Dk e D s.heap → Sem.wp M Γ t Q E p s →
    Sem.wp M Γ t (fun a p' s' => Q a p' s' ∧ Dk e D s'.heap) (fun x p' s' => E x p' s' ∧ Dk e D s'.heap) p s := by
  intro t
  induction t with
  | pure a => exact fun _ hd h => ⟨h, hd⟩
  | raise => exact fun _ hd h => ⟨h, hd⟩
  | unsupported => exact fun _ _ h => h.elim
  | finish => exact fun _ _ h => h.elim
  | rule _ _ ih => exact fun hs hd h => ih () hs hd h
  | «at» _ _ ih => exact fun hs hd h => ih () hs hd h
  | load _ _ _ ih => exact fun hs hd ⟨o, ho, h⟩ => ⟨o, ho, ih o (hs o) hd h⟩
  | update _ _ _ _ ih => exact fun hs hd ⟨ho, h⟩ => ⟨ho, ih () hs.2 (hd.update hs.1) h⟩
  | alloc _ _ ih => exact fun hs hd h => ih _ (hs _) hd.push h
  | loadIfAlive _ _ ih => exact fun hs hd h => ih _ (hs _) hd h
  | point _ _ ih => exact fun hs hd h => ih () hs hd h
  | register => exact fun _ _ h => h.elim
  | fresh _ ih => exact fun hs hd h => ih _ (hs _) hd h
  | ask _ ih => exact fun hs hd h => ih _ (hs _) hd h
  | choose _ _ _ ih => exact fun hs hd ⟨ho, h⟩ => ⟨ho, ih _ (hs _) hd h⟩
  | os => exact fun hs _ _ => hs.elim
  | call => exact fun hs _ _ => hs.elim
  | handled _ _ ih => exact fun hs hd h => ih _ (hs _) hd h
  | newGen => exact fun hs _ _ => hs.elim
  | genState => exact fun hs _ _ => hs.elim
  | resume => exact fun hs _ _ => hs.elim
  | yield => exact fun hs _ _ => hs.elim
  | stack _ ih => exact fun hs hd h => ih _ (hs _) hd h
  | fork => exact fun hs _ _ => hs.elim
  | thread _ ih => exact fun hs hd h => ih _ (hs _) hd h
  | await => exact fun hs _ _ => hs.elim

theorem soft_any {α : Type} {M : Model} {A : Around} {Q : α → Shared → Prop} {E : Value → Shared → Prop} {e : Addr} {D : Option Addr} {t : Sem α} {s : Shared} (hs : Soft t) (hd : Dk e D s.heap) (h : wpAny M A t Q E s) :
    wpAny M A t (fun a s' => Q a s' ∧ Dk e D s'.heap) (fun x s' => E x s' ∧ Dk e D s'.heap) s := fun Γ p hΓ => soft_wp hs hd (h Γ p hΓ)

end
section
theorem soft_pure {α : Type} (a : α) : Soft (pure a : Sem α) := True.intro
theorem soft_uns {α : Type} (x : String) : Soft (unsupported x : Sem α) := True.intro
theorem soft_load (a : Addr) : Soft (load a) := fun _ => True.intro
theorem soft_upd (a : Addr) (f : Obj → Obj) (hf : ∀ o, (f o).dict = o.dict) : Soft (update a f) := ⟨hf, True.intro⟩
theorem soft_alloc (o : Obj) : Soft (alloc o) := fun _ => True.intro
theorem soft_stack : Soft stack := fun _ => True.intro
theorem mapFields_dict (f : Array Value → Array Value) (o : Obj) : (Obj.mapFields f o).dict = o.dict := by
  unfold Obj.mapFields; split <;> rfl
theorem soft_fieldsOf (v : Value) : Soft (fieldsOf v) := by
  unfold fieldsOf
  split
  · refine soft_bind (soft_load _) fun o => ?_
    split <;> exact True.intro
  · exact True.intro
theorem soft_field (v : Value) (i : Nat) : Soft (field v i) := by
  unfold field
  refine soft_bind (soft_fieldsOf _) fun o => ?_
  split <;> exact True.intro
theorem soft_updateField (a : Addr) (i : Nat) (v : Value) : Soft (updateField a i v) := by
  unfold updateField
  refine soft_bind (soft_load _) fun o => ?_
  split
  · split
    · exact soft_upd _ _ (mapFields_dict _)
    · exact True.intro
  · exact True.intro
theorem soft_setField (v : Value) (i : Nat) (x : Value) : Soft (setField v i x) := by
  unfold setField
  split
  · exact soft_updateField _ _ _
  · exact True.intro
theorem soft_setFlight (e : Value) (f : Option Addr) : Soft (setFlight e f) := by
  unfold setFlight
  refine soft_bind (soft_field _ _) fun o => ?_
  split
  · exact soft_setField _ _ _
  · exact True.intro
theorem soft_underTheClaimsCaller : Soft underTheClaimsCaller := by
  unfold underTheClaimsCaller
  refine soft_bind soft_stack fun _ => ?_
  exact True.intro
theorem soft_behindIsImport (env : Env) (outer : List Env) : Soft (behindIsImport env outer) := by
  unfold behindIsImport
  split
  · exact True.intro
  · split
    · exact True.intro
    · exact soft_bind (soft_field _ _) fun _ => True.intro
theorem soft_keptBack (env : Env) (b : Bool) : ∀ l, Soft (keptBack env b l)
  | [] => by
    show Soft (if (env.scope.isGenerator || env.scope.isCoroutine) = true then pure Value.none else do return if ← underTheClaimsCaller then .notImplemented else .none)
    by_cases h : (env.scope.isGenerator || env.scope.isCoroutine) = true
    · rw [if_pos h]; exact True.intro
    · rw [if_neg h]
      refine soft_bind soft_underTheClaimsCaller fun _ => ?_
      exact True.intro
  | _ :: _ => by unfold keptBack; exact True.intro
theorem soft_readyFrames : ∀ l, Soft (readyFrames l)
  | [] => True.intro
  | env :: outer => by
    unfold readyFrames
    split
    · refine soft_bind (soft_load _) fun o => ?_
      split
      · exact True.intro
      · refine soft_bind (soft_behindIsImport _ _) fun _ => soft_bind (soft_keptBack _ _ _) fun _ => soft_bind (soft_upd _ _ fun _ => rfl) fun _ => soft_readyFrames outer
    · exact True.intro
theorem soft_frameOf (env : Env) : Soft (PySem.frameOf env) := by
  unfold PySem.frameOf
  refine soft_bind ?_ fun l => ?_
  · unfold frameEnvs
    exact soft_bind soft_stack fun _ => True.intro
  · refine soft_bind ?_ fun o => ?_
    · unfold frameObject
      split
      · exact True.intro
      · exact soft_bind (soft_readyFrames _) fun _ => True.intro
    · split <;> exact True.intro
theorem soft_entryPlaceOf (f : Addr) (b : Bool) : Soft (entryPlaceOf f b) := by
  unfold entryPlaceOf
  refine soft_bind soft_stack fun l => ?_
  split <;> exact True.intro
theorem soft_newFields (ty : String) (vs : List Value) : Soft (newFields ty vs) := by
  unfold newFields newObj
  dsimp only
  split
  · exact True.intro
  · exact fun _ => True.intro
theorem soft_newEntry (a b c d e : Value) (l : List Value) : Soft (EntryCells.newEntry a b c d e l) := by
  unfold EntryCells.newEntry
  exact soft_newFields _ _
theorem soft_noteFrame (e : Value) (env : Env) : Soft (noteFrame e env) := by
  unfold noteFrame
  split
  · refine soft_bind (soft_field _ _) fun head => ?_
    have last : Soft (do setField e 1 (← EntryCells.newEntry head (← PySem.frameOf env) .none (rawInt (by with_reducible assumption : Addr)) .none (← entryPlaceOf (by with_reducible assumption : Addr) (head != .none)))) :=
      soft_bind (soft_frameOf _) fun _ => soft_bind (soft_entryPlaceOf _ _) fun _ => soft_bind (soft_newEntry _ _ _ _ _ _) fun _ => soft_setField _ _ _
    split
    · refine soft_bind (soft_field _ _) fun _ => ?_
      split
      · exact True.intro
      · exact soft_bind (soft_setField _ _ _) fun _ => last
    · exact last
  · exact True.intro
theorem soft_leaving (e : Value) (env : Env) : Soft (leaving env e) := by
  unfold leaving
  exact soft_bind (soft_noteFrame _ _) fun _ => soft_setFlight _ _

end
section
theorem ns_val_of {K : Frag} {h : Heap} {N : Addr} {mN : Str → Option Value} {x : Str} {v : Value} (X : K.In h) (G : h.Ns N mN) (e : nsIn K N x = some (some v)) : mN x = some v := by
  obtain ⟨o, es, ep, ho, hd, _, hf⟩ := G
  unfold nsIn at e
  split at e
  · rename_i q
    have hx := X _ _ q
    rw [ho] at hx
    cases hx
    cases hd
    split at e
    · rename_i he
      cases e
      rw [← hf]
      unfold nsFind findBy
      rw [← Array.find?_toList, he]
      rfl
    · split at e <;> cases e
  · cases e
abbrev bmE : List Value := [.type "Exception", .type "BaseException", .type "object"]
/-- the class Refusal, as the top leaves it -/
theorem refusal_cls {w : World} {h : Heap} (X : (hd.heap_39 w.params).In h) : ∃ nm q bs sn sub ab col dd k0 k1 k2 k3 k5, h.get? 51 = some (excClassObj nm q 51 50 bs (.ref 31 :: bmE) true sn sub ab col dd k0 k1 k2 k3 k5 "Exception.__new__") := by
  have e := X 51 _ (by k_is)
  exact ⟨_, _, _, _, _, _, _, _, _, _, _, _, _, e⟩
theorem refusal_ns {w : World} {h : Heap} (X : (hd.heap_39 w.params).In h) : ∃ mN, h.Ns 50 mN ∧ mN "__init__" = some (.ref 48) := by
  have G : h.Ns 50 (h.nsMap 50) := .of_isNs (isNs_of_in X (by kernel_rfl))
  exact ⟨_, G, ns_val_of X G (by k_is)⟩
theorem refusal_tail {w : World} {h : Heap} (X : (hd.heap_39 w.params).In h) : OwnTail h bmE (.ref 31 :: bmE) := tail_of_in X (by kernel_rfl)
theorem refusal_init {w : World} {h : Heap} (X : (hd.heap_39 w.params).In h) : ∃ oI, h.get? 48 = some oI ∧ oI.cls = .type "function" := by
  have e := X 48 _ (by k_is)
  exact ⟨_, e, rfl⟩

end
section
theorem tl_at {w : World} {A : Around} {E : Value → Shared → Prop} {h : Heap} {g : Array GenState} {d : Drawn} {t : Nat} {os : OsState} {C : Addr} {name : Str} {r : Option Value} {Q : Option Value → Shared → Prop}
    (X : (hd.heap_39 w.params).In h) (e : findIn (hd.heap_39 w.params) (.ref C) name = some r) (hq : Q r ⟨h, g, d, t, os⟩) : wpAny (model pgm w) A (typeLookup (.ref C) name) Q E ⟨h, g, d, t, os⟩ := (looks_findIn X e).at hq

/-- D is a dict that holds the message -/
def MsgAt (h : Heap) (D : Addr) (v : Value) : Prop := ∃ mD, h.Ns D mD ∧ mD "message" = some v
theorem MsgAt.keeps {h h' : Heap} {D : Addr} {v : Value} (k : h.StaysIn h') : MsgAt h D v → MsgAt h' D v := fun ⟨m, a, b⟩ => ⟨m, a.keeps k, b⟩

theorem exc_check {w : World} {A : Around} {E : Value → Shared → Prop} {h : Heap} {g : Array GenState} {d : Drawn} {t : Nat} {os : OsState} {e : Addr} {oe : Obj} {nameV : Value} {Q : Unit → Shared → Prop}
    (X : (hd.heap_39 w.params).In h) (he : h.get? e = some oe) (hc : oe.cls = .ref 51) (hq : Q () ⟨h, g, d, t, os⟩) :
    wpAny (model pgm w) A (checkBuiltinCall "BaseException.__getattribute__" ⟨[.ref e, nameV], []⟩) Q E ⟨h, g, d, t, os⟩ := by
  obtain ⟨nm, q, bs, sn, sub, ab, col, dd, k0, k1, k2, k3, k5, hC⟩ := refusal_cls X
  have hk : builtinKind "BaseException.__getattribute__" = some .slot := by decide +kernel
  have hsplit : splitId "BaseException.__getattribute__" = some ("BaseException", "__getattribute__") := by decide +kernel
  have hcB : (Value.ref 51 :: .ref 31 :: bmE).contains (.type "BaseException") = true := by decide +kernel
  have ha := PySem.F.args_bexc_ga (.ref e) nameV
  simp only [checkBuiltinCall, hk, hsplit]
  refine wpAny_bind ?_
  unfold isInstance
  repeat (first | (with_reducible refine wpAny_loadPart_at he ?_; rw [hc]) | (with_reducible refine wpAny_isSubtype_exc hC ?_; rw [hcB]) | wp_step)
  exact hq

theorem exc_entry {w : World} {A : Around} {E : Value → Shared → Prop} {h : Heap} {g : Array GenState} {d : Drawn} {t : Nat} {os : OsState} {e D : Addr} {oe : Obj} {vs : Array Value} {tk : Tok} {v : Value} {Q : Fin → Shared → Prop}
    (X : (hd.heap_39 w.params).In h) (he : h.get? e = some oe) (hc : oe.cls = .ref 51) (hdt : oe.data = .fields vs) (hD : oe.dict = some D) (ho : MsgAt h D v)
    (hq : Q (.done (.ret v)) ⟨h, g, d, t, os⟩) : wpAny (model pgm w) A (Builtin.«object.__getattribute__» ⟨[.ref e, .str "message" tk], []⟩) Q E ⟨h, g, d, t, os⟩ := by
  obtain ⟨nm, q, bs, sn, sub, ab, col, dd, k0, k1, k2, k3, k5, hC⟩ := refusal_cls X
  have e3 : findIn (hd.heap_39 w.params) (.ref 51) "message" = some none := by k_is
  obtain ⟨mD, GD, hmD⟩ := ho
  obtain ⟨oc, od, oda, osl⟩ := oe
  dsimp only at hc hdt hD
  subst hc hdt hD
  repeat (any_goals (first | with_reducible assumption | with_reducible refine wpAny_loadPart_at he ?_ | with_reducible refine wpAny_loadPart_at hC ?_ | with_reducible refine tl_at X e3 ?_ | (with_reducible refine wpAny_nsGet (s := ⟨h, g, d, t, os⟩) GD ?_; rw [hmD]) | wp_step))

theorem exc_get {w : World} {A : Around} {E : Value → Shared → Prop} {h : Heap} {g : Array GenState} {d : Drawn} {t : Nat} {os : OsState} {e D : Addr} {oe : Obj} {vs : Array Value} {expr : Bool} {x : Str} {t2 : Tok} {Q : Value → Shared → Prop}
    (X : (hd.heap_39 w.params).In h) (he : h.get? e = some oe) (hc : oe.cls = .ref 51) (hdt : oe.data = .fields vs) (hD : oe.dict = some D) (ho : MsgAt h D (.str x t2))
    (hq : Q (.str x t2) ⟨h, g, d, t + 1, os⟩) : wpAny (model pgm w) A (getAttr (.ref e) "message" expr) Q E ⟨h, g, d, t, os⟩ := by
  obtain ⟨nm, q, bs, sn, sub, ab, col, dd, k0, k1, k2, k3, k5, hC⟩ := refusal_cls X
  have e1 : findIn (hd.heap_39 w.params) (.ref 51) "__getattribute__" = some (some (.builtin "BaseException.__getattribute__")) := by k_is
  have e2 : findIn (hd.heap_39 w.params) (.ref 51) "__getattr__" = some none := by k_is
  have e3 : findIn (hd.heap_39 w.params) (.ref 51) "message" = some none := by k_is
  have FB := PySem.F.attr_Exception
  have f3 := FB.ga.bind (.ref e)
  have hx0 : (expr && onTheHeap (Value.builtin "BaseException.__getattribute__")) = false := by cases expr <;> rfl
  have hx2 : (Value.builtin "BaseException.__getattribute__" == Value.builtin "object.__getattribute__") = false := by decide +kernel
  have hx1 : (onTheHeap (Value.ref 51) && Value.builtin "BaseException.__getattribute__" == Value.builtin "object.__getattribute__") = false := by rw [hx2]; rfl
  unfold getAttr
  repeat (any_goals (first | with_reducible assumption | (with_reducible refine wpAny_loadPart_at he ?_; rw [hc]) | with_reducible refine tl_at X e1 ?_ | with_reducible refine tl_at X e2 ?_ | with_reducible refine tl_at X e3 ?_ | wp_step))
  refine codeAny_call_builtin FB.ga.plain PySem.F.entry_bexc_ga (exc_check X he hc (exc_entry X he hc hdt hD ho ?_))
  repeat (any_goals (first | with_reducible assumption | wp_step))

end
section
theorem exc_refuse (self : Value) : refuseLoop self "__setattr__" (.ref 51 :: .ref 31 :: bmE) = pure () := by
  rw [refuseLoop_ref, refuseLoop_ref]
  kernel_rfl

theorem store_in {w : World} {A : Around} {E : Value → Shared → Prop} {h : Heap} {g : Array GenState} {d : Drawn} {t : Nat} {os : OsState} {D : Addr} {v : Value} {tk : Tok} {Q : Fin → Shared → Prop} 
    (hn0 : ∃ oD epD, h.get? D = some oD ∧ oD.data = .dict #[] epD)
    (hq : ∀ h' tk', MsgAt h' D v → Heap.SameBut D h h' → Q (.done (.ret .none)) ⟨h', g, d, tk', os⟩) :
    wpAny (model pgm w) A (Builtin.ObjectAttr.storeInDict D (.str "message" tk) "message" v) Q E ⟨h, g, d, t, os⟩ := by
  unfold Builtin.ObjectAttr.storeInDict Builtin.ObjectAttr.newKeyGuard
  obtain ⟨oD, epD, h1, h2⟩ := hn0
  have hnd : h.Ns D (fun _ => none) := ⟨oD, #[], epD, h1, h2, fun e he => absurd he (by simp), fun _ => rfl⟩
  refine wpAny_bind (wpAny_pure (wpAny_bind (wpAny_nsSet1 (Heap.Ns1.of_empty hnd) fun h' hn' hs => ?_)))
  obtain ⟨oD', esD, epD', hoD, hdD, hcD⟩ := hn'.count (Within.cons "message" v Within.nil)
  refine wpAny_bind (wpAny_lookBehind hoD (by rw [hdD]; exact pastItsLine_dict (Nat.le_trans hcD (by rw [List.length_cons, List.length_nil, sizeLine_eq]; omega))) ?_)
  obtain ⟨o', es, ep, a1, a2, a3, _, a4⟩ := hn'
  exact wpAny_pure (hq h' _ ⟨_, ⟨o', es, ep, a1, a2, a3, a4⟩, by simp⟩ hs)

theorem exc_store {w : World} {A : Around} {E : Value → Shared → Prop} {h : Heap} {g : Array GenState} {d : Drawn} {t : Nat} {os : OsState} {e : Addr} {vs : Array Value} {sl : Array (Option Value)} {v : Value} {b : Bool} {tk : Tok} {Q : Fin → Shared → Prop}
    (X : (hd.heap_39 w.params).In h) (he : h.get? e = some ⟨.ref 51, none, .fields vs, sl⟩)
    (hq : ∀ h' tk' D, h'.get? e = some ⟨.ref 51, some D, .fields vs, sl⟩ → MsgAt h' D v → D ≠ e → h.get? D = none → (∀ b o, b ≠ e → h.get? b = some o → h'.get? b = some o) → Q (.done (.ret .none)) ⟨h', g, d, tk', os⟩) :
    wpAny (model pgm w) A (Builtin.ObjectAttr.storeInOwnDict (.ref e) (.ref 51) (.str "message" tk) "message" v b) Q E ⟨h, g, d, t, os⟩ := by
  obtain ⟨nm, q, bs, sn, sub, ab, col, dd, k0, k1, k2, k3, k5, hC⟩ := refusal_cls X
  have hes : e ≠ h.objs.size := Nat.ne_of_lt (Heap.lt_size he)
  have hx₁ : (h.push { cls := .type "dict", data := .dict #[] }).get? e = some ⟨.ref 51, none, .fields vs, sl⟩ := Heap.get?_push_of_some _ he
  have hgd : ((h.push { cls := .type "dict", data := .dict #[] }).update e fun o => { cls := o.cls, dict := some h.objs.size, data := o.data, slots := o.slots }).get? h.objs.size
      = some { cls := .type "dict", data := .dict #[] } :=
    (Heap.get?_update_ne _ _ _ _ hes.symm).trans (Heap.get?_push_at rfl rfl)
  have hnd : ((h.push { cls := .type "dict", data := .dict #[] }).update e fun o => { cls := o.cls, dict := some h.objs.size, data := o.data, slots := o.slots }).Ns h.objs.size (fun _ => none) :=
    ⟨_, #[], _, hgd, rfl, fun e he => absurd he (by simp), fun _ => rfl⟩
  unfold Builtin.ObjectAttr.storeInOwnDict
  repeat (any_goals (first | with_reducible assumption | with_reducible refine wpAny_loadPart_at he ?_ | with_reducible refine wpAny_loadPart_at hC ?_ | (with_reducible refine store_in ⟨_, _, hgd, rfl⟩ fun h' tk' hm hs => ?_) | wp_step))
  refine hq h' _ _ ?_ hm hes.symm (by cases q : h.get? h.objs.size with | none => rfl | some o => exact absurd (Heap.lt_size q) (Nat.lt_irrefl _)) fun b o hb hbo => ?_
  · exact (hs.2 e hes).trans (Heap.get?_update_self _ hx₁ rfl)
  · exact (hs.2 b (Nat.ne_of_lt (Heap.lt_size hbo))).trans ((Heap.get?_update_ne _ _ _ _ hb).trans (Heap.get?_push_of_some _ hbo))

theorem exc_set {w : World} {A : Around} {E : Value → Shared → Prop} {h : Heap} {g : Array GenState} {d : Drawn} {t : Nat} {os : OsState} {e : Addr} {vs : Array Value} {sl : Array (Option Value)} {v : Value} {Q : Unit → Shared → Prop}
    (X : (hd.heap_39 w.params).In h) (he : h.get? e = some ⟨.ref 51, none, .fields vs, sl⟩)
    (hq : ∀ h' tk' D, h'.get? e = some ⟨.ref 51, some D, .fields vs, sl⟩ → MsgAt h' D v → D ≠ e → h.get? D = none → (∀ b o, b ≠ e → h.get? b = some o → h'.get? b = some o) → Q () ⟨h', g, d, tk', os⟩) :
    wpAny (model pgm w) A (setAttr (.ref e) "message" v) Q E ⟨h, g, d, t, os⟩ := by
  have I : InstAt h e ⟨.ref 51, none, .fields vs, sl⟩ 51 none := ⟨he, rfl, rfl, trivial⟩
  have SF := PySem.F.store_object
  obtain ⟨nm, q, bs, sn, sub, ab, col, dd, k0, k1, k2, k3, k5, hC⟩ := refusal_cls X
  have hcO : (Value.ref 51 :: .ref 31 :: bmE).contains (.type "object") = true := by decide +kernel
  refine set_plain X I (by k_is) ?_
  have sub : Looks (model pgm w) h (isInstance (.ref e) (.type "object")) true := I.type.andThen fun A Q E s k q => by
    obtain ⟨hh, g, d, t, os⟩ := s
    exact wpAny_isSubtype_exc (k _ _ hC) (by rw [hcO]; exact q)
  have hm : Looks (model pgm w) h (mroOf (.ref 51)) (.ref 51 :: .ref 31 :: bmE) := fun A Q E s k q => by
    obtain ⟨hh, g, d, t, os⟩ := s
    exact wpAny_mroOf_exc (k _ _ hC) q
  refine codeAny_call_builtin SF.slot.plain SF.entry (@check_slot (model pgm w) _ _ ⟨h, g, d, t + 1, os⟩ "object.__setattr__" "object" "__setattr__" (.ref e) [.str "message" t, v] [] _ SF.kind SF.split sub (SF.args (.ref e) (.str "message" t) v) ?_)
  rw [osa_eq, refuse_eq]
  refine wpAny_bind (wpAny_bind (I.type.at (wpAny_bind (hm.at ?_))))
  rw [exc_refuse]
  refine wpAny_pure (wpAny_bind (I.type.at (wpAny_bind (tl_at X (r := none) (by k_is) (wpAny_bind (wpAny_pure ?_))))))
  exact exc_store X he fun h' tk' D a b c d' k => hq h' tk' D a b c d' k

end
section
theorem Gd.under {n : Nat} {w : World} {A : Around} {h : Heap} {C : Addr} {rest : List Value} (G : Gd (n + 1) w A h) : Gd n w (A.under (.builtin "type.__call__" ⟨.ref C :: rest, []⟩)) h := by
  obtain ⟨⟨base, envs, B, K⟩, a, b, c⟩ := G
  obtain ⟨hdl, dep, frs, grd, unt⟩ := A
  have e := B.stack
  dsimp only at a b c e
  subst a e
  refine ⟨⟨base, envs, ⟨rfl, B.stays, B.frames⟩, K⟩, rfl, ?_, ?_⟩
  · rw [depth_under_make]; dsimp only; omega
  · have hc : (Code.builtin "type.__call__" ⟨.ref C :: rest, []⟩).cUnits ≤ 4 := by
      have hf : (Code.builtin "type.__call__" ⟨.ref C :: rest, []⟩).frames = 0 := by first | rfl | kernel_rfl
      show 1 + 3 * (Code.builtin "type.__call__" ⟨.ref C :: rest, []⟩).frames ≤ 4
      omega
    show unt + (Code.builtin "type.__call__" ⟨.ref C :: rest, []⟩).cUnits + 4 * n ≤ 400
    omega

abbrev excO (t0 : Addr) (D : Option Addr) : Obj := ⟨.ref 51, D, .fields #[.ref t0, .none, .none, .none, .bool false, .none], #[]⟩

theorem refusal_init_walk {w : World} {A : Around} {s : Shared} {e t0 : Addr} {x : Str} {tx : Tok} {R : Result → Shared → Prop} (G : Gd 3 w A (hideAll s.heap [e])) (he : s.heap.get? e = some (excO t0 none))
    (hR : ∀ h' tk D, h'.get? e = some (excO t0 (some D)) → MsgAt h' D (.str x tx) → D ≠ e → s.heap.get? D = none → (∀ b o, b ≠ e → s.heap.get? b = some o → h'.get? b = some o) → R (.ok (.ret .none)) { s with heap := h', toks := tk }) :
    codeAny (model pgm w) A (.call (.ref 48) ⟨[.ref e, .str x tx], []⟩) R s := by
  with_reducible rename Gd _ _ _ _ => Gq
  refine' Gd.elimC Gq ?_
  intro depq envsq grdq untq baseq pq looseq meanq mgq mbq Wq
  clear Gq
  refine' enterW Wq (by with_reducible assumption) ?ho ?hcd ?hb ?hl ?c1 ?c2 ?c3 ?c4 ?_
  (case ho => k_is); (case hcd => k_is); (case hb => exact BindsTo.of_eq rfl); (case hl => exact locs rfl); (case c1 => exact rfl); (case c2 => exact rfl); (case c3 => exact rfl); (case c4 => decide)
  obtain ⟨Bq, BWq, KXq, Tq, hdepq, hunq⟩ := Wq
  intro hq₁ Lq Fq Nq
  try dsimp only
  k_steps
  with_reducible rename News _ _ _ [_] => N
  with_reducible rename Fr _ _ _ _ => F
  with_reducible rename Frag.In _ _ => KX
  have up : ∀ b o, b ≠ e → s.heap.get? b = some o → (hideAll s.heap [e]).get? b = some o := fun b o hb q => hideAll_get [e] q fun z => hb (List.mem_singleton.mp z)
  refine exc_set (KX.keeps F.keep) (N.get (.head _)) fun h' tk' D a b c d k => ?_
  refine wpAny_execs_nil ?_
  refine hR h' tk' D a b c ?_ fun b o hb q => k b o hb (F.keep b o (up b o hb q))
  cases q : s.heap.get? D with
  | none => rfl
  | some o => rw [F.keep D o (up D o c q)] at d; cases d

end
section
/-- what a Refusal just made is: e with its dict D -/
structure ExcMade (h h' : Heap) (e D t0 : Addr) (x : Str) (tx : Tok) : Prop where
  keeps : ∀ b o, h.get? b = some o → h'.get? b = some o
  new : h.get? e = none
  obj : h'.get? e = some (excO t0 (some D))
  msg : MsgAt h' D (.str x tx)
  ne : D ≠ e
  newD : h.get? D = none

theorem type_call_refusal {w : World} {A : Around} {E : Value → Shared → Prop} {h : Heap} {g : Array GenState} {d : Drawn} {t : Nat} {os : OsState} {rest : List Value} {Q : Fin → Shared → Prop} (X : (hd.heap_39 w.params).In h)
    (hq : ∀ h' e, Heap.MadeExcOf h h' e (.ref 51) rest → wpAny (model pgm w) A (call (.ref 48) (.ref e :: rest)) (fun r s' => r = .none ∧ Q (.done (.ret (.ref e))) s') E ⟨h', g, d, t, os⟩) (hrest : rest.length ≤ sizeLine) :
    wpAny (model pgm w) A (Builtin.«type.__call__» ⟨.ref 51 :: rest, []⟩) Q E ⟨h, g, d, t, os⟩ := by
  obtain ⟨nm, q, bs, sn, sub, ab, col, dd, k0, k1, k2, k3, k5, hC⟩ := refusal_cls X
  obtain ⟨mN, hn, hi⟩ := refusal_ns X
  obtain ⟨oI, hfI, hfc⟩ := refusal_init X
  have T := refusal_tail X
  have FB := PySem.F.excBase_Exception
  have hB : bmE.contains (.type "Exception") = true := FB.hasB
  repeat (first | with_reducible refine wpAny_loadPart_at hC ?_ | with_reducible refine wpAny_madeBy_exc hC ?_ | wp_step)
  refine codeAny_call_builtin_code (Code.quiet_builtin _ FB.quiet) (wpAny_check_new_subU FB hB T hC ?_)
  refine codeAny_exc_new_subU FB hB FB T hC ?_ hrest
  show wpAny _ _ _ _ _ _
  have up : ∀ b o, h.get? b = some o → ((h.push { cls := .type "tuple", data := .seq rest.toArray }).push (excO h.objs.size none)).get? b = some o := fun b o e => Heap.get?_push_of_some _ (Heap.get?_push_of_some _ e)
  have hC₁ := up _ _ hC
  have hget : ((h.push { cls := .type "tuple", data := .seq rest.toArray }).push (excO h.objs.size none)).get? (h.objs.size + 1) = some (excO h.objs.size none) := by heap_get
  have hcC : (Value.ref 51 :: .ref 31 :: bmE).contains (.ref 51) = true := by decide +kernel
  unfold isInstance
  repeat (first | with_reducible refine wpAny_loadPart_at hget ?_ | (with_reducible refine wpAny_isSubtype_exc hC₁ ?_; rw [hcC]) | wp_step)
  show wpAny _ _ (typeLookup (.ref 51) _) _ _ _
  refine wpAny_typeLookup_tail hC₁ (hn.keeps up) (T.keeps up) FB.mroIs FB.init.lookup ?_
  rw [hi]
  refine wpAny_holding (wpAny_bind ?_)
  unfold bindSpecial
  refine wpAny_bind (wpAny_typeOf (T := "function") ⟨_, up _ _ hfI, hfc⟩ ?_)
  rw [if_pos (by decide)]
  refine wpAny_pure (wpAny_bind (wpAny_mono (hq _ (h.objs.size + 1) ⟨up, Heap.get?_none_of_le (Nat.le_succ _), h.objs.size, hget, Heap.get?_none_of_le (Nat.le_refl _), ?_⟩) (fun r s' hr => ?_) fun _ _ x => x))
  · exact Heap.get?_push_of_some _ (Heap.get?_push_at rfl rfl)
  · obtain ⟨rfl, hQ⟩ := hr
    wp_walk
    exact hQ

theorem call_refusal {w : World} {A : Around} {E : Value → Shared → Prop} {s : Shared} {x : Str} {tx : Tok} {Q : Value → Shared → Prop} (G : Gd 4 w A s.heap)
    (hq : ∀ h' tk e D t0, ExcMade s.heap h' e D t0 x tx → Q (.ref e) { s with heap := h', toks := tk }) : wpAny (model pgm w) A (call (.ref 51) [.str x tx]) Q E s := by
  obtain ⟨h, g, d, t, os⟩ := s
  have X := G.kin
  obtain ⟨nm, q, bs, sn, sub, ab, col, dd, k0, k1, k2, k3, k5, hC⟩ := refusal_cls X
  have f1 := tc_lookup
  have f2 := tc_bind (.ref 51)
  have hT : (⟨h, g, d, t, os⟩ : Shared).TypeIs (.ref 51) "type" := ⟨_, hC, rfl⟩
  refine wpAny_call (codeAny_of_tree ?_)
  show wpAny _ _ (callAny (.ref 51) _) _ _ _
  repeat (any_goals (first | with_reducible assumption | with_reducible refine wpAny_loadPart_at hC ?_ | wp_step))
  refine ⟨rfl, ?_⟩
  refine codeAny_call_builtin_at (Code.quiet_builtin _ (by decide +kernel)) entry_typeCall (wpAny_check_type_call_sub hC (type_call_refusal X (fun h' e hm => ?_) (by show 1 ≤ sizeLine; decide)))
  obtain ⟨t0, h1, h2, h3⟩ := hm.there
  have st : h.StaysIn (hideAll h' [e]) := fun b o q => hideAll_get [e] (hm.keeps b o q) fun z => by rw [List.mem_singleton.mp z, hm.new] at q; cases q
  refine wpAny_call (refusal_init_walk (Gd.keeps G.under st) h1 fun h₂ tk D a b c dn k => ⟨rfl, ?_⟩)
  refine hq h₂ tk e D t0 ⟨fun b o q => k b o (fun z => by rw [z, hm.new] at q; cases q) (hm.keeps b o q), hm.new, a, b, c, ?_⟩
  cases q : h.get? D with
  | none => rfl
  | some o => rw [show h'.get? D = some o from hm.keeps D o q] at dn; cases dn

end
section
/-- the value of a raise statement's expression -/
def RaiseAt (w : World) (E : Value → Shared → Prop) (v : Value) (s₁ : Shared) : Prop := ∃ e t D, v = .ref e ∧ (hd.heap_39 w.params).In s₁.heap ∧ s₁.heap.get? e = some (excO t (some D)) ∧ E (.ref e) s₁

theorem raiseStmt_made {w : World} {M : Model} {A : Around} {E : Value → Shared → Prop} {s : Shared} {env : Env} {x : Sem Value} {Q : Flow → Shared → Prop} (hh : A.handled = none) (h : wpAny M A x (fun v s₁ => RaiseAt w E v s₁) E s) :
    wpAny M A (raiseStmt env (some x) none) Q E s := by
  have hcB : (Value.ref 51 :: .ref 31 :: bmE).contains (.type "BaseException") = true := by decide +kernel
  unfold raiseStmt
  refine wpAny_bind (wpAny_mono h (fun v s₁ h₁ => ?_) fun _ _ x => x)
  obtain ⟨e, t, D, rfl, X, he, hE⟩ := h₁
  obtain ⟨hp, g, d, tk, os⟩ := s₁
  obtain ⟨nm, q, bs, sn, sub, ab, col, dd, k0, k1, k2, k3, k5, hC⟩ := refusal_cls X
  repeat (first | with_reducible refine wpAny_loadPart_at he ?_ | with_reducible refine wpAny_loadPart_at hC ?_ | (with_reducible refine wpAny_isSubtype_exc hC ?_; rw [hcB]) | wp_step)
  exact wpAny_raiseNew_none hh hE

theorem Raise_eval {w : World} {A : Around} {E : Value → Shared → Prop} {s : Shared} {env : Env} {ex : Expr} {pos : Pos} {Q : Flow → Shared → Prop} (hh : A.handled = none) (h : wpAny (model pgm w) A (eval ex env) (fun v s₁ => RaiseAt w E v s₁) E s) :
    wpAny (model pgm w) A (exec (.Raise (some ex) none pos) env) Q E s := by
  rw [arm_exec_Raise]
  refine wpAny_bind (wpAny_standAt (raiseStmt_made (w := w) hh ?_))
  exact wpAny_bind (wpAny_mono h (fun v s₃ h₃ => wpAny_bind (wpAny_standAt (wpAny_pure h₃))) fun _ _ x => x)

end
section
/-- a Refusal in flight, its dict D -/
def FlyX (B : Heap) (envs : List Env) (e D : Addr) (h : Heap) : Prop := (∃ a0, Heap.FlyingW B envs e (.ref 51) a0 h) ∧ Dk e (some D) h

def RaisedR (envs : List Env) (s : Shared) (x : Str) (r : Result) (s' : Shared) : Prop :=
  ∃ e D t tk B h', r = .error (.ref e) ∧ s' = { s with heap := h', toks := tk } ∧ FlyX B envs e D h' ∧ (∀ b o, s.heap.get? b = some o → (∀ env ∈ envs, env.frame ≠ some b) → B.get? b = some o) ∧ MsgAt B D (.str x t) ∧ s.heap.UpToSlots h'

theorem leave_made {w : World} {dep : Nat} {envs : List Env} {grd : Option (List Code)} {unt : Nat} {base h : Heap} {L : Addr} {m : Str → Option Value} {env : Env} {s₀ : Shared} {e D t0 : Addr} {x : Str} {tx : Tok} {tk : Nat} {h' : Heap}
    {Q : Unit → Shared → Prop} {E : Value → Shared → Prop}
    (B : Below (Ar dep envs grd unt) base envs s₀.heap) (F : Fr s₀.heap L h m) (hf : env.frame = some L) (hk : env.scope.kind = .function) (M : ExcMade h h' e D t0 x tx)
    (hQ : ∀ h'' tk, RaisedR envs s₀ x (.error (.ref e)) { s₀ with heap := h'', toks := tk } → Q () { s₀ with heap := h'', toks := tk }) :
    wpAny (model pgm w) ((Ar dep envs grd unt).deeper env) (leaving env (.ref e)) Q E { s₀ with heap := h', toks := tk } := by
  have B₁ := pushX B F hf hk
  have hmem : ∀ en ∈ env :: envs, ∀ a, en.frame = some a → a ∈ e :: (env :: envs).filterMap (·.frame) := fun en he a ha => .tail _ (List.mem_filterMap.mpr ⟨en, he, ha⟩)
  have fr' : h'.FunFrames (hideAll h' (e :: (env :: envs).filterMap (·.frame))) (env :: envs) :=
    funFrames_hide (base := base) (B₁.frames.of_keeps fun b o q _ => ⟨o, M.keeps b o q, rfl⟩) hmem
  have st : (hideAll h' (e :: (env :: envs).filterMap (·.frame))).StaysIn h' := fun b o q => of_hideAll _ q
  have hd0 : Dk e (some D) h' := ⟨_, (Heap.get?_some_iff.mp M.obj).1, rfl⟩
  refine wpAny_mono (soft_any (soft_leaving (.ref e) env) hd0 (wpAny_leaving_firstW (E := fun _ _ => False) (Q := fun _ s' => ∃ h'', s' = { s₀ with heap := h'', toks := tk } ∧ Heap.LeftW (hideAll h' (e :: (env :: envs).filterMap (·.frame))) (env :: envs) e (.ref 51) (.ref t0) h' h'')
    (a0 := .ref t0) B₁.stack fr' hf M.obj st (hideAll_none _ (.head _)) rfl rfl rfl fun h'' hl => ⟨h'', rfl, hl⟩)) ?_ fun _ _ z => z.1.elim
  rintro - s' ⟨⟨h'', rfl, k1, ⟨_, _, k2⟩, k3, k4⟩, hd⟩
  refine hQ h'' tk ⟨e, D, tx, tk, _, h'', rfl, rfl, ⟨⟨_, k1, hideAll_none _ (.head _), k2, k3⟩, hd⟩, fun b o hb hne => ?_, ?_, ?_⟩
  · refine hideAll_get _ (M.keeps b o (F.keep b o hb)) fun hm => ?_
    rcases List.mem_cons.mp hm with z | z
    · rw [z] at hb; have := F.keep _ _ hb; rw [M.new] at this; cases this
    · obtain ⟨en, he, hfe⟩ := List.mem_filterMap.mp z
      rcases List.mem_cons.mp he with rfl | he
      · rw [hf] at hfe
        have := Heap.lt_size hb
        rw [← Option.some.inj hfe] at this
        exact Nat.lt_irrefl _ (Nat.lt_of_lt_of_le this F.above)
      · exact hne en he hfe
  · obtain ⟨mD, ⟨o, es, ep, a1, a2⟩, a3⟩ := M.msg
    refine ⟨mD, ⟨o, es, ep, hideAll_get _ a1 fun hm => ?_, a2⟩, a3⟩
    rcases List.mem_cons.mp hm with z | z
    · exact M.ne z
    · obtain ⟨_, o', ho', _⟩ := B₁.frames.mem z
      rw [M.newD] at ho'; cases ho'
  · exact (Heap.UpToSlots.of_keeps F.keep).trans ((Heap.UpToSlots.of_keeps M.keeps).trans k4)

end
section
abbrev Ent := Option Str × Int
def TagV (v : Value) : Option Str → Prop
  | none => v = .none
  | some s => ∃ t, v = .str s t
/-- the rows: a list of pairs of a tag and an item -/
def RowsAt (w : World) (h : Heap) (a : Addr) (ents : List Ent) : Prop :=
  ∃ vs : List Value, h.IsList a vs.toArray ∧ vs.length = ents.length ∧ ∀ (i : Nat) (e : Ent), ents[i]? = some e → ∃ p x tv, vs[i]? = some (.ref p) ∧ IsTup h p #[tv, .ref x] ∧ TagV tv e.1 ∧ ItemAt w h x e.2
theorem RowsAt.keeps {w : World} {h h' : Heap} {a : Addr} {ents : List Ent} (k : h.StaysIn h') : RowsAt w h a ents → RowsAt w h' a ents := fun ⟨vs, hl, hn, hi⟩ =>
  ⟨vs, hl.at fun o e => k a o e, hn, fun i e he => let ⟨p, x, tv, h1, h2, h3, h4⟩ := hi i e he; ⟨p, x, tv, h1, h2.keeps k, h3, h4.keeps k⟩⟩

def OutR (envs : List Env) (s : Shared) (P : Value → Heap → Prop) (x : Str) (C : Prop) (r : Result) (s' : Shared) : Prop := PureR s P r s' ∨ (C ∧ RaisedR envs s x r s')

theorem OutR.intro {envs : List Env} {x : Str} {C : Prop} {s : Shared} {P : Value → Heap → Prop} {v : Value} {L : Addr} {h' : Heap} {m : Str → Option Value} {tk : Nat} (F : Fr s.heap L h' m) (hP : EndP P v h') :
    OutR envs s P x C (.ok (.ret v)) { s with heap := h', toks := tk } := .inl (PureR.intro F hP)

theorem enterR {n : Nat} {w : World} {dep : Nat} {envs : List Env} {grd : Option (List Code)} {unt : Nat} {base : Heap} {p : Program} {loose : List Str} {mean : ExcName → Option Value} {mg mb : Str → Option Value}
    {s : Shared} {name qual : Str} {params : Arguments} {body : List Stmt} {scope : Scope} {dV kV doc pm cdv ct oc : Value} {an od : Option Addr} {osl : Array (Option Value)} {f : Addr}
    {args : List Value} {binds : List (Str × Value)} {R : Result → Shared → Prop}
    (G : Wk n w dep envs grd unt base p loose mean mg mb s.heap)
    (ho : (hd.heap_39 w.params).lookup f = some ⟨oc, od, .func (fnOf name qual params body scope dV kV doc pm an cdv ct), osl⟩) (hcd : codeIn (hd.heap_39 w.params) cdv qual = true)
    (hbind : BindsTo s (fnOf name qual params body scope dV kV doc pm an cdv ct) ⟨args, []⟩ binds) (hloc : ∀ y ∈ binds, scope.names.lookup y.1 = some .local)
    (hco : scope.isCoroutine = false) (hgen : scope.isGenerator = false) (hk : scope.kind = .function)
    (hcell : ∀ x ∈ scope.names, x.2 ≠ .cell)
    (h : ∀ h₁, Fr s.heap s.heap.objs.size h₁ (fun y => binds.reverse.lookup y) → News s.heap s.heap.objs.size h₁ [] →
      wpAny (model pgm w) ((Ar dep envs grd unt).deeper (envOf qual scope s.heap.objs.size f cdv)) (execs body (envOf qual scope s.heap.objs.size f cdv))
        (fun fl s' => R (.ok (.ret (match fl with | .ret v => v | _ => .none))) s')
        (fun e s' => wpAny (model pgm w) ((Ar dep envs grd unt).deeper (envOf qual scope s.heap.objs.size f cdv)) (leaving (envOf qual scope s.heap.objs.size f cdv) e) (fun _ s'' => R (.error e) s'') (fun e' s'' => R (.error e') s'') s')
        { s with heap := h₁, toks := s.toks + binds.length }) : codeAny (model pgm w) (Ar dep envs grd unt) (.call (.ref f) ⟨args, []⟩) R s := by
  refine codeAny_call_def (fd := fnOf name qual params body scope dV kV doc pm an cdv ct) (body := body) (binds := binds) (Nat.lt_of_le_of_lt (Nat.le_trans (Nat.le_add_right _ _) G.d) (by decide)) (G.X _ _ ho) rfl G.T.nolimit (codeRec_of G.X hcd) rfl hbind hcell hloc (fun h₁ hns hk₁ => ?_) hco hgen hk
  exact h h₁ ⟨hns, hk₁, Nat.le_refl _⟩ News.nil

/-- the end of a raise in a walked frame -/
theorem raise_end {w : World} {dep : Nat} {envs : List Env} {grd : Option (List Code)} {unt : Nat} {base h : Heap} {L : Addr} {m : Str → Option Value} {env : Env} {s₀ : Shared} {e D t0 : Addr} {x : Str} {tx : Tok} {tk : Nat} {h' : Heap}
    {P : Value → Heap → Prop} {C : Prop}
    (B : Below (Ar dep envs grd unt) base envs s₀.heap) (F : Fr s₀.heap L h m) (X : (hd.heap_39 w.params).In s₀.heap) (M : ExcMade h h' e D t0 x tx) (hf : env.frame = some L) (hk : env.scope.kind = .function) (hC : C) :
    RaiseAt w (fun e s' => wpAny (model pgm w) ((Ar dep envs grd unt).deeper env) (leaving env e) (fun _ s'' => OutR envs s₀ P x C (.error e) s'') (fun e' s'' => OutR envs s₀ P x C (.error e') s'') s') (.ref e) { s₀ with heap := h', toks := tk } :=
  ⟨e, t0, D, rfl, (X.keeps F.keep).keeps M.keeps, M.obj, leave_made (w := w) B F hf hk M fun _ _ r => .inr ⟨hC, r⟩⟩

theorem Gd.elimA {n : Nat} {w : World} {A : Around} {h : Heap} {C : Around → Prop} (G : Gd n w A h) (k : ∀ dep envs grd unt base p loose mean mg mb, Wk n w dep envs grd unt base p loose mean mg mb h → C (Ar dep envs grd unt)) : C A := Gd.elim G k

def RaiseCall (w : World) (A : Around) (f : Addr) (args : List Value) (s : Shared) (P : Value → Heap → Prop) (x : Str) (C : Prop) : Prop :=
  ∀ envs, A.frames = some envs → codeAny (model pgm w) A (.call (.ref f) ⟨args, []⟩) (OutR envs s P x C) s
theorem Gd.elimR {n : Nat} {w : World} {A : Around} {f : Addr} {args : List Value} {s : Shared} {P : Value → Heap → Prop} {x : Str} {C : Prop} (G : Gd n w A s.heap)
    (k : ∀ dep envs grd unt base p loose mean mg mb, Wk n w dep envs grd unt base p loose mean mg mb s.heap → codeAny (model pgm w) (Ar dep envs grd unt) (.call (.ref f) ⟨args, []⟩) (OutR envs s P x C) s) : RaiseCall w A f args s P x C :=
  Gd.elim (C := fun A => RaiseCall w A f args s P x C) G fun dep envs grd unt base p loose mean mg mb W envs' he => by cases he; exact k dep envs grd unt base p loose mean mg mb W

theorem list_of_baseL {h₀ h : Heap} {L l : Addr} {m : Str → Option Value} {its : Array Value} (F : Fr h₀ L h m) (hl : h₀.IsList l its) : h.IsList l its := hl.at fun o e => F.keep l o e
theorem len_base {w : World} {A : Around} {E : Value → Shared → Prop} {s : Shared} {h₀ : Heap} {L l : Addr} {m : Str → Option Value} {vs : List Value} {n : Nat} {Q : Value → Shared → Prop} (F : Fr h₀ L s.heap m) (hl : h₀.IsList l vs.toArray) (hn : vs.length = n) (h2 : n ≤ 100)
    (h : Q (.int n (s.toks + 1)) { s with toks := s.toks + 1 + 1 }) : wpAny (model pgm w) A (call (.builtin "len") [.ref l]) Q E s := by
  have e : vs.toArray.size = n := by rw [List.size_toArray]; exact hn
  refine Calls.call_len_list (list_of_baseL F hl) (by rw [e]; omega) ?_
  rw [e]; exact h

end
theorem lines_b_Y1 : True := by
  k_with "my OutR" => ((refine OutR.intro (by with_reducible assumption) ?_))
  k_with "my exec Raise some none" => ((refine Raise_eval rfl ?_))
  k_with "my call ref" => (((with_reducible show wpAny _ _ (call (Value.ref 51) [Value.str _ _] []) _ _ _); (refine call_refusal (by k_extra "my m wk") ?_); intro _ _ _ _ _ _))
  k_with "my call builtin:len" => ((k_here; (with_reducible show wpAny _ _ (call (Value.builtin "len") [Value.ref _]) _ _ _); (refine len_base (by with_reducible assumption) (by with_reducible assumption) (by with_reducible assumption) (by omega) ?_)))
  k_with "my mine sub" => ((k_here; (with_reducible show wpAny _ _ (subscriptTail _ _ (Value.ref _) (Value.int _ _)) _ _ _); (with_unfolding_all refine' item_list ?k1 ?k2 ?k3 ?k4 ?_ ?k6; (case k1 => exact list_of_baseL (by with_reducible assumption) (by with_reducible assumption)); (case k2 => first | decide | omega); (case k3 => first | decide | omega); (case k4 => first | with_reducible assumption | rfl); (case k6 => with_unfolding_all rfl); k_whole)))
  k_with "my RaiseAt" => ((refine raise_end (by with_reducible assumption) (by with_reducible assumption) (by with_reducible assumption) (by with_reducible assumption) rfl rfl ?_))
  trivial
section
theorem row_number {w : World} {A : Around} {s : Shared} (G : Gd 6 w A s.heap) {a : Addr} {ents : List Ent} {k : Int} {tk : Tok} (hr : RowsAt w s.heap a ents) (hk1 : -10000000000 < k) (hk2 : k < 10000000000) (hen : ents.length ≤ 100) :
    RaiseCall w A 67 [.ref a, .int k tk] s (fun v h' => (k < 1 ∨ (ents.length : Int) < k) ∧ v = .none ∨ ∃ e x, 1 ≤ k ∧ ents[(k - 1).toNat]? = some e ∧ e.2 ≠ 0 ∧ v = .ref x ∧ VecAt w h' x e.2)
      "empty alternative in numeric switch" (∃ e, 1 ≤ k ∧ ents[(k - 1).toNat]? = some e ∧ e.2 = 0) := by
  obtain ⟨vs, hl, hn, hi⟩ := hr
  with_reducible rename Gd _ _ _ _ => Gq
  refine' Gd.elimR Gq ?_
  intro depq envsq grdq untq baseq pq looseq meanq mgq mbq Wq
  clear Gq
  refine' enterR Wq ?ho ?hcd ?hb ?hl ?c1 ?c2 ?c3 ?c4 ?_
  (case ho => k_is); (case hcd => k_is); (case hb => exact BindsTo.of_eq rfl); (case hl => exact locs rfl); (case c1 => exact rfl); (case c2 => exact rfl); (case c3 => exact rfl); (case c4 => decide)
  obtain ⟨Bq, BWq, KXq, Tq, hdepq, hunq⟩ := Wq
  intro hq₁ Fq Nq
  try dsimp only
  by_cases hk : k < 1 ∨ (ents.length : Int) < k
  · k_steps
    · exact .inl ⟨hk, rfl⟩
    · exact .inl ⟨hk, rfl⟩
  · have hlt : (k - 1).toNat < ents.length := by omega
    have he : ents[(k - 1).toNat]? = some ents[(k - 1).toNat] := by simp
    obtain ⟨pp, x, tv, h1, h2, h3, h4⟩ := hi _ _ he
    have h1' : vs.toArray[(k - 1).toNat]? = some (.ref pp) := by rw [List.getElem?_toArray]; exact h1
    rcases h4 with ⟨hz, dd, t1, t2, t3, m1, m2⟩ | ⟨hz, dd, l, t1, t2, t3, t4, t5, t6, tk', m1, m2, m3⟩
    · k_steps
      all_goals exact ⟨_, by omega, he, hz⟩
    · k_steps
      exact .inr ⟨_, _, by omega, he, hz, rfl, _, _, _, _, _, _, _, _, _, by (with_reducible rename Fr _ _ _ _ => F2; exact F2.keep _ _ m1), by (with_reducible rename Fr _ _ _ _ => F2; exact F2.keep _ _ m2), by (with_reducible rename Fr _ _ _ _ => F2; exact F2.keep _ _ m3)⟩

end
section
/-- nothing that stood is turned but the slots of the frames on the stack -/
def SoftStays (envs : List Env) (h h' : Heap) : Prop := (∀ b o, h.get? b = some o → (∀ env ∈ envs, env.frame ≠ some b) → h'.get? b = some o) ∧ h.UpToSlots h'

theorem caught_refusal {w : World} {dep : Nat} {envs : List Env} {grd : Option (List Code)} {unt : Nat} {base h₁ : Heap} {L a e : Addr} {m : Str → Option Value} {cn : Str} {cs : Scope} {cd : Value} {s₀ s' : Shared} {tk₁ : Nat} {x : Str} {np p1 p2 p3 pos : Pos}
    {rest : List ExceptHandler} {Q : Flow → Shared → Prop} {E : Value → Shared → Prop}
    (B : Below (Ar dep envs grd unt) base envs s₀.heap) (BW : BaseOk w base) (F : Fr s₀.heap L h₁ m) (hR : RaisedR (envOf cn cs L a cd :: envs) { s₀ with heap := h₁, toks := tk₁ } x (.error (.ref e)) s')
    (hk : cs.kind = .function) (hlo : (envOf cn cs L a cd).kindOf "refusal" = some .local) (hx : (envOf cn cs L a cd).kindOf "Refusal" = some .globalImplicit)
    (hQ : ∀ h'' tk t, SoftStays envs s₀.heap h'' → Q (.ret (.str x t)) { s₀ with heap := h'', toks := tk }) :
    wpAny (model pgm w) ((Ar dep envs grd unt).deeper (envOf cn cs L a cd)) (noteFrame (.ref e) (envOf cn cs L a cd))
      (fun _ s₂ => wpAny (model pgm w) ((Ar dep envs grd unt).deeper (envOf cn cs L a cd)) (setFlight (.ref e) none) (fun _ s₃ =>
        wpAny (model pgm w) ((Ar dep envs grd unt).deeper (envOf cn cs L a cd)) (handleBy (.ref e) (envOf cn cs L a cd)
          (.ExceptHandler (some (.Name "Refusal" np)) (some "refusal") [.Return (some (.Attribute (.Name "refusal" p1) "message" p2)) p3] pos :: rest)) Q E s₃) E s₂) E s' := by
  obtain ⟨e', D, t, tk, Bh, h', he', rfl, ⟨⟨a0, hfl⟩, hd⟩, hBh, hmsg, hup⟩ := hR
  cases he'
  have stk : ((Ar dep envs grd unt).deeper (envOf cn cs L a cd)).frames = some (envOf cn cs L a cd :: envs) := rfl
  have hp : ((envOf cn cs L a cd).scope.kind == .class || ((envOf cn cs L a cd).scope.kind == .module && (envOf cn cs L a cd).locals != (envOf cn cs L a cd).globals)) = false := by
    show (cs.kind == .class || (cs.kind == .module && L != mainGlobals)) = false; rw [hk]; rfl
  -- L stands neither in the base nor beneath
  have hL : Bh.get? L = none := by
    obtain ⟨_, ⟨L', _, hf, hn', _⟩, _⟩ := hfl.2.2.1
    obtain rfl : L = L' := Option.some.inj hf
    exact hn'
  have hL0 : s₀.heap.get? L = none := by
    cases q : s₀.heap.get? L with
    | none => rfl
    | some o => exact absurd (Nat.lt_of_lt_of_le (Heap.lt_size q) F.above) (Nat.lt_irrefl _)
  have up0 : ∀ b o, s₀.heap.get? b = some o → (∀ env ∈ envs, env.frame ≠ some b) → Bh.get? b = some o := fun b o q hne => by
    refine hBh b o (F.keep b o q) fun en hen => ?_
    rcases List.mem_cons.mp hen with rfl | hen
    · intro z; rw [← Option.some.inj (z : some L = some b), hL0] at q; cases q
    · exact hne en hen
  have upB : base.StaysIn Bh := fun b o q => up0 b o (B.stays b o q) fun en hen z => by
    have := (B.frames.mem (List.mem_filterMap.mpr ⟨en, hen, z⟩)).1
    rw [this] at q; cases q
  have hC51 := refusal_cls BW.X
  obtain ⟨pp, loose, mean, mg, mb, T⟩ := BW.T
  refine wpAny_mono (soft_any (soft_noteFrame (.ref e) (envOf cn cs L a cd)) hd (wpAny_looks_onW (E := fun _ _ => False) (Q := fun _ s₂ => ∃ h₂, s₂ = { s₀ with heap := h₂, toks := tk } ∧ Heap.HeldW Bh (envOf cn cs L a cd :: envs) e (.ref 51) a0 L h₂ ∧ h'.UpToSlots h₂)
    stk rfl hfl fun h₂ q r => ⟨h₂, rfl, q, r⟩)) ?_ fun _ _ z => z.1.elim
  rintro - s₂ ⟨⟨h₂, rfl, hheld, hup2⟩, hd2⟩
  refine wpAny_mono (soft_any (soft_setFlight (.ref e) none) hd2 (wpAny_landsW (E := fun _ _ => False) (Q := fun _ s₂ => ∃ h₃, s₂ = { s₀ with heap := h₃, toks := tk } ∧ Heap.FlyingW Bh (envOf cn cs L a cd :: envs) e (.ref 51) a0 h₃ ∧ h₂.UpToSlots h₃)
    hheld fun h₃ q r => ⟨h₃, rfl, q, r⟩)) ?_ fun _ _ z => z.1.elim
  rintro - s₃ ⟨⟨h₃, rfl, hfl3, hup3⟩, hd3⟩
  have k3 : base.StaysIn h₃ := fun b o q => hfl3.1 b o (upB b o q)
  refine wpAny_handleBy_cons (codeAny_handlers_test (Name_function_global hk hx (loadGlobal_global (env := envOf cn cs L a cd) (T.g.keeps k3) (mg_of BW.X T.g (v := .ref 51) (by k_is)) ?_))) (by intro q; cases q)
  obtain ⟨nm, q, bs, sn, sub, ab, col, dd, k0, k1, k2, k3', k5, hC⟩ := hC51
  obtain ⟨ob, hob, hcls⟩ := hfl3.there
  refine wpAny_excMatches_sub_self (k3 _ _ hC) hob hcls (by decide +kernel) (codeAny_handlers_suite_as ?_)
  refine wpAny_mono (soft_any (soft_setFlight (.ref e) none) hd3 (lands_againW (E := fun _ _ => False) (Q := fun _ s₂ => ∃ h₄, s₂ = { s₀ with heap := h₄, toks := tk } ∧ Heap.FlyingW Bh (envOf cn cs L a cd :: envs) e (.ref 51) a0 h₄ ∧ h₃.UpToSlots h₄)
    hfl3 fun h₄ q r => ⟨h₄, rfl, q, r⟩)) ?_ fun _ _ z => z.1.elim
  rintro - s₄ ⟨⟨h₄, rfl, hfl4, hup4⟩, hd4⟩
  have hupA : h₁.UpToSlots h₄ := ((hup.trans hup2).trans hup3).trans hup4
  refine wpAny_storeName_local hlo (hupA.ns F.ns) (fun h₅ hn₅ hs₅ => ?_) hp
  obtain ⟨oe, vs, hoe, hoec, hoed, _⟩ := hfl4.first
  have heL : e ≠ L := by
    rintro rfl
    obtain ⟨o, es, ep, ho, hdt, _⟩ := hupA.ns F.ns
    rw [hoe] at ho; cases ho; rw [hoed] at hdt; cases hdt
  have k5' : Bh.StaysIn h₅ := fun b o q => (hs₅.2 b (fun z => by have z' : b = L := z; rw [z', hL] at q; cases q)).trans (hfl4.1 b o q)
  have hdict : oe.dict = some D := by
    obtain ⟨o, ho, hdo⟩ := hd4
    have := (Heap.get?_some_iff.mp hoe).1
    rw [ho] at this
    obtain rfl := Option.some.inj this
    exact hdo
  refine wpAny_execs_cons (wpAny_Return_some (Attribute_name (wpAny_Name (wpAny_loadName_local (v := .ref e) hk hlo hn₅ (if_pos rfl) ?_))))
  refine exc_get (BW.X.keeps fun b o q => k5' b o (upB b o q)) ((hs₅.2 e heL).trans hoe) hoec hoed hdict (hmsg.keeps k5') ?_
  refine wpAny_nameGoes hlo hn₅ hp fun h₆ m' hn₆ hs₆ => hQ h₆ _ t ⟨fun b o q hne => ?_, ?_⟩
  · have hbL : b ≠ L := by rintro rfl; rw [hL0] at q; cases q
    exact (hs₆.2 b hbL).trans (k5' b o (up0 b o q hne))
  · intro b o q hnf
    have hbL : b ≠ L := by rintro rfl; rw [hL0] at q; cases q
    obtain ⟨sl, hsl⟩ := hupA b o (F.keep b o q) hnf
    exact ⟨sl, (hs₆.2 b hbL).trans ((hs₅.2 b hbL).trans hsl)⟩

end
section
def SoftR (envs : List Env) (s : Shared) (P : Value → Heap → Prop) (r : Result) (s' : Shared) : Prop :=
  ∃ v h' tk, r = .ok (.ret v) ∧ s' = { s with heap := h', toks := tk } ∧ SoftStays envs s.heap h' ∧ P v h'
def SoftCall (w : World) (A : Around) (f : Addr) (args : List Value) (s : Shared) (P : Value → Heap → Prop) : Prop :=
  ∀ envs, A.frames = some envs → codeAny (model pgm w) A (.call (.ref f) ⟨args, []⟩) (SoftR envs s P) s
theorem Gd.elimS {n : Nat} {w : World} {A : Around} {f : Addr} {args : List Value} {s : Shared} {P : Value → Heap → Prop} (G : Gd n w A s.heap)
    (k : ∀ dep envs grd unt base p loose mean mg mb, Wk n w dep envs grd unt base p loose mean mg mb s.heap → codeAny (model pgm w) (Ar dep envs grd unt) (.call (.ref f) ⟨args, []⟩) (SoftR envs s P) s) : SoftCall w A f args s P :=
  Gd.elim (C := fun A => SoftCall w A f args s P) G fun dep envs grd unt base p loose mean mg mb W envs' he => by cases he; exact k dep envs grd unt base p loose mean mg mb W
theorem SoftR.intro {envs : List Env} {s : Shared} {P : Value → Heap → Prop} {v : Value} {L : Addr} {h' : Heap} {m : Str → Option Value} {tk : Nat} (F : Fr s.heap L h' m) (hP : EndP P v h') :
    SoftR envs s P (.ok (.ret v)) { s with heap := h', toks := tk } := ⟨v, h', tk, rfl, rfl, ⟨fun b o q _ => F.keep b o q, Heap.UpToSlots.of_keeps F.keep⟩, hP⟩
theorem RaiseCall.use {w : World} {A : Around} {f : Addr} {args : List Value} {s : Shared} {P : Value → Heap → Prop} {x : Str} {C : Prop} {envs : List Env} {h₀ : Heap} {L : Addr} {m : Str → Option Value} {news : List (Addr × Obj)}
    {Q : Value → Shared → Prop} {E : Value → Shared → Prop} (hp : RaiseCall w A f args s P x C) (hA : A.frames = some envs) (F : Fr h₀ L s.heap m) (N : News h₀ L s.heap news)
    (hok : ∀ v h' tk, P v h' → s.heap.StaysIn h' → Fr h₀ L h' m → News h₀ L h' news → Q v { s with heap := h', toks := tk }) (herr : ∀ e s', C → RaisedR envs s x (.error (.ref e)) s' → E (.ref e) s') :
    wpAny (model pgm w) A (call (.ref f) args []) Q E s := by
  refine wpAny_call (codeAny_mono (hp envs hA) ?_)
  rintro r s' (⟨v, h', tk, rfl, rfl, k, hP⟩ | ⟨hC, hR⟩)
  · exact hok v h' tk hP k ⟨F.ns.keeps k, fun b o e => k b o (F.keep b o e), F.above⟩ fun p hp => ⟨k _ _ (N p hp).1, (N p hp).2⟩
  · obtain ⟨e, _, _, _, _, _, rfl, _⟩ := id hR
    exact herr e s' hC hR
def numRes (ents : List Ent) (k : Int) : Int ⊕ Str :=
  if k < 1 ∨ (ents.length : Int) < k then .inr "none" else match ents[(k - 1).toNat]? with
    | some e => if e.2 = 0 then .inr "empty alternative in numeric switch" else .inl e.2
    | none => .inr "none"
def HoldG (p : Prop) : Prop := p
theorem HoldG.mk {p : Prop} (h : HoldG p) : p := h

end
theorem lines_b_Z2 : True := by
  k_with "my SoftR" => ((refine SoftR.intro (by with_reducible assumption) ?_))
  k_with "my call ref" => (((with_reducible show wpAny _ _ (call (Value.ref 159) _ []) _ _ _); k_dflt (first
  | refine PureCall.use (shown_none (by k_extra "my m wk")) (by with_reducible assumption) (by with_reducible assumption) ?_
  | refine PureCall.use (shown_vec (by k_extra "my m wk") (by with_reducible assumption)) (by with_reducible assumption) (by with_reducible assumption) ?_
  | refine PureCall.use (shown_miss (by k_extra "my m wk") (by with_reducible assumption)) (by with_reducible assumption) (by with_reducible assumption) ?_); intro _ _ _ _ _ _ _))
  k_with "my call ref" => (((with_reducible show wpAny _ _ (call (Value.ref 67) _ []) _ _ _); k_dflt (refine RaiseCall.use (row_number (by k_extra "my m wk") (RowsAt.keeps (Fr.keep (by with_reducible assumption)) (by with_reducible assumption)) (by omega) (by omega) (by omega)) rfl (by with_reducible assumption) (by with_reducible assumption) (fun _ _ _ _ _ _ _ => HoldG.mk ?_) (fun _ _ _ _ => HoldG.mk ?_))))
  trivial
section
theorem by_number {w : World} {A : Around} {s : Shared} (G : Gd 9 w A s.heap) {a : Addr} {ents : List Ent} {k : Int} {tk : Tok} (hr : RowsAt w s.heap a ents) (hk1 : -10000000000 < k) (hk2 : k < 10000000000) (hen : ents.length ≤ 100) :
    SoftCall w A 173 [.ref a, .int k tk] s (fun v _ => IsRes v (numRes ents k)) := by
  with_reducible rename Gd _ _ _ _ => Gq
  refine' Gd.elimS Gq ?_
  intro depq envsq grdq untq baseq pq looseq meanq mgq mbq Wq
  clear Gq
  refine' enterR Wq ?ho ?hcd ?hb ?hl ?c1 ?c2 ?c3 ?c4 ?_
  (case ho => k_is); (case hcd => k_is); (case hb => exact BindsTo.of_eq rfl); (case hl => exact locs rfl); (case c1 => exact rfl); (case c2 => exact rfl); (case c3 => exact rfl); (case c4 => decide)
  obtain ⟨Bq, BWq, KXq, Tq, hdepq, hunq⟩ := Wq
  intro hq₁ Fq Nq
  try dsimp only
  k_steps
  · rename_i hP _ _ _
    unfold HoldG
    unfold numRes
    rcases hP with ⟨hk, rfl⟩ | ⟨e, x, h1, h2, h3, rfl, h5⟩
    · rw [if_pos hk]
      k_steps
      with_reducible rename IsRes _ _ => hi
      exact hi
    · rw [if_neg (by have := (List.getElem?_eq_some_iff.mp h2).1; omega), h2]
      dsimp only
      rw [if_neg h3]
      k_steps
      with_reducible rename IsRes _ _ => hi
      exact hi
  · rename_i hC hR
    unfold HoldG
    unfold numRes
    obtain ⟨e, h1, h2, h3⟩ := hC
    rw [if_neg (by have := (List.getElem?_eq_some_iff.mp h2).1; omega), h2]
    dsimp only
    rw [if_pos h3]
    with_reducible rename RaisedR _ _ _ _ _ => hRq
    refine caught_refusal (by with_reducible assumption) (by with_reducible assumption) (by with_reducible assumption) hRq (by rfl) (by rfl) (by rfl) ?_
    intro hq tkq tq hSq
    exact ⟨_, _, _, rfl, rfl, by with_reducible assumption, _, rfl⟩

end
section
/-- a loop whose turns leave the ledger as it is -/
theorem walk_loop {w : World} {A : Around} {E : Value → Shared → Prop} {s : Shared} {env : Env} {h₀ : Heap} {x : Str} {body : List Stmt} {Q : Flow → Shared → Prop} {I : Addr} {fp wr : List Addr} {n : Nat} {P : Nat → Value → Prop} {St : Nat → Heap → Prop}
    {m₀ : Str → Option Value} {news : List (Addr × Obj)} (J : Nat → (Str → Option Value) → Prop)
    (W : Walks pgm w A I fp wr n P St) (hLf : env.locals ∉ fp) (hwr : ∀ b ∈ wr, h₀.get? b = none) (hnw : ∀ p ∈ news, p.1 ∉ wr) (hst : St 0 s.heap) (F : Fr h₀ env.locals s.heap m₀) (N : News h₀ env.locals s.heap news) (hj : J 0 m₀)
    (turn : ∀ i v m₁ h tk own, i < n → P i v → J i m₁ → Fr h₀ env.locals h (fun y => if y = x then some v else m₁ y) → News h₀ env.locals h (own ++ news) →
      wpAny (model pgm w) A (execs body env) (InvPost h₀ env.locals (J (i + 1)) (own ++ news) { s with heap := h, toks := tk } Q) E { s with heap := h, toks := tk })
    (done : ∀ m₁ h tk, J n m₁ → Fr h₀ env.locals h m₁ → News h₀ env.locals h news → Q .next { s with heap := h, toks := tk }) :
    LoopAtV pgm w A h₀ env x body Q E (.ref I) s := by
  refine ⟨I, fp, wr, n, P, St, m₀, news, fun i m₁ news₁ => news₁ = news ∧ J i m₁, rfl, W, hLf, hwr, hnw, hst, F, N, ⟨rfl, hj⟩, ?_, ?_⟩
  · rintro i v m₁ news₁ s₁ own ⟨hh', tk', rfl⟩ hin hP ⟨rfl, hJ⟩ hoff hown _ _ _ F₁ N₁
    refine wpAny_mono (turn i v m₁ hh' tk' own hin hP hJ F₁ N₁) (fun f s₂ p => ?_) fun _ _ e => e
    have fin : InvEnd h₀ env.locals (J (i + 1)) (own ++ news₁) { s with heap := hh', toks := tk' } s₂ → LoopStepU h₀ env.locals wr own (fun m₁ nx => nx = news₁ ∧ J (i + 1) m₁) { s with heap := hh', toks := tk' } .next s₂ := by
      rintro ⟨h', tk, m', news', e, F', N', hn, hm⟩
      exact ⟨rfl, h', tk, m', news₁, e, F', fun p hp => N' p (hn p hp), hoff, rfl, hm⟩
    cases f with
    | ret v => exact .ret p
    | brk => exact .brk p
    | next => exact .next (fin p)
    | cont => exact .cont (fin p)
  · rintro h' tk m' news' F' N' _ ⟨rfl, hJ⟩
    exact done m' h' tk hJ F' N'

theorem range_loop {w : World} {A : Around} {E : Value → Shared → Prop} {s : Shared} {env : Env} {h₀ : Heap} {x : Str} {body : List Stmt} {Q : Flow → Shared → Prop} {r : Addr} {a₀ b₀ : Int} {t₀ u₀ v₀ : Tok} {n : Nat}
    {m₀ : Str → Option Value} {news : List (Addr × Obj)} (J : Nat → (Str → Option Value) → Prop)
    (hh : A.handled = none) (hr : IsRange s.heap r a₀ b₀ 1 t₀ u₀ v₀) (hsmall : Builtin.Range.small a₀ b₀ 1 = true) (hn : Builtin.Range.rangeSize a₀ b₀ 1 = (n : Int)) (F : Fr h₀ env.locals s.heap m₀) (N : News h₀ env.locals s.heap news) (hj : J 0 m₀)
    (turn : ∀ i t m₁ h tk own, i < n → J i m₁ → Fr h₀ env.locals h (fun y => if y = x then some (.int (a₀ + (i : Nat)) t) else m₁ y) → News h₀ env.locals h (own ++ news) →
      wpAny (model pgm w) A (execs body env) (InvPost h₀ env.locals (J (i + 1)) (own ++ news) { s with heap := h, toks := tk } Q) E { s with heap := h, toks := tk })
    (done : ∀ m₁ h tk, J n m₁ → Fr h₀ env.locals h m₁ → News h₀ env.locals h news → Q .next { s with heap := h, toks := tk }) :
    wpAny (model pgm w) A (pyIter (.ref r)) (fun it s₂ => LoopAtV pgm w A h₀ env x body Q E it s₂) E s := by
  refine wpAny_pyIter_range hr hsmall ?_
  have W : Walks pgm w A s.heap.objs.size [s.heap.objs.size] [s.heap.objs.size] n (fun i v => i < n ∧ ∃ t, v = .int (a₀ + i * 1) t)
      (fun i h => IsRangeIter h s.heap.objs.size (a₀ + (i : Nat) * 1) ((n : Int) - (i : Nat)) 1) := (Walks.range hh _ a₀ 1 n).bound
  refine walk_loop J W ?_ ?_ ?_ (by show IsRangeIter _ _ _ _ _; rw [hn]; simpa using Heap.get?_push_size _ rfl) (F.push _) (fun p hp => ⟨Heap.get?_push_of_some _ (N p hp).1, (N p hp).2⟩) hj ?_ done
  · intro hm
    exact absurd F.ns.lt ((List.mem_singleton.mp hm) ▸ Nat.lt_irrefl _)
  · intro b hb
    rw [List.mem_singleton.mp hb]
    exact next_is_new F
  · intro p hp hI
    exact absurd (Heap.lt_size (N p hp).1) ((List.mem_singleton.mp hI) ▸ Nat.lt_irrefl _)
  · rintro i v m₁ h tk own hin ⟨_, t, rfl⟩ hJ F₁ N₁
    rw [Int.mul_one] at F₁
    exact turn i t m₁ h tk own hin hJ F₁ N₁

theorem list_loop {w : World} {A : Around} {E : Value → Shared → Prop} {s : Shared} {env : Env} {h₀ : Heap} {x : Str} {body : List Stmt} {Q : Flow → Shared → Prop} {l : Addr} {vs : List Value}
    {m₀ : Str → Option Value} {news : List (Addr × Obj)} (J : Nat → (Str → Option Value) → Prop)
    (hh : A.handled = none) (hl : s.heap.IsList l vs.toArray) (hlL : l ≠ env.locals) (F : Fr h₀ env.locals s.heap m₀) (N : News h₀ env.locals s.heap news) (hj : J 0 m₀)
    (turn : ∀ i v m₁ h tk own, vs[i]? = some v → J i m₁ → Fr h₀ env.locals h (fun y => if y = x then some v else m₁ y) → News h₀ env.locals h (own ++ news) →
      wpAny (model pgm w) A (execs body env) (InvPost h₀ env.locals (J (i + 1)) (own ++ news) { s with heap := h, toks := tk } Q) E { s with heap := h, toks := tk })
    (done : ∀ m₁ h tk, J vs.length m₁ → Fr h₀ env.locals h m₁ → News h₀ env.locals h news → Q .next { s with heap := h, toks := tk }) :
    wpAny (model pgm w) A (pyIter (.ref l)) (fun it s₂ => LoopAtV pgm w A h₀ env x body Q E it s₂) E s := by
  obtain ⟨ol, hol, _⟩ := id hl
  have hne : l ≠ s.heap.objs.size := Nat.ne_of_lt (Heap.lt_size hol)
  refine wpAny_pyIter_list hl ?_
  have W := Walks.list (prog := pgm) (w := w) hh s.heap.objs.size l hne vs.toArray
  rw [List.size_toArray] at W
  refine walk_loop J W ?_ ?_ ?_ ⟨⟨_, Heap.get?_push_size _ rfl, rfl, rfl⟩, hl.at fun o e => Heap.get?_push_of_some _ e⟩ (F.push _) (fun p hp => ⟨Heap.get?_push_of_some _ (N p hp).1, (N p hp).2⟩) hj ?_ done
  · intro hm
    rcases List.mem_cons.mp hm with e | hm
    · exact absurd F.ns.lt (e ▸ Nat.lt_irrefl _)
    · exact hlL (List.mem_singleton.mp hm).symm
  · intro b hb
    rw [List.mem_singleton.mp hb]
    exact next_is_new F
  · intro p hp hI
    exact absurd (Heap.lt_size (N p hp).1) ((List.mem_singleton.mp hI) ▸ Nat.lt_irrefl _)
  · intro i v m₁ h tk own hin hP hJ F₁ N₁
    exact turn i v m₁ h tk own (by simpa using hP) hJ F₁ N₁

theorem map_known {m : Str → Option Value} {x : Str} {v : Value} (h : m x = some v) : m = fun y => if y = x then some v else m y := by
  funext y
  by_cases e : y = x
  · subst e; simp [h]
  · simp [e]
theorem map_known2 {m : Str → Option Value} {x x' : Str} {v v' : Value} (h : m x = some v) (h' : m x' = some v') : m = fun y => if y = x then some v else if y = x' then some v' else m y := by
  funext y
  by_cases e : y = x
  · subst e; simp [h]
  · by_cases e' : y = x'
    · subst e'; simp [h', e]
    · simp [e, e']
theorem map_known3 {m : Str → Option Value} {x x' x'' : Str} {v v' v'' : Value} (h : m x = some v) (h' : m x' = some v') (h'' : m x'' = some v'') : m = fun y => if y = x then some v else if y = x' then some v' else if y = x'' then some v'' else m y := by
  funext y
  by_cases e : y = x
  · subst e; simp [h]
  · by_cases e' : y = x'
    · subst e'; simp [h', e]
    · by_cases e'' : y = x''
      · subst e''; simp [h'', e, e']
      · simp [e, e', e'']
theorem range_ok {a b : Int} {n : Nat} (ha : -1000 ≤ a) (hb : b ≤ 1000) (hn : b = a + n) : Builtin.Range.small a b 1 = true ∧ Builtin.Range.rangeSize a b 1 = (n : Int) := by
  have h2 : Builtin.Range.rangeSize a b 1 = (n : Int) := by
    subst hn; unfold Builtin.Range.rangeSize; simp; omega
  have f : ∀ i : Int, -2000 ≤ i → i ≤ 3000 → Builtin.Range.rangeFitsLong i = true := fun i h1 h2 => by
    unfold Builtin.Range.rangeFitsLong
    rw [decide_eq_true (show -(2 ^ 63 : Int) ≤ i by omega), decide_eq_true (show i < (2 ^ 63 : Int) by omega)]
    rfl
  refine ⟨?_, h2⟩
  unfold Builtin.Range.small
  rw [h2, f a (by omega) (by omega), f b (by omega) (by omega), f 1 (by decide) (by decide), f n (by omega) (by omega), if_pos (by decide), f (b + (1 - 1)) (by omega) (by omega)]
  simp

end
theorem lines_b_L1 : True := by
  k_with "my pyIter ref" => (((with_reducible show wpAny _ _ (pyIter (Value.ref _)) (fun it s₂ => LoopAtV _ _ _ _ _ _ _ _ _ it s₂) _ _); refine HoldG.mk ?_))
  k_with "my InvEnd" => ((refine HoldG.mk ?_))
  k_with "my exec For Name Subscript cons nil" => (k_dflt ((with_reducible show wpAny _ _ (exec (Stmt.For _ _ _ [] _) _) _ _ _); (with_reducible rename Fr _ _ _ _ => lF'); (with_unfolding_all refine' For_invVF lF' ?k1 ?k2 ?_; (case k1 => exact rfl); (case k2 => exact rfl); k_whole)))
  trivial
section
abbrev dupS : Str := "duplicate 'switch' defaults"
noncomputable def rowGo (nm : Str) : List Ent → Option Int → Int ⊕ Str
  | [], none => .inr "none"
  | [], some f => if f = 0 then .inr "none" else .inl f
  | e :: r, d => if e.1 = none ∨ e.1 = some ("" : Str) then (if d.isSome then .inr dupS else rowGo nm r (some e.2))
    else if e.1 = some nm then (match (e :: r).find? (fun e => decide (e.2 ≠ 0)) with | some e => .inl e.2 | none => .inr "none") else rowGo nm r d
def DefV (w : World) (h : Heap) (v : Value) : Option Int → Prop
  | none => v = .none
  | some f => ∃ x, v = .ref x ∧ ItemAt w h x f
theorem find_at {l : List Ent} {j : Nat} {e : Ent} (h : l[j]? = some e) (hz : e.2 ≠ 0) (hb : ∀ k, k < j → ∀ e', l[k]? = some e' → e'.2 = 0) : l.find? (fun e => decide (e.2 ≠ 0)) = some e := by
  induction l generalizing j with
  | nil => cases h
  | cons a r ih =>
    cases j with
    | zero => simp at h; subst h; simp [hz]
    | succ j =>
      have h0 := hb 0 (by omega) a rfl
      rw [List.find?_cons]
      simp only [h0]
      exact ih (by simpa using h) (fun k hk e' he => hb (k+1) (by omega) e' (by simpa using he))
theorem find_no {l : List Ent} (hb : ∀ (k : Nat) (e' : Ent), l[k]? = some e' → e'.2 = 0) : l.find? (fun e => decide (e.2 ≠ 0)) = none := by
  rw [List.find?_eq_none]
  intro e he
  obtain ⟨k, hk⟩ := List.getElem?_of_mem he
  simp [hb k e hk]
theorem rowGo_def {nm : Str} {tag : Option Str} {fig : Int} {r : List Ent} {d : Option Int} (h : tag = none ∨ tag = some ("" : Str)) : rowGo nm ((tag, fig) :: r) d = if d.isSome then .inr dupS else rowGo nm r (some fig) := by
  show (if _ then _ else _) = _; rw [if_pos h]
theorem rowGo_skip {nm tg : Str} {fig : Int} {r : List Ent} {d : Option Int} (h : tg ≠ "") (h2 : tg ≠ nm) : rowGo nm ((some tg, fig) :: r) d = rowGo nm r d := by
  show (if _ then _ else _) = _; rw [if_neg (by simp [h]), if_neg (by simp [h2])]
theorem rowGo_hit {nm : Str} {fig : Int} {r : List Ent} {d : Option Int} (h : nm ≠ "") : rowGo nm ((some nm, fig) :: r) d = (match ((some nm, fig) :: r : List Ent).find? (fun e => decide (e.2 ≠ 0)) with | some e => .inl e.2 | none => .inr "none") := by
  show (if _ then _ else _) = _; rw [if_neg (by simp [h]), if_pos rfl]

set_option maxHeartbeats 8000000 in
theorem row_name {w : World} {A : Around} {s : Shared} (G : Gd 6 w A s.heap) {a : Addr} {ents : List Ent} {nm : Str} {tnm : Tok} (hr : RowsAt w s.heap a ents) (hen : ents.length ≤ 100) :
    RaiseCall w A 74 [.ref a, .str nm tnm] s (fun v h' => (v = .none ∧ rowGo nm ents none = .inr "none") ∨ ∃ x f, v = .ref x ∧ VecAt w h' x f ∧ rowGo nm ents none = .inl f)
      dupS (rowGo nm ents none = .inr dupS) := by
  obtain ⟨vs, hl, hn, hi⟩ := hr
  with_reducible rename Gd _ _ _ _ => Gq
  refine' Gd.elimR Gq ?_
  intro depq envsq grdq untq baseq pq looseq meanq mgq mbq Wq
  clear Gq
  refine' enterR Wq ?ho ?hcd ?hb ?hl ?c1 ?c2 ?c3 ?c4 ?_
  (case ho => k_is); (case hcd => k_is); (case hb => exact BindsTo.of_eq rfl); (case hl => exact locs rfl); (case c1 => exact rfl); (case c2 => exact rfl); (case c3 => exact rfl); (case c4 => decide)
  obtain ⟨Bq, BWq, KXq, Tq, hdepq, hunq⟩ := Wq
  intro hq₁ Fq Nq
  try dsimp only
  k_steps
  unfold HoldG
  with_reducible rename IsRange _ _ _ _ _ _ _ _ => hrg
  with_reducible rename Fr _ _ _ _ => F1
  with_reducible rename News _ _ _ _ => N1
  obtain ⟨q1, q2⟩ := range_ok (a := 0) (b := (ents.length : Int)) (n := ents.length) (by omega) (by omega) (by omega)
  refine range_loop (fun i m => m "rows" = some (.ref a) ∧ m "name" = some (.str nm tnm) ∧ ∃ dv d, m "default" = some dv ∧ DefV w s.heap dv d ∧ rowGo nm ents none = rowGo nm (ents.drop i) d)
    rfl hrg q1 q2 F1 N1 ⟨rfl, rfl, _, none, rfl, rfl, by rw [List.drop_zero]⟩ ?_ ?_
  · clear F1 N1 hrg
    rintro i t m₁ h tk' own hlt ⟨e1, e2, dv, d, e3, hdv, hgo⟩ F N
    have he : ents[i]? = some ents[i] := by simp [hlt]
    obtain ⟨pp, x, tv, g1, g2, g3, g4⟩ := hi _ _ he
    have hdrop : ents.drop i = ents[i] :: ents.drop (i + 1) := List.drop_eq_getElem_cons hlt
    generalize ents[i] = e at *
    obtain ⟨tag, fig⟩ := e
    have g1' : vs.toArray[(i : Int).toNat]? = some (.ref pp) := by rw [List.getElem?_toArray]; exact g1
    rw [Int.zero_add] at F
    rw [map_known3 e1 e2 e3] at F
    dsimp only at F N g3 g4
    dsimp only
    rcases tag with _ | tg
    · obtain rfl : tv = .none := g3
      rcases d with _ | f0
      · obtain rfl : dv = .none := hdv
        k_steps
        unfold HoldG
        with_reducible rename Fr _ _ _ _ => F2
        with_reducible rename News _ _ _ _ => N2
        refine InvEnd.intro F2 N2 (fun p hp => hp) ⟨rfl, rfl, _, some fig, rfl, ⟨x, rfl, g4⟩, ?_⟩
        rw [hgo, hdrop, rowGo_def (.inl rfl)]; rfl
      · obtain ⟨x0, rfl, hx0⟩ := hdv
        k_steps
        all_goals (rw [hgo, hdrop, rowGo_def (.inl rfl)]; rfl)
    · obtain ⟨tt, rfl⟩ : ∃ tt, tv = .str tg tt := g3
      by_cases htg : tg = ""
      · subst htg
        rcases d with _ | f0
        · obtain rfl : dv = .none := hdv
          k_steps
          unfold HoldG
          with_reducible rename Fr _ _ _ _ => F2
          with_reducible rename News _ _ _ _ => N2
          refine InvEnd.intro F2 N2 (fun p hp => hp) ⟨rfl, rfl, _, some fig, rfl, ⟨x, rfl, g4⟩, ?_⟩
          rw [hgo, hdrop, rowGo_def (.inr rfl)]; rfl
        · obtain ⟨x0, rfl, hx0⟩ := hdv
          k_steps
          all_goals (rw [hgo, hdrop, rowGo_def (.inr rfl)]; rfl)
      · have hb : (tg == ("" : Str)) = false := by simpa using htg
        by_cases hnm : tg = nm
        · subst hnm
          k_steps
          rotate_left
          · with_reducible rename (tg == tg) = false => hc
            simp at hc
          unfold HoldG
          with_reducible rename Fr _ _ _ _ => F2
          with_reducible rename News _ _ _ ((_, _) :: _) => N2
          rw [slicePick_from' vs.toArray i] at N2
          clear F
          refine list_loop (vs := vs.drop i) (fun j m => ∀ k : Nat, k < j → ∀ e' : Ent, (ents.drop i)[k]? = some e' → e'.2 = 0) rfl ⟨_, (N2 _ (.head _)).1, rfl, 0, ?_⟩ ?_ F2 (fun p hp => N2 p (.tail _ hp)) (fun k hk => absurd hk (by omega)) ?_ ?_
          · rfl
          · exact (N2 _ (.head _)).2.1
          · clear F2 N2
            rintro j v m₂ h₂ tk₂ own₂ hv hJ F N
            have hlen : i + j < ents.length := by
              have := (List.getElem?_eq_some_iff.mp hv).1
              rw [List.length_drop] at this
              omega
            have he2 : ents[i + j]? = some ents[i + j] := by simp [hlen]
            obtain ⟨pp2, x2, tv2, b1, b2, b3, b4⟩ := hi _ _ he2
            rw [List.getElem?_drop, b1] at hv
            cases hv
            have hnth : (ents.drop i)[j]? = some ents[i + j] := by rw [List.getElem?_drop]; exact he2
            generalize ents[i + j] = e2 at *
            try dsimp only at F N
            try dsimp only
            rcases b4 with ⟨hz, dd, t1, t2, t3, k1, k2⟩ | ⟨hz, dd, l, t1, t2, t3, t4, t5, t6, tkk, k1, k2, k3⟩
            · k_steps
              unfold HoldG
              with_reducible rename Fr _ _ _ _ => F2
              with_reducible rename News _ _ _ _ => N2
              refine InvEnd.intro F2 N2 (fun p hp => hp) ?_
              intro k hk e' hke
              by_cases hkj : k < j
              · exact hJ k hkj e' hke
              · obtain rfl : k = j := by omega
                rw [hnth] at hke; cases hke; exact hz
            · k_steps
              with_reducible rename Fr _ _ _ _ => F2
              refine .inr ⟨_, _, rfl, ⟨_, _, _, _, _, _, _, _, _, F2.keep _ _ k1, F2.keep _ _ k2, F2.keep _ _ k3⟩, ?_⟩
              rw [hgo, hdrop, rowGo_hit htg, ← hdrop, find_at hnth hz hJ]
          · rintro m₂ h₂ tk₂ hJ F N
            try dsimp only at F N
            try dsimp only
            k_steps
            refine .inl ⟨rfl, ?_⟩
            rw [hgo, hdrop, rowGo_hit htg, ← hdrop, find_no]
            intro k e' hke
            refine hJ k ?_ e' hke
            have := (List.getElem?_eq_some_iff.mp hke).1
            rw [List.length_drop] at this ⊢
            omega
        · have hb2 : (tg == nm) = false := by simpa using hnm
          k_steps
          unfold HoldG
          with_reducible rename Fr _ _ _ _ => F2
          with_reducible rename News _ _ _ _ => N2
          refine InvEnd.intro F2 N2 (fun p hp => hp) ⟨rfl, rfl, _, d, rfl, hdv, ?_⟩
          rw [hgo, hdrop, rowGo_skip htg hnm]
  · rintro m₁ h tk' ⟨e1, e2, dv, d, e3, hdv, hgo⟩ F N
    rw [map_known3 e1 e2 e3] at F
    rw [List.drop_length] at hgo
    try dsimp only
    rcases d with _ | f0
    · obtain rfl : dv = .none := hdv
      k_steps
      exact .inl ⟨rfl, hgo⟩
    · obtain ⟨x0, rfl, hx0⟩ := hdv
      rcases hx0 with ⟨hz, dd, t1, t2, t3, k1, k2⟩ | ⟨hz, dd, l, t1, t2, t3, t4, t5, t6, tkk, k1, k2, k3⟩
      · k_steps
        exact .inl ⟨rfl, by rw [hgo, hz]; rfl⟩
      · k_steps
        with_reducible rename Fr _ _ _ _ => F2
        exact .inr ⟨_, _, rfl, ⟨_, _, _, _, _, _, _, _, _, F2.keep _ _ k1, F2.keep _ _ k2, F2.keep _ _ k3⟩, by rw [hgo]; show (if _ then _ else _) = _; rw [if_neg hz]⟩

end
theorem lines_b_L2 : True := by
  k_with "my call ref" => (((with_reducible show wpAny _ _ (call (Value.ref 74) _ []) _ _ _); k_dflt (refine RaiseCall.use (row_name (by k_extra "my m wk") (RowsAt.keeps (Fr.keep (by with_reducible assumption)) (by with_reducible assumption)) (by omega)) rfl (by with_reducible assumption) (by with_reducible assumption) (fun _ _ _ _ _ _ _ => HoldG.mk ?_) (fun _ _ _ _ => HoldG.mk ?_))))
  trivial
section
theorem by_name {w : World} {A : Around} {s : Shared} (G : Gd 9 w A s.heap) {a : Addr} {ents : List Ent} {nm : Str} {tnm : Tok} (hr : RowsAt w s.heap a ents) (hen : ents.length ≤ 100) :
    SoftCall w A 166 [.ref a, .str nm tnm] s (fun v _ => IsRes v (rowGo nm ents none)) := by
  with_reducible rename Gd _ _ _ _ => Gq
  refine' Gd.elimS Gq ?_
  intro depq envsq grdq untq baseq pq looseq meanq mgq mbq Wq
  clear Gq
  refine' enterR Wq ?ho ?hcd ?hb ?hl ?c1 ?c2 ?c3 ?c4 ?_
  (case ho => k_is); (case hcd => k_is); (case hb => exact BindsTo.of_eq rfl); (case hl => exact locs rfl); (case c1 => exact rfl); (case c2 => exact rfl); (case c3 => exact rfl); (case c4 => decide)
  obtain ⟨Bq, BWq, KXq, Tq, hdepq, hunq⟩ := Wq
  intro hq₁ Fq Nq
  try dsimp only
  k_steps
  · rename_i hP _ _ _
    unfold HoldG
    rcases hP with ⟨rfl, hk⟩ | ⟨x, f, rfl, h5, hk⟩
    · rw [hk]
      k_steps
      with_reducible rename IsRes _ _ => hi
      exact hi
    · rw [hk]
      k_steps
      with_reducible rename IsRes _ _ => hi
      exact hi
  · rename_i hC hR
    unfold HoldG
    rw [hC]
    with_reducible rename RaisedR _ _ _ _ _ => hRq
    refine caught_refusal (by with_reducible assumption) (by with_reducible assumption) (by with_reducible assumption) hRq (by rfl) (by rfl) (by rfl) ?_
    intro hq tkq tq hSq
    exact ⟨_, _, _, rfl, rfl, by with_reducible assumption, _, rfl⟩

end
section
/-- the plan: a list of pairs of a tag and a number -/
def PlanAt (h : Heap) (a : Addr) (ents : List Ent) : Prop :=
  ∃ vs : List Value, h.IsList a vs.toArray ∧ vs.length = ents.length ∧ ∀ (i : Nat) (e : Ent), ents[i]? = some e → ∃ p tv tf, vs[i]? = some (.ref p) ∧ IsTup h p #[tv, .int e.2 tf] ∧ TagV tv e.1
theorem PlanAt.keeps {h h' : Heap} {a : Addr} {ents : List Ent} (k : h.StaysIn h') : PlanAt h a ents → PlanAt h' a ents := fun ⟨vs, hl, hn, hi⟩ =>
  ⟨vs, hl.at fun o e => k a o e, hn, fun i e he => let ⟨p, tv, tf, h1, h2, h3⟩ := hi i e he; ⟨p, tv, tf, h1, h2.keeps k, h3⟩⟩
theorem due_number {w : World} {A : Around} {s : Shared} (G : Gd 3 w A s.heap) {a : Addr} {ents : List Ent} {k : Int} {tk : Tok} (hr : PlanAt s.heap a ents) (hk1 : -10000000000 < k) (hk2 : k < 10000000000) (hen : ents.length ≤ 100) :
    PureCall w A 185 [.ref a, .int k tk] s (fun v _ => IsRes v (numRes ents k)) := by
  obtain ⟨vs, hl, hn, hi⟩ := hr
  unfold numRes
  with_reducible rename Gd _ _ _ _ => Gq
  refine' Gd.elimP Gq ?_
  intro depq envsq grdq untq baseq pq looseq meanq mgq mbq Wq
  clear Gq
  refine' enterP Wq ?ho ?hcd ?hb ?hl ?c1 ?c2 ?c3 ?c4 ?_
  (case ho => k_is); (case hcd => k_is); (case hb => exact BindsTo.of_eq rfl); (case hl => exact locs rfl); (case c1 => exact rfl); (case c2 => exact rfl); (case c3 => exact rfl); (case c4 => decide)
  obtain ⟨Bq, BWq, KXq, Tq, hdepq, hunq⟩ := Wq
  intro hq₁ Fq Nq
  try dsimp only
  by_cases hk : k < 1 ∨ (ents.length : Int) < k
  · rw [if_pos hk]
    k_steps
    · exact ⟨_, rfl⟩
    · exact ⟨_, rfl⟩
  · have hlt : (k - 1).toNat < ents.length := by omega
    have he : ents[(k - 1).toNat]? = some ents[(k - 1).toNat] := by simp
    obtain ⟨pp, tv, tf, h1, h2, h3⟩ := hi _ _ he
    have h1' : vs.toArray[(k - 1).toNat]? = some (.ref pp) := by rw [List.getElem?_toArray]; exact h1
    rw [if_neg hk, he]
    dsimp only
    by_cases hz : (ents[(k - 1).toNat]).2 = 0
    · rw [if_pos hz]
      k_steps
      all_goals first | exact ⟨_, rfl⟩ | contradiction | omega
    · rw [if_neg hz]
      k_steps
      all_goals first | exact ⟨_, rfl⟩ | contradiction | omega

end
section
noncomputable def placeGo : List Ent → Nat → Int
  | [], _ => 0
  | e :: r, i => if e.1 = some ("EXPR" : Str) then (i : Int) else placeGo r (i + 1)
theorem subject_spec {w : World} {A : Around} {s : Shared} (G : Gd 5 w A s.heap) {a : Addr} {ents : List Ent} (hr : RowsAt w s.heap a ents) (hen : ents.length ≤ 100) :
    PureCall w A 81 [.ref a] s (fun v _ => ∃ t, v = .int (placeGo ents 0) t) := by
  obtain ⟨vs, hl, hn, hi⟩ := hr
  with_reducible rename Gd _ _ _ _ => Gq
  refine' Gd.elimP Gq ?_
  intro depq envsq grdq untq baseq pq looseq meanq mgq mbq Wq
  clear Gq
  refine' enterP Wq ?ho ?hcd ?hb ?hl ?c1 ?c2 ?c3 ?c4 ?_
  (case ho => k_is); (case hcd => k_is); (case hb => exact BindsTo.of_eq rfl); (case hl => exact locs rfl); (case c1 => exact rfl); (case c2 => exact rfl); (case c3 => exact rfl); (case c4 => decide)
  obtain ⟨Bq, BWq, KXq, Tq, hdepq, hunq⟩ := Wq
  intro hq₁ Fq Nq
  try dsimp only
  k_steps
  unfold HoldG
  with_reducible rename IsRange _ _ _ _ _ _ _ _ => hrg
  with_reducible rename Fr _ _ _ _ => F1
  with_reducible rename News _ _ _ _ => N1
  obtain ⟨q1, q2⟩ := range_ok (a := 0) (b := (ents.length : Int)) (n := ents.length) (by omega) (by omega) (by omega)
  refine range_loop (fun i m => m "rows" = some (.ref a) ∧ placeGo ents 0 = placeGo (ents.drop i) i)
    rfl hrg q1 q2 F1 N1 ⟨rfl, by rw [List.drop_zero]⟩ ?_ ?_
  · clear F1 N1 hrg
    rintro i t m₁ h tk' own hlt ⟨e1, hgo⟩ F N
    have he : ents[i]? = some ents[i] := by simp [hlt]
    obtain ⟨pp, x, tv, g1, g2, g3, g4⟩ := hi _ _ he
    have hdrop : ents.drop i = ents[i] :: ents.drop (i + 1) := List.drop_eq_getElem_cons hlt
    generalize ents[i] = e at *
    obtain ⟨tag, fig⟩ := e
    have g1' : vs.toArray[(i : Int).toNat]? = some (.ref pp) := by rw [List.getElem?_toArray]; exact g1
    rw [Int.zero_add] at F
    rw [map_known e1] at F
    try dsimp only at F N g3 g4
    try dsimp only
    rcases tag with _ | tg
    · obtain rfl : tv = .none := g3
      k_steps
      unfold HoldG
      with_reducible rename Fr _ _ _ _ => F2
      with_reducible rename News _ _ _ _ => N2
      refine InvEnd.intro F2 N2 (fun p hp => hp) ⟨rfl, ?_⟩
      rw [hgo, hdrop]; rfl
    · obtain ⟨tt, rfl⟩ : ∃ tt, tv = .str tg tt := g3
      by_cases hnm : tg = ("EXPR" : Str)
      · subst hnm
        k_steps
        have e : placeGo ents 0 = (i : Int) := by rw [hgo, hdrop]; rfl
        rw [e]
        exact ⟨_, rfl⟩
      · have hb2 : (tg == ("EXPR" : Str)) = false := by simpa using hnm
        k_steps
        unfold HoldG
        with_reducible rename Fr _ _ _ _ => F2
        with_reducible rename News _ _ _ _ => N2
        refine InvEnd.intro F2 N2 (fun p hp => hp) ⟨rfl, ?_⟩
        rw [hgo, hdrop]
        show (if _ then _ else _) = _; rw [if_neg (by simpa using hnm)]
  · rintro m₁ h tk' ⟨e1, hgo⟩ F N
    rw [List.drop_length] at hgo
    rw [map_known e1] at F
    try dsimp only
    k_steps
    rw [show placeGo ents 0 = 0 by rw [hgo]; rfl]
    exact ⟨_, rfl⟩

end
section
theorem enterC {n : Nat} {w : World} {dep : Nat} {envs : List Env} {grd : Option (List Code)} {unt : Nat} {base : Heap} {p : Program} {loose : List Str} {mean : ExcName → Option Value} {mg mb : Str → Option Value}
    {s : Shared} {name qual : Str} {params : Arguments} {body : List Stmt} {scope : Scope} {dV kV doc pm cdv ct oc : Value} {an od : Option Addr} {osl : Array (Option Value)} {f : Addr}
    {args : List Value} {binds : List (Str × Value)} {P : Value → Heap → Prop}
    (G : Wk n w dep envs grd unt base p loose mean mg mb s.heap)
    (ho : (hd.heap_39 w.params).lookup f = some ⟨oc, od, .func (fnOf name qual params body scope dV kV doc pm an cdv ct), osl⟩) (hcd : codeIn (hd.heap_39 w.params) cdv qual = true)
    (hbind : BindsTo s (fnOf name qual params body scope dV kV doc pm an cdv ct) ⟨args, []⟩ binds) (hkind : (binds.all fun y => scope.names.lookup y.1 == some .local || scope.names.lookup y.1 == some .cell) = true)
    (hnd : ((cellsFrom 0 scope.names []).map (·.1)).Nodup)
    (hco : scope.isCoroutine = false) (hgen : scope.isGenerator = false) (hk : scope.kind = .function)
    (h : ∀ h₁ tk cells, Fr s.heap s.heap.objs.size h₁ (bindL (envOfC qual scope s.heap.objs.size f cdv).kindOf binds fun _ => none) → News s.heap s.heap.objs.size h₁ cells →
      CellsAre (bindC (envOfC qual scope s.heap.objs.size f cdv).kindOf binds fun _ => none) (cellsFrom (s.heap.objs.size + 1) scope.names []) cells →
      wpAny (model pgm w) ((Ar dep envs grd unt).deeper (envOfC qual scope s.heap.objs.size f cdv)) (execs body (envOfC qual scope s.heap.objs.size f cdv))
        (fun fl s' => PureR s P (.ok (.ret (match fl with | .ret v => v | _ => .none))) s') (fun _ _ => False)
        { s with heap := h₁, toks := tk }) : PureCall w (Ar dep envs grd unt) f args s P := by
  refine codeAny_call_function (Nat.lt_of_le_of_lt (Nat.le_trans (Nat.le_add_right _ _) G.d) (by decide)) (G.X _ _ ho) rfl hco hgen rfl (codeRec_of G.X hcd) (hbind _ _ _ _ ?_)
  refine wpAny_newFunctionEnv_cells hk (kindsX hkind _) fun env' he s' x => ?_
  subst he
  refine ⟨G.T.nolimit.keeps x.toInCall.keep, codeAny_func ?_⟩
  obtain ⟨h₁, tk, rfl, _⟩ := x.done
  have hk₁ := x.toInCall.keep
  obtain ⟨cells, NC, Y⟩ := Cl.news (h₀ := s.heap) (Nat.le_refl _) fun n c hm => ⟨x.cell n c (lookup_of_mem_nodup (cellsFrom_names scope.names 0 (s.heap.objs.size + 1) [] [] rfl ▸ hnd) hm), x.above n c hm⟩
  exact wpAny_mono (h h₁ tk cells ⟨x.toInCall.ns, hk₁, Nat.le_refl _⟩ NC Y) (fun _ _ x => x) fun _ _ x => x.elim

section
open PyProof.Rows.LCg PyProof.Rows.LCt
theorem CompEnd.mono {h₀ : Heap} {L : Addr} {m : Str → Option Value} {s₁ : Shared} {I : Addr} {oI : Obj} {C : Addr} {oC : Obj} {D : Addr} {oD : Obj} {S : List (Addr × Obj) → Prop} {r r' : Value → List (Addr × Obj) → Prop} {y : Value} {s₂ : Shared}
    (h : CompEnd h₀ L m s₁ I oI C oC D oD S r y s₂) (k : ∀ nw, r y nw → r' y nw) : CompEnd h₀ L m s₁ I oI C oC D oD S r' y s₂ :=
  let ⟨h', tk, nw, a, b, c, d, e, f⟩ := h; ⟨h', tk, nw, a, b, c, d, e, k nw f⟩
/-- the turns of a comprehension with one test -/
theorem comp_turns {w : World} {A : Around} {h₀ : Heap} {L : Addr} {m : Str → Option Value} {env : Env} {ct elt : PySem.Expr} {x : Str} {scope : Scope} {cl : List (Str × Addr)} {s : Shared} {S : List (Addr × Obj) → Prop} {P : Nat → Value → Prop}
    {Fin : List Value → List (Addr × Obj) → Prop} {news : List (Addr × Obj)} {n : Nat} (G : Nat → List Value → Prop)
    (turn : ∀ i ys v I oI C oC D m₂ h tk (E' : Value → Shared → Prop), i < n → G i ys → P i v → NsObj oC m₂ → m₂ x = some v → Fr h₀ L h m → News h₀ L h ((I, oI) :: (C, oC) :: (D, lst ys) :: news) → Off3 I C D news → ((@Ne Nat I C) ∧ (@Ne Nat I D) ∧ (@Ne Nat C D)) → S news →
      wpAny (model pgm w) A (isTrue ct (compEnvC scope cl C env) (eval ct (compEnvC scope cl C env))) (fun ok s' => if ok = true then
        wpAny (model pgm w) A (eval elt (compEnvC scope cl C env)) (CompEnd h₀ L m { s with heap := h, toks := tk } I oI C oC D (lst ys) S (fun y news' => HoldG (news' = news ∧ G (i + 1) (ys ++ [y])))) E' s'
        else CompEnd h₀ L m { s with heap := h, toks := tk } I oI C oC D (lst ys) S (fun _ news' => HoldG (news' = news ∧ G (i + 1) ys)) Value.none s') E' { s with heap := h, toks := tk })
    (fin : ∀ ys, G n ys → Fin ys news) (hS : S news) : ∀ k i ys, i + k = n → G i ys → CompRestT pgm w A h₀ L m env ct elt x scope cl s S P Fin k i ys news := by
  intro k
  induction k with
  | zero => intro i ys hi hG; obtain rfl : i = n := by omega
            exact CompRestT.zero (fin ys hG)
  | succ k ih =>
    intro i ys hi hG
    refine CompRestT.succ fun v I oI C oC D m₂ h tk E' hP hC hx F N off ne => ?_
    refine wpAny_mono (turn i ys v I oI C oC D m₂ h tk E' (by omega) hG hP hC hx F N off ne hS) (fun ok s' q => ?_) fun _ _ e => e
    cases ok with
    | true =>
      simp only [if_true] at q ⊢
      exact wpAny_mono q (fun y s₂ p => CompEnd.mono p fun nw e => by obtain ⟨rfl, e2⟩ := e; exact ih (i + 1) _ (by omega) e2) fun _ _ e => e
    | false =>
      simp only [Bool.false_eq_true, if_false] at q ⊢
      exact CompEnd.mono q fun nw e => by obtain ⟨rfl, e2⟩ := e; exact ih (i + 1) _ (by omega) e2
theorem comp_range {w : World} {A : Around} {h₀ : Heap} {L : Addr} {m : Str → Option Value} {env : Env} {ct elt : PySem.Expr} {x : Str} {scope : Scope} {cl : List (Str × Addr)} {s : Shared}
    {Fin : Shared → List Value → List (Addr × Obj) → Prop} {news : List (Addr × Obj)} {r : Addr} {a b : Int} {t u v : Tok} {n : Nat} (G : Nat → List Value → Prop)
    (hh : A.handled = none) (hr : IsRange s.heap r a b 1 t u v) (hsm : Builtin.Range.small a b 1 = true) (hn : Builtin.Range.rangeSize a b 1 = ((n : Nat) : Int)) (hsz : n ≤ 1000) (F : Fr h₀ L s.heap m) (N : News h₀ L s.heap news) (hG : G 0 [])
    (turn : ∀ i ys t I oI C oC D m₂ h tk (E' : Value → Shared → Prop), i < n → G i ys → NsObj oC m₂ → m₂ x = some (.int (a + (i : Int)) t) → Fr h₀ L h m → News h₀ L h ((I, oI) :: (C, oC) :: (D, lst ys) :: news) → Off3 I C D news → ((@Ne Nat I C) ∧ (@Ne Nat I D) ∧ (@Ne Nat C D)) →
      wpAny (model pgm w) A (isTrue ct (compEnvC scope cl C env) (eval ct (compEnvC scope cl C env))) (fun ok s' => if ok = true then
        wpAny (model pgm w) A (eval elt (compEnvC scope cl C env)) (CompEnd h₀ L m { s with heap := h, toks := tk } I oI C oC D (lst ys) (fun _ => True) (fun y news' => HoldG (news' = news ∧ G (i + 1) (ys ++ [y])))) E' s'
        else CompEnd h₀ L m { s with heap := h, toks := tk } I oI C oC D (lst ys) (fun _ => True) (fun _ news' => HoldG (news' = news ∧ G (i + 1) ys)) Value.none s') E' { s with heap := h, toks := tk })
    (fin : ∀ ys g, G n ys → Fin { s with heap := g } ys news) : CompSrcT pgm w A h₀ L m env ct elt x scope cl Fin (.ref r) s := by
  refine CompSrcT.range hh F N hr hsm hn (Nat.le_trans hsz (by decide)) fun g => ?_
  refine comp_turns G ?_ (fun ys q => fin ys g q) trivial n 0 [] (Nat.zero_add _) hG
  intro i ys v I oI C oC D m₂ h tk E' hi hG ⟨t, ht⟩ hC hx F N off ne _
  subst ht
  exact turn i ys t I oI C oC D m₂ h tk E' hi hG hC hx F N off ne
end

end
theorem lines_b_C1 : True := by
  k_with "my CompSrcT" => ((refine HoldG.mk ?_))
  k_with "my eval Name" => (((with_reducible show wpAny _ _ (eval (PySem.Expr.Name _ _) (compEnvC _ _ _ _)) _ _ _); k_dflt (first
  | (refine' LCgL.ld_own ?N ?m ?c ?x ?_ ?a ?b ?d; (case N => with_reducible assumption); (case m => k_mem); (case c => with_reducible assumption); (case x => with_reducible assumption); (case a => rfl); (case b => rfl); (case d => decide))
  | (refine' lcf_cell ?N ?c ?m ?d ?_ ?a ?b ?e; (case N => with_reducible assumption); (case a => rfl); (case b => rfl); (case c => rfl); (case m => k_mem); (case d => with_reducible assumption); (case e => decide)))))
  trivial
section
noncomputable def idxOf (p : Ent → Bool) : List Ent → Nat → List Int
  | [], _ => []
  | e :: r, k => if p e then (k : Int) :: idxOf p r (k + 1) else idxOf p r (k + 1)
def figsOf (l : List Ent) : List Int := (l.filter fun e => decide (0 < e.2)).map (·.2)
abbrev isNm (nm : Str) (e : Ent) : Bool := e.1 == some nm
abbrev isDef (e : Ent) : Bool := e.1 == none || e.1 == some ("" : Str)
theorem ints_snoc1 {vs : List Value} {ns : List Int} {k : Int} {t : Tok} (h : IntsAre vs ns) : IntsAre (vs ++ [.int k t]) (ns ++ [k]) := h.append (.cons k t .nil)
theorem idx_hit {p : Ent → Bool} {l : List Ent} {i : Nat} {e : Ent} {r : List Ent} {done : List Int} {X : List Int} (hd : l.drop i = e :: r) (hp : p e = true) (hg : done ++ idxOf p (l.drop i) i = X) : (done ++ [(i : Int)]) ++ idxOf p (l.drop (i + 1)) (i + 1) = X := by
  have h2 : l.drop (i + 1) = r := by rw [← List.drop_drop, hd]; rfl
  rw [← hg, hd, h2]
  show _ = _ ++ (if _ then _ else _)
  rw [if_pos hp]; simp
theorem idx_miss {p : Ent → Bool} {l : List Ent} {i : Nat} {e : Ent} {r : List Ent} {done : List Int} {X : List Int} (hd : l.drop i = e :: r) (hp : p e = false) (hg : done ++ idxOf p (l.drop i) i = X) : done ++ idxOf p (l.drop (i + 1)) (i + 1) = X := by
  have h2 : l.drop (i + 1) = r := by rw [← List.drop_drop, hd]; rfl
  rw [← hg, hd, h2]
  show _ = _ ++ (if _ then _ else _)
  rw [if_neg (by simp [hp])]
theorem idx_nil {p : Ent → Bool} : ∀ {l : List Ent} {k : Nat}, idxOf p l k = [] → ∀ e ∈ l, p e = false
  | [], _, _, _, h => by cases h
  | a :: r, k, h, e, he => by
    have h' : (if p a then (k : Int) :: idxOf p r (k + 1) else idxOf p r (k + 1)) = [] := h
    cases hp : p a with
    | true => rw [if_pos hp] at h'; cases h'
    | false =>
      rw [if_neg (by simp [hp])] at h'
      rcases List.mem_cons.mp he with rfl | he
      · exact hp
      · exact idx_nil h' e he
theorem idx_cons {p : Ent → Bool} : ∀ {l : List Ent} {k : Nat} {f : Int} {rest : List Int}, idxOf p l k = f :: rest → ∃ j e, f = ((k + j : Nat) : Int) ∧ l[j]? = some e ∧ p e = true ∧ (∀ e' ∈ l.take j, p e' = false) ∧ rest = idxOf p (l.drop (j + 1)) (k + j + 1)
  | [], _, _, _, h => by cases h
  | a :: r, k, f, rest, h => by
    have h' : (if p a then (k : Int) :: idxOf p r (k + 1) else idxOf p r (k + 1)) = f :: rest := h
    cases hp : p a with
    | true => rw [if_pos hp] at h'; cases h'; exact ⟨0, a, rfl, rfl, hp, by simp, rfl⟩
    | false =>
      rw [if_neg (by simp [hp])] at h'
      obtain ⟨j, e, h1, h2, h3, h4, h5⟩ := idx_cons h'
      refine ⟨j + 1, e, by rw [h1]; congr 1; omega, by simpa using h2, h3, ?_, by rw [h5]; simp; congr 1; omega⟩
      intro e' he'
      rw [List.take_succ_cons] at he'
      rcases List.mem_cons.mp he' with rfl | he'
      · exact hp
      · exact h4 e' he'
theorem figs_hit {l : List Ent} {i : Nat} {e : Ent} {r : List Ent} {done : List Int} {X : List Int} (hd : l.drop i = e :: r) (hp : 0 < e.2) (hg : done ++ figsOf (l.drop i) = X) : (done ++ [e.2]) ++ figsOf (l.drop (i + 1)) = X := by
  have h2 : l.drop (i + 1) = r := by rw [← List.drop_drop, hd]; rfl
  rw [← hg, hd, h2]; simp [figsOf, hp]
theorem figs_miss {l : List Ent} {i : Nat} {e : Ent} {r : List Ent} {done : List Int} {X : List Int} (hd : l.drop i = e :: r) (hp : ¬ 0 < e.2) (hg : done ++ figsOf (l.drop i) = X) : done ++ figsOf (l.drop (i + 1)) = X := by
  have h2 : l.drop (i + 1) = r := by rw [← List.drop_drop, hd]; rfl
  rw [← hg, hd, h2]; simp [figsOf, hp]
theorem figs_find {l : List Ent} (hz : ∀ e ∈ l, 0 ≤ e.2) : (match l.find? (fun e => decide (e.2 ≠ 0)) with | some e => (Sum.inl e.2 : Int ⊕ Str) | none => .inr "none") = match figsOf l with | f :: _ => .inl f | [] => .inr "none" := by
  induction l with
  | nil => rfl
  | cons a r ih =>
    have h0 := hz a List.mem_cons_self
    by_cases h : a.2 = 0
    · have := ih fun e he => hz e (List.mem_cons_of_mem _ he)
      rw [List.find?_cons]
      simp only [h, figsOf, List.filter_cons] at this ⊢
      simpa using this
    · rw [List.find?_cons]
      have hpos : 0 < a.2 := by omega
      simp [h, figsOf, hpos]
/-- what the rows answer behind a run without the name -/
theorem rowGo_pre {nm : Str} (hnm : nm ≠ ("" : Str)) : ∀ (l r : List Ent) (d : Option Int), (∀ e ∈ l, isNm nm e = false) → rowGo nm (l ++ r) d =
    match d, idxOf isDef l 0 with
    | none, [] => rowGo nm r none
    | some f, [] => rowGo nm r (some f)
    | none, [i] => rowGo nm r (l[i.toNat]?.map (·.2))
    | _, _ => .inr dupS := by
  have key : ∀ (l r : List Ent) (d : Option Int), (∀ e ∈ l, isNm nm e = false) → rowGo nm (l ++ r) d = match d, l.filter isDef with
    | none, [] => rowGo nm r none
    | some f, [] => rowGo nm r (some f)
    | none, [e] => rowGo nm r (some e.2)
    | _, _ => .inr dupS := by
    intro l r
    induction l with
    | nil => intro d _; cases d <;> rfl
    | cons a l ih =>
      intro d hl
      have hl' : ∀ e ∈ l, isNm nm e = false := fun e he => hl e (List.mem_cons_of_mem _ he)
      have ha := hl a List.mem_cons_self
      obtain ⟨tag, fig⟩ := a
      by_cases hdf : isDef (tag, fig) = true
      · have hor : tag = none ∨ tag = some ("" : Str) := by simpa [isDef] using hdf
        rw [List.cons_append, rowGo_def hor, List.filter_cons, if_pos hdf]
        cases d with
        | none =>
          simp only [Option.isSome_none, Bool.false_eq_true, if_false]
          rw [ih _ hl']
          cases hf : l.filter isDef with
          | nil => rfl
          | cons b m => cases m <;> rfl
        | some f =>
          simp only [Option.isSome_some, if_true]
      · rw [List.filter_cons, if_neg hdf]
        obtain ⟨tg, rfl⟩ : ∃ tg, tag = some tg := by cases tag with
          | none => exact absurd rfl hdf
          | some tg => exact ⟨tg, rfl⟩
        have h1 : tg ≠ ("" : Str) := by rintro rfl; exact hdf rfl
        have h2 : tg ≠ nm := by rintro rfl; simp [isNm] at ha
        rw [List.cons_append, rowGo_skip h1 h2, ih _ hl']
  have link : ∀ (l : List Ent) (k : Nat), (idxOf isDef l k = [] ↔ l.filter isDef = []) ∧ (∀ i, idxOf isDef l k = [i] → ∃ e, l.filter isDef = [e] ∧ (k : Int) ≤ i ∧ l[(i - k).toNat]? = some e) ∧ (∀ i j m, idxOf isDef l k = i :: j :: m → ∃ a b c, l.filter isDef = a :: b :: c) := by
    intro l
    induction l with
    | nil => intro k; exact ⟨⟨fun _ => rfl, fun _ => rfl⟩, fun i h => (by cases h), fun i j m h => (by cases h)⟩
    | cons a l ih =>
      intro k
      obtain ⟨h1, h2, h3⟩ := ih (k + 1)
      have hu : idxOf isDef (a :: l) k = if isDef a then (k : Int) :: idxOf isDef l (k + 1) else idxOf isDef l (k + 1) := rfl
      rw [hu]
      by_cases ha : isDef a = true
      · rw [if_pos ha, List.filter_cons, if_pos ha]
        refine ⟨⟨fun h => (by cases h), fun h => (by cases h)⟩, fun i h => ?_, fun i j m h => ?_⟩
        · injection h with e1 e2
          refine ⟨a, by rw [h1.mp e2], by omega, ?_⟩
          subst e1; simp
        · injection h with e1 e2
          cases hm : idxOf isDef l (k + 1) with
          | nil => rw [hm] at e2; cases e2
          | cons x y =>
            cases hf : l.filter isDef with
            | nil => rw [h1.mpr hf] at hm; cases hm
            | cons b c => exact ⟨a, b, c, rfl⟩
      · rw [if_neg ha, List.filter_cons, if_neg ha]
        refine ⟨h1, fun i h => ?_, h3⟩
        obtain ⟨e, e1, e2, e3⟩ := h2 i h
        refine ⟨e, e1, by omega, ?_⟩
        rw [show (i - k).toNat = (i - (k + 1 : Nat)).toNat + 1 by omega]
        simpa using e3
  intro l r d hl
  rw [key l r d hl]
  obtain ⟨h1, h2, h3⟩ := link l 0
  cases hx : idxOf isDef l 0 with
  | nil => rw [h1.mp hx]; cases d <;> rfl
  | cons i m =>
    cases m with
    | nil =>
      obtain ⟨e, e1, _, e3⟩ := h2 i hx
      rw [e1]
      have e4 : l[i.toNat]? = some e := by simpa using e3
      cases d with
      | none => simp only [e4, Option.map_some]
      | some f => rfl
    | cons j m =>
      obtain ⟨a, b, c, e1⟩ := h3 i j m hx
      rw [e1]
      cases d <;> rfl

end
section
theorem gdLaw {n : Nat} {w : World} {env : Env} {h₀ h : Heap} {L : Addr} {m : Str → Option Value} (hn : n ≤ 20) (K0 : Below callerA h₀ [] h₀) (BW : BaseOk w h₀) (F : Fr h₀ L h m) (hf : env.frame = some L) (hk : env.scope.kind = .function) : Gd n w (callerA.deeper env) h :=
  ⟨⟨h₀, [env], pushX K0 F hf hk, BW⟩, rfl, by
    have e : callerA.depth = 1 + claimMargin := rfl
    have e2 : claimMargin ≤ 300 := by decide
    simp only [depth_deeper]; omega, by
    have e : callerA.units = 4 := rfl
    simp only [Around.deeper_units]; omega⟩

theorem SoftCall.use {w : World} {A : Around} {env : Env} {f : Addr} {args : List Value} {s : Shared} {P : Value → Heap → Prop} {h₀ : Heap} {L : Addr} {m : Str → Option Value} {news : List (Addr × Obj)}
    {Q : Value → Shared → Prop} {E : Value → Shared → Prop} (hp : SoftCall w A f args s P) (hA : A.frames = some [env]) (hf : env.frame = some L) (F : Fr h₀ L s.heap m) (N : News h₀ L s.heap news)
    (h : ∀ v h' tk, P v h' → Fr h₀ L h' m → News h₀ L h' news → Q v { s with heap := h', toks := tk }) : wpAny (model pgm w) A (call (.ref f) args []) Q E s := by
  refine wpAny_call (codeAny_mono (hp _ hA) ?_)
  rintro r s' ⟨v, h', tk, rfl, rfl, ⟨k, up⟩, hP⟩
  have hL0 : h₀.get? L = none := Heap.get?_none_of_le F.above
  have ne : ∀ b, b ≠ L → ∀ en ∈ [env], en.frame ≠ some b := fun b hb en hen z => by
    rw [List.mem_singleton.mp hen, hf] at z
    exact hb (Option.some.inj z).symm
  refine h v h' tk hP ⟨up.ns F.ns, fun b o e => k b o (F.keep b o e) (ne b fun q => by rw [q, hL0] at e; cases e), F.above⟩ fun p hp => ⟨k _ _ (N p hp).1 (ne _ (N p hp).2.1), (N p hp).2⟩

theorem pull_use {w : World} {s : Shared} {env : Env} {h₀ : Heap} {L W row : Addr} {m : Str → Option Value} {news : List (Addr × Obj)} {v sp most : Int} {t1 t2 t : Tok} {n : Nat} {vs : List Value} {ns : List Int} {k : Nat}
    {Q : Value → Shared → Prop} {E : Value → Shared → Prop} (K0 : Below callerA h₀ [] h₀) (BW : BaseOk w h₀) (F : Fr h₀ L s.heap m) (N : News h₀ L s.heap news) (hf : env.frame = some L) (hk : env.scope.kind = .function)
    (hW : (W, wellO v row sp t1 t2 n) ∈ news) (hrow : (row, PySem.W.listOf vs.toArray k) ∈ news) (hrW : row ≠ W) (hI : IntsAre vs ns) (hl0 : 0 < ns.length) (hl1 : ns.length ≤ 40) (hv : 0 ≤ v) (hs0 : 0 ≤ sp) (hs1 : sp ≤ 100) (hm : 0 < most) (hm1 : most < 1000)
    (keep : List (Addr × Obj)) (hkeep : ∀ p ∈ keep, p ∈ news ∧ p.1 ≠ W)
    (h : ∀ d t h' tk v' sp' t1' t2' n', 0 ≤ v' → sp ≤ sp' → sp' ≤ sp + 1 → 0 ≤ d → d < most → Fr h₀ L h' m → News h₀ L h' ((W, wellO v' row sp' t1' t2' n') :: keep) → Q (.int d t) { s with heap := h', toks := tk }) :
    wpAny (model pgm w) (callerA.deeper env) (call (.ref 152) [.ref W, .int most t] []) Q E s := by
  have N1 : News h₀ L s.heap [(W, wellO v row sp t1 t2 n)] := fun p hp => by rw [List.mem_singleton.mp hp]; exact N _ hW
  obtain ⟨FG, BG, _, _⟩ := groundX (A := callerA.deeper env) (R := fun _ _ => True) K0 F N1 rfl hf hk
  have G : Gd 3 w (callerA.deeper env) (hideAll s.heap [W]) := ⟨⟨h₀, [env], BG, BW⟩, rfl, (gdLaw (n := 3) (by omega) K0 BW F hf hk).dep, (gdLaw (n := 3) (by omega) K0 BW F hf hk).un⟩
  have hL0 : h₀.get? L = none := Heap.get?_none_of_le F.above
  refine wpAny_call (codeAny_mono (pull_spec (row := row) (vs := vs) (ns := ns) G (N _ hW).1 ⟨_, hideAll_get [W] (N _ hrow).1 (fun q => hrW (List.mem_singleton.mp q)), rfl, _, rfl⟩ hI hl0 hl1 hv hs0 hs1 hm hm1) ?_)
  rintro r s' ⟨d, t, h', tk, v', sp', t1', t2', n', rfl, rfl, hkp, hW', b1, b2, b3, b4, b5⟩
  refine h d t h' tk v' sp' t1' t2' n' b1 b2 b3 b4 b5 ⟨F.ns.at' fun o e => hkp _ o (Ne.symm (N _ hW).2.1) e, fun b o e => hkp b o (fun q => by have := (N _ hW).2.2; rw [q] at e; rw [show h₀.get? W = none from this] at e; cases e) (F.keep b o e), F.above⟩ fun p hp => ?_
  rcases List.mem_cons.mp hp with rfl | hp
  · exact ⟨hW', (N _ hW).2⟩
  · obtain ⟨h1, h2⟩ := hkeep p hp
    exact ⟨hkp _ _ h2 (N _ h1).1, (N _ h1).2⟩

theorem ne_res {w : World} {A : Around} {s : Shared} {v v' : Value} {r : Int ⊕ Str} {Q : Value → Shared → Prop} {E : Value → Shared → Prop} (h1 : IsRes v r) (h2 : IsRes v' r) (h : Q (.bool false) s) : wpAny (model pgm w) A (compareOp .NotEq v v') Q E s := by
  cases r with
  | inl i =>
    obtain ⟨t, rfl⟩ := h1
    obtain ⟨t', rfl⟩ := h2
    k_steps
    rw [show (i != i) = false by simp]; exact h
  | inr x =>
    obtain ⟨t, rfl⟩ := h1
    obtain ⟨t', rfl⟩ := h2
    k_steps
    rw [show (x != x) = false by simp]; exact h

theorem miss_use {w : World} {A : Around} {s : Shared} {h₀ : Heap} {L : Addr} {m : Str → Option Value} {news : List (Addr × Obj)} {Q : Value → Shared → Prop} {E : Value → Shared → Prop} (G : Gd 3 w A s.heap) (F : Fr h₀ L s.heap m) (N : News h₀ L s.heap news)
    (h : ∀ x d t1 t2 t3 h' tk, Fr h₀ L h' m → News h₀ L h' ((x, instObj 98 d) :: (d, missD w.params t1 t2 t3) :: news) → s.heap.get? x = none → s.heap.get? d = none → Q (.ref x) { s with heap := h', toks := tk }) :
    wpAny (model pgm w) A (call (.ref 138) [] []) Q E s := by
  have S : PureCall w A 138 [] s (fun v h' => ∃ x d t1 t2 t3, v = .ref x ∧ h'.get? x = some (instObj 98 d) ∧ h'.get? d = some (missD w.params t1 t2 t3) ∧ s.heap.get? x = none ∧ s.heap.get? d = none) := by
    clear h F N
    with_reducible rename Gd _ _ _ _ => Gq
    refine' Gd.elimP Gq ?_
    intro depq envsq grdq untq baseq pq looseq meanq mgq mbq Wq
    clear Gq
    refine' enterP Wq ?ho ?hcd ?hb ?hl ?c1 ?c2 ?c3 ?c4 ?_
    (case ho => k_is); (case hcd => k_is); (case hb => exact BindsTo.of_eq rfl); (case hl => exact locs rfl); (case c1 => exact rfl); (case c2 => exact rfl); (case c3 => exact rfl); (case c4 => decide)
    obtain ⟨Bq, BWq, KXq, Tq, hdepq, hunq⟩ := Wq
    intro hq₁ Fq Nq
    try dsimp only
    k_steps
    with_reducible rename News s.heap _ _ [_, _] => N2
    exact ⟨_, _, _, _, _, rfl, (N2 _ (.head _)).1, (N2 _ (.tail _ (.head _))).1, (N2 _ (.head _)).2.2, (N2 _ (.tail _ (.head _))).2.2⟩
  have old : ∀ b, s.heap.get? b = none → b ≠ L ∧ h₀.get? b = none := fun b hb => by
    refine ⟨fun q => ?_, ?_⟩
    · obtain ⟨o, _, _, e, _⟩ := F.ns; rw [q, e] at hb; cases hb
    · cases q : h₀.get? b with
      | none => rfl
      | some o => rw [F.keep b o q] at hb; cases hb
  refine PureCall.use S F N ?_
  rintro v h' tk ⟨x, d, t1, t2, t3, rfl, e1, e2, e3, e4⟩ hk F' N'
  refine h x d t1 t2 t3 h' tk F' (fun p hp => ?_) e3 e4
  rcases List.mem_cons.mp hp with rfl | hp
  · exact ⟨e1, old _ e3⟩
  · rcases List.mem_cons.mp hp with rfl | hp
    · exact ⟨e2, old _ e4⟩
    · exact N' p hp
theorem whole_use {w : World} {A : Around} {s : Shared} {h₀ : Heap} {L : Addr} {m : Str → Option Value} {news : List (Addr × Obj)} {i : Int} {t : Tok} {Q : Value → Shared → Prop} {E : Value → Shared → Prop} (G : Gd 3 w A s.heap) (F : Fr h₀ L s.heap m) (N : News h₀ L s.heap news)
    (h : ∀ x d l t1 t2 t3 t4 t5 t6 t7 h' tk, Fr h₀ L h' m → News h₀ L h' ((x, instObj 127 d) :: (d, vecD w.params l t1 t2 t3 t4 t5 t6) :: (l, W.listOf #[.int i t7] 0) :: news) → s.heap.get? x = none → s.heap.get? d = none → s.heap.get? l = none → Q (.ref x) { s with heap := h', toks := tk }) :
    wpAny (model pgm w) A (call (.ref 145) [.int i t] []) Q E s := by
  have S : PureCall w A 145 [.int i t] s (fun v h' => ∃ x d l t1 t2 t3 t4 t5 t6 t7, v = .ref x ∧ h'.get? x = some (instObj 127 d) ∧ h'.get? d = some (vecD w.params l t1 t2 t3 t4 t5 t6) ∧ h'.get? l = some (W.listOf #[.int i t7] 0) ∧ s.heap.get? x = none ∧ s.heap.get? d = none ∧ s.heap.get? l = none) := by
    clear h F N
    with_reducible rename Gd _ _ _ _ => Gq
    refine' Gd.elimP Gq ?_
    intro depq envsq grdq untq baseq pq looseq meanq mgq mbq Wq
    clear Gq
    refine' enterP Wq ?ho ?hcd ?hb ?hl ?c1 ?c2 ?c3 ?c4 ?_
    (case ho => k_is); (case hcd => k_is); (case hb => exact BindsTo.of_eq rfl); (case hl => exact locs rfl); (case c1 => exact rfl); (case c2 => exact rfl); (case c3 => exact rfl); (case c4 => decide)
    obtain ⟨Bq, BWq, KXq, Tq, hdepq, hunq⟩ := Wq
    intro hq₁ Fq Nq
    try dsimp only
    k_steps
    with_reducible rename News s.heap _ _ [_, _, _] => N2
    exact ⟨_, _, _, _, _, _, _, _, _, _, rfl, (N2 _ (.head _)).1, (N2 _ (.tail _ (.head _))).1, (N2 _ (.tail _ (.tail _ (.head _)))).1, (N2 _ (.head _)).2.2, (N2 _ (.tail _ (.head _))).2.2, (N2 _ (.tail _ (.tail _ (.head _)))).2.2⟩
  have old : ∀ b, s.heap.get? b = none → b ≠ L ∧ h₀.get? b = none := fun b hb => by
    refine ⟨fun q => ?_, ?_⟩
    · obtain ⟨o, _, _, e, _⟩ := F.ns; rw [q, e] at hb; cases hb
    · cases q : h₀.get? b with
      | none => rfl
      | some o => rw [F.keep b o q] at hb; cases hb
  refine PureCall.use S F N ?_
  rintro v h' tk ⟨x, d, l, t1, t2, t3, t4, t5, t6, t7, rfl, e1, e2, e3, e4, e5, e6⟩ hk F' N'
  refine h x d l t1 t2 t3 t4 t5 t6 t7 h' tk F' (fun p hp => ?_) e4 e5 e6
  rcases List.mem_cons.mp hp with rfl | hp
  · exact ⟨e1, old _ e4⟩
  · rcases List.mem_cons.mp hp with rfl | hp
    · exact ⟨e2, old _ e5⟩
    · rcases List.mem_cons.mp hp with rfl | hp
      · exact ⟨e3, old _ e6⟩
      · exact N' p hp

end
section
def ItemIn (w : World) (nw : List (Addr × Obj)) (x : Addr) (fig : Int) : Prop :=
  (fig = 0 ∧ ∃ d t1 t2 t3, (x, instObj 98 d) ∈ nw ∧ (d, missD w.params t1 t2 t3) ∈ nw) ∨
  (fig ≠ 0 ∧ ∃ d l t1 t2 t3 t4 t5 t6 tk, (x, instObj 127 d) ∈ nw ∧ (d, vecD w.params l t1 t2 t3 t4 t5 t6) ∈ nw ∧ (l, W.listOf #[.int fig tk] 0) ∈ nw)
def TupIn (nw : List (Addr × Obj)) (p : Addr) (items : Array Value) : Prop := ∃ o, (p, o) ∈ nw ∧ o.cls = .type "tuple" ∧ ∃ n, o.data = .seq items n
def PlanIn (nw : List (Addr × Obj)) (vs : List Value) (ents : List Ent) : Prop :=
  vs.length = ents.length ∧ ∀ (i : Nat) (e : Ent), ents[i]? = some e → ∃ p tv tf, vs[i]? = some (.ref p) ∧ TupIn nw p #[tv, .int e.2 tf] ∧ TagV tv e.1
def RowsIn (w : World) (nw : List (Addr × Obj)) (vs : List Value) (ents : List Ent) : Prop :=
  vs.length = ents.length ∧ ∀ (i : Nat) (e : Ent), ents[i]? = some e → ∃ p x tv, vs[i]? = some (.ref p) ∧ TupIn nw p #[tv, .ref x] ∧ TagV tv e.1 ∧ ItemIn w nw x e.2
section
variable {w : World} {h₀ h : Heap} {L : Addr} {nw nw' : List (Addr × Obj)}
theorem TupIn.sub {p : Addr} {its : Array Value} (k : ∀ p ∈ nw, p ∈ nw') : TupIn nw p its → TupIn nw' p its := fun ⟨o, a, b⟩ => ⟨o, k _ a, b⟩
theorem ItemIn.sub {x : Addr} {f : Int} (k : ∀ p ∈ nw, p ∈ nw') : ItemIn w nw x f → ItemIn w nw' x f := by
  rintro (⟨a, d, t1, t2, t3, b, c⟩ | ⟨a, d, l, t1, t2, t3, t4, t5, t6, tk, b, c, e⟩)
  · exact .inl ⟨a, d, t1, t2, t3, k _ b, k _ c⟩
  · exact .inr ⟨a, d, l, t1, t2, t3, t4, t5, t6, tk, k _ b, k _ c, k _ e⟩
theorem PlanIn.sub {vs : List Value} {ents : List Ent} (k : ∀ p ∈ nw, p ∈ nw') : PlanIn nw vs ents → PlanIn nw' vs ents := fun ⟨a, b⟩ => ⟨a, fun i e he => let ⟨p, tv, tf, c, d, f⟩ := b i e he; ⟨p, tv, tf, c, d.sub k, f⟩⟩
theorem RowsIn.sub {vs : List Value} {ents : List Ent} (k : ∀ p ∈ nw, p ∈ nw') : RowsIn w nw vs ents → RowsIn w nw' vs ents := fun ⟨a, b⟩ => ⟨a, fun i e he => let ⟨p, x, tv, c, d, f, g⟩ := b i e he; ⟨p, x, tv, c, d.sub k, f, g.sub k⟩⟩
theorem TupIn.at {p : Addr} {its : Array Value} (N : News h₀ L h nw) : TupIn nw p its → IsTup h p its := fun ⟨o, a, b⟩ => ⟨o, (N _ a).1, b⟩
theorem ItemIn.at {x : Addr} {f : Int} (N : News h₀ L h nw) : ItemIn w nw x f → ItemAt w h x f := by
  rintro (⟨a, d, t1, t2, t3, b, c⟩ | ⟨a, d, l, t1, t2, t3, t4, t5, t6, tk, b, c, e⟩)
  · exact .inl ⟨a, d, t1, t2, t3, (N _ b).1, (N _ c).1⟩
  · exact .inr ⟨a, d, l, t1, t2, t3, t4, t5, t6, tk, (N _ b).1, (N _ c).1, (N _ e).1⟩
theorem PlanIn.at {a : Addr} {vs : List Value} {ents : List Ent} {k : Nat} (N : News h₀ L h nw) (ha : (a, W.listOf vs.toArray k) ∈ nw) : PlanIn nw vs ents → PlanAt h a ents := fun ⟨e, b⟩ =>
  ⟨vs, ⟨_, (N _ ha).1, rfl, _, rfl⟩, e, fun i e he => let ⟨p, tv, tf, c, d, f⟩ := b i e he; ⟨p, tv, tf, c, d.at N, f⟩⟩
theorem RowsIn.at {a : Addr} {vs : List Value} {ents : List Ent} {k : Nat} (N : News h₀ L h nw) (ha : (a, W.listOf vs.toArray k) ∈ nw) : RowsIn w nw vs ents → RowsAt w h a ents := fun ⟨e, b⟩ =>
  ⟨vs, ⟨_, (N _ ha).1, rfl, _, rfl⟩, e, fun i e he => let ⟨p, x, tv, c, d, f, g⟩ := b i e he; ⟨p, x, tv, c, d.at N, f, g.at N⟩⟩
theorem PlanIn.snoc {vs : List Value} {ents : List Ent} {p : Addr} {tv : Value} {tag : Option Str} {f : Int} {tf : Tok} (q : PlanIn nw vs ents) (ht : TupIn nw p #[tv, .int f tf]) (hg : TagV tv tag) : PlanIn nw (vs ++ [.ref p]) (ents ++ [(tag, f)]) := by
  obtain ⟨hl, hi⟩ := q
  refine ⟨by simp [hl], fun i e he => ?_⟩
  by_cases hlt : i < ents.length
  · rw [List.getElem?_append_left hlt] at he
    obtain ⟨p', tv', tf', a, b, c⟩ := hi i e he
    exact ⟨p', tv', tf', by rw [List.getElem?_append_left (by omega)]; exact a, b, c⟩
  · rw [List.getElem?_append_right (by omega)] at he
    have h0 : i - ents.length = 0 := by
      have := (List.getElem?_eq_some_iff.mp he).1
      simp at this; omega
    rw [h0] at he
    cases he
    exact ⟨p, tv, tf, by rw [List.getElem?_append_right (by omega), show i - vs.length = 0 by omega]; rfl, ht, hg⟩
theorem RowsIn.snoc {vs : List Value} {ents : List Ent} {p x : Addr} {tv : Value} {tag : Option Str} {f : Int} (q : RowsIn w nw vs ents) (ht : TupIn nw p #[tv, .ref x]) (hg : TagV tv tag) (hx : ItemIn w nw x f) : RowsIn w nw (vs ++ [.ref p]) (ents ++ [(tag, f)]) := by
  obtain ⟨hl, hi⟩ := q
  refine ⟨by simp [hl], fun i e he => ?_⟩
  by_cases hlt : i < ents.length
  · rw [List.getElem?_append_left hlt] at he
    obtain ⟨p', x', tv', a, b, c, d⟩ := hi i e he
    exact ⟨p', x', tv', by rw [List.getElem?_append_left (by omega)]; exact a, b, c, d⟩
  · rw [List.getElem?_append_right (by omega)] at he
    have h0 : i - ents.length = 0 := by
      have := (List.getElem?_eq_some_iff.mp he).1
      simp at this; omega
    rw [h0] at he
    cases he
    exact ⟨p, x, tv, by rw [List.getElem?_append_right (by omega), show i - vs.length = 0 by omega]; rfl, ht, hg, hx⟩
end
def EndN (h₀ : Heap) (L : Addr) (I : Addr) (oI : Obj) (J : (Str → Option Value) → List (Addr × Obj) → Prop) (s₁ s₂ : Shared) : Prop :=
  ∃ h' tk m' nx, s₂ = { s₁ with heap := h', toks := tk } ∧ Fr h₀ L h' m' ∧ News h₀ L h' ((I, oI) :: nx) ∧ (∀ p ∈ nx, p.1 ≠ I) ∧ J m' nx
def PostN (h₀ : Heap) (L : Addr) (I : Addr) (oI : Obj) (J : (Str → Option Value) → List (Addr × Obj) → Prop) (s₁ : Shared) (Q : Flow → Shared → Prop) (f : Flow) (s₂ : Shared) : Prop :=
  match f with
  | .ret v => Q (.ret v) s₂
  | .brk => Q .next s₂
  | _ => EndN h₀ L I oI J s₁ s₂
theorem EndN.intro {h₀ : Heap} {L : Addr} {I : Addr} {oI : Obj} {J : (Str → Option Value) → List (Addr × Obj) → Prop} {m' : Str → Option Value} {nx : List (Addr × Obj)} {s₁ : Shared} {h' : Heap} {tk : Nat} (F : Fr h₀ L h' m') (N : News h₀ L h' ((I, oI) :: nx)) (hn : ∀ p ∈ nx, p.1 ≠ I)
    (hj : J m' nx) : EndN h₀ L I oI J s₁ { s₁ with heap := h', toks := tk } := ⟨h', tk, m', nx, rfl, F, N, hn, hj⟩
/-- a range's loop whose turns change the ledger -/
theorem range_loopN {w : World} {A : Around} {E : Value → Shared → Prop} {s : Shared} {env : Env} {h₀ : Heap} {x : Str} {body : List Stmt} {Q : Flow → Shared → Prop} {r : Addr} {a₀ b₀ : Int} {t₀ u₀ v₀ : Tok} {n : Nat}
    {m₀ : Str → Option Value} {news : List (Addr × Obj)} (J : Nat → (Str → Option Value) → List (Addr × Obj) → Prop)
    (hh : A.handled = none) (hr : IsRange s.heap r a₀ b₀ 1 t₀ u₀ v₀) (hsmall : Builtin.Range.small a₀ b₀ 1 = true) (hn : Builtin.Range.rangeSize a₀ b₀ 1 = (n : Int)) (F : Fr h₀ env.locals s.heap m₀) (N : News h₀ env.locals s.heap news) (hj : J 0 m₀ news)
    (turn : ∀ i t m₁ nx h tk I oI, i < n → J i m₁ nx → (∀ p ∈ nx, p.1 ≠ I) → Fr h₀ env.locals h (fun y => if y = x then some (.int (a₀ + (i : Nat)) t) else m₁ y) → News h₀ env.locals h ((I, oI) :: nx) →
      wpAny (model pgm w) A (execs body env) (PostN h₀ env.locals I oI (J (i + 1)) { s with heap := h, toks := tk } Q) E { s with heap := h, toks := tk })
    (done : ∀ m₁ nx h tk, J n m₁ nx → Fr h₀ env.locals h m₁ → News h₀ env.locals h nx → Q .next { s with heap := h, toks := tk }) :
    wpAny (model pgm w) A (pyIter (.ref r)) (fun it s₂ => LoopAtV pgm w A h₀ env x body Q E it s₂) E s := by
  refine wpAny_pyIter_range hr hsmall ?_
  have W : Walks pgm w A s.heap.objs.size [s.heap.objs.size] [s.heap.objs.size] n (fun i v => i < n ∧ ∃ t, v = .int (a₀ + i * 1) t)
      (fun i h => IsRangeIter h s.heap.objs.size (a₀ + (i : Nat) * 1) ((n : Int) - (i : Nat)) 1) := (Walks.range hh _ a₀ 1 n).bound
  have hI0 : h₀.get? s.heap.objs.size = none := next_is_new F
  refine ⟨s.heap.objs.size, [s.heap.objs.size], [s.heap.objs.size], n, _, _, m₀, news, J, rfl, W, ?_, ?_, ?_, (by show IsRangeIter _ _ _ _ _; rw [hn]; simpa using Heap.get?_push_size _ rfl), F.push _, (fun p hp => ⟨Heap.get?_push_of_some _ (N p hp).1, (N p hp).2⟩), hj, ?_, ?_⟩
  · intro hm
    exact absurd F.ns.lt ((List.mem_singleton.mp hm) ▸ Nat.lt_irrefl _)
  · intro b hb
    rw [List.mem_singleton.mp hb]
    exact hI0
  · intro p hp hI
    exact absurd (Heap.lt_size (N p hp).1) ((List.mem_singleton.mp hI) ▸ Nat.lt_irrefl _)
  · rintro i v m₁ nx s₁ own ⟨hh', tk', rfl⟩ hin ⟨_, t, rfl⟩ hJ hoff hown hget hall hst F₁ N₁
    rw [Int.mul_one] at F₁
    obtain ⟨oI, hoI⟩ : ∃ o, hh'.get? s.heap.objs.size = some o := ⟨_, hst⟩
    have hmem := hall s.heap.objs.size (List.mem_singleton.mpr rfl) hI0 oI hoI
    have hoff' : ∀ p ∈ nx, p.1 ≠ s.heap.objs.size := fun p hp q => hoff p hp (List.mem_singleton.mpr q)
    have N₂ : News h₀ env.locals hh' ((s.heap.objs.size, oI) :: nx) := fun p hp => by
      rcases List.mem_cons.mp hp with rfl | hp
      · exact N₁ _ (List.mem_append_left _ hmem)
      · exact N₁ _ (List.mem_append_right _ hp)
    refine wpAny_mono (turn i t m₁ nx hh' tk' _ oI hin hJ hoff' F₁ N₂) (fun f s₂ p => ?_) fun _ _ e => e
    have fin : EndN h₀ env.locals s.heap.objs.size oI (J (i + 1)) { s with heap := hh', toks := tk' } s₂ → LoopStepU h₀ env.locals [s.heap.objs.size] own (J (i + 1)) { s with heap := hh', toks := tk' } .next s₂ := by
      rintro ⟨h', tk, m', nx', e, F', N', hn', hm⟩
      refine ⟨rfl, h', tk, m', nx', e, F', fun p hp => ?_, fun p hp q => hn' p hp (List.mem_singleton.mp q), hm⟩
      rcases List.mem_append.mp hp with hp | hp
      · have e1 : p.1 = s.heap.objs.size := List.mem_singleton.mp (hown p hp)
        have e2 := hget p hp
        have e3 : p = (s.heap.objs.size, oI) := by
          obtain ⟨a, b⟩ := p
          dsimp only at e1 e2
          subst e1
          rw [show hh'.get? s.heap.objs.size = some oI from hoI] at e2
          cases e2; rfl
        rw [e3]; exact N' _ (.head _)
      · exact N' _ (.tail _ hp)
    cases f with
    | ret v => exact .ret p
    | brk => exact .brk p
    | next => exact .next (fin p)
    | cont => exact .cont (fin p)
  · rintro h' tk m' nx F' N' _ hJ
    exact done m' nx h' tk hJ F' N'
section
open PyProof.Rows.LCg PyProof.Rows.LCp
theorem comp_pairs {w : World} {A : Around} {h₀ : Heap} {L : Addr} {m : Str → Option Value} {env : Env} {elt : PySem.Expr} {x x₂ : Str} {scope : Scope} {cl : List (Str × Addr)} {s : Shared} {S : List (Addr × Obj) → Prop} {P : Nat → Value → Prop}
    {Fin : List Value → List (Addr × Obj) → Prop} {n : Nat} (G : Nat → List Value → List (Addr × Obj) → Prop)
    (turn : ∀ i ys nw v, i < n → G i ys nw → P i v → ∃ (t : Addr) (ot : Obj) (v₁ v₂ : Value) (nt : Nat), v = .ref t ∧ (t, ot) ∈ nw ∧ ot.cls = .type "tuple" ∧ ot.data = .seq #[v₁, v₂] nt ∧
      ∀ I oI C oC D m₂ h tk (E' : Value → Shared → Prop), NsObj oC m₂ → m₂ x = some v₁ → m₂ x₂ = some v₂ → Fr h₀ L h m → News h₀ L h ((I, oI) :: (C, oC) :: (D, lst ys) :: nw) → Off3 I C D nw → ((@Ne Nat I C) ∧ (@Ne Nat I D) ∧ (@Ne Nat C D)) →
      wpAny (model pgm w) A (eval elt (compEnvC scope cl C env)) (CompEnd h₀ L m { s with heap := h, toks := tk } I oI C oC D (lst ys) S (fun y nw' => HoldG (G (i + 1) (ys ++ [y]) nw'))) E' { s with heap := h, toks := tk })
    (fin : ∀ ys nw, G n ys nw → Fin ys nw) : ∀ k i ys nw, i + k = n → G i ys nw → CompRestP pgm w A h₀ L m env elt x x₂ scope cl s S P Fin k i ys nw := by
  intro k
  induction k with
  | zero => intro i ys nw hi hG; obtain rfl : i = n := by omega
            exact CompRestP.zero (fin ys nw hG)
  | succ k ih =>
    intro i ys nw hi hG
    refine CompRestP.succ fun v hP => ?_
    obtain ⟨t, ot, v₁, v₂, nt, e1, e2, e3, e4, R⟩ := turn i ys nw v (by omega) hG hP
    refine ⟨t, ot, v₁, v₂, nt, e1, e2, e3, e4, fun I oI C oC D m₂ h tk E' hC hx hx2 F N off ne => ?_⟩
    exact wpAny_mono (R I oI C oC D m₂ h tk E' hC hx hx2 F N off ne) (fun y s₂ p => CompEnd.mono p fun nw e => ih (i + 1) _ nw (by omega) e) fun _ _ e => e
end
/-- the law's list of tags -/
theorem tags_at {t0 t1 t2 t3 t4 t5 t6 t7 t8 : Tok} {d : Int} (h0 : 0 ≤ d) (h1 : d < 10) :
    ∃ tv tag, (#[Value.none, .str "" t0, .str "a" t1, .str "b" t2, .str "c" t3, .str "NA" t4, .str "EXPR" t5, .str "b" t6, .str "c" t7, .str "a" t8] : Array Value)[d.toNat]? = some tv ∧ TagV tv tag := by
  obtain ⟨n, rfl⟩ : ∃ n : Nat, d = n := ⟨d.toNat, by omega⟩
  have hn : n < 10 := by omega
  rw [Int.toNat_natCast]
  match n, hn with
  | 0, _ => exact ⟨_, none, rfl, rfl⟩
  | 1, _ => exact ⟨_, some _, rfl, _, rfl⟩
  | 2, _ => exact ⟨_, some _, rfl, _, rfl⟩
  | 3, _ => exact ⟨_, some _, rfl, _, rfl⟩
  | 4, _ => exact ⟨_, some _, rfl, _, rfl⟩
  | 5, _ => exact ⟨_, some _, rfl, _, rfl⟩
  | 6, _ => exact ⟨_, some _, rfl, _, rfl⟩
  | 7, _ => exact ⟨_, some _, rfl, _, rfl⟩
  | 8, _ => exact ⟨_, some _, rfl, _, rfl⟩
  | 9, _ => exact ⟨_, some _, rfl, _, rfl⟩

end
section
theorem pack_tags {Tg : Addr} {news : List (Addr × Obj)} {t0 t1 t2 t3 t4 t5 t6 t7 t8 : Tok} {n : Nat} (hm : (Tg, W.listOf #[Value.none, .str "" t0, .str "a" t1, .str "b" t2, .str "c" t3, .str "NA" t4, .str "EXPR" t5, .str "b" t6, .str "c" t7, .str "a" t8] n) ∈ news) :
    ∃ its, (Tg, W.listOf its n) ∈ news ∧ ∀ d : Int, 0 ≤ d → d < 10 → ∃ tv tag, its[d.toNat]? = some tv ∧ TagV tv tag := ⟨_, hm, fun _ h0 h1 => tags_at h0 h1⟩
theorem list_of_news {h₀ h : Heap} {L a : Addr} {news : List (Addr × Obj)} {its : Array Value} {n : Nat} (N : News h₀ L h news) (hm : (a, W.listOf its n) ∈ news) : h.IsList a its := ⟨_, (N _ hm).1, rfl, _, rfl⟩
theorem keep_nil {P : Addr × Obj → Prop} : ∀ p ∈ ([] : List (Addr × Obj)), P p := fun _ h => by cases h
theorem keep_cons {P : Addr × Obj → Prop} {a : Addr × Obj} {l : List (Addr × Obj)} (h : P a) (k : ∀ p ∈ l, P p) : ∀ p ∈ a :: l, P p := fun p hp => by
  rcases List.mem_cons.mp hp with rfl | hp
  · exact h
  · exact k p hp
theorem news_ne {h₀ h : Heap} {L a b : Addr} {o o' : Obj} {news : List (Addr × Obj)} (N : News h₀ L h news) (ha : (a, o) ∈ news) (hb : (b, o') ∈ news) (hne : o ≠ o') : a ≠ b := fun q => by
  have h1 := (N _ ha).1
  have h2 := (N _ hb).1
  dsimp only at h1 h2
  rw [q] at h1
  rw [h1] at h2
  exact hne (Option.some.inj h2)
theorem pack_tagsN {h₀ h : Heap} {L : Addr} {a : Addr × Obj} {r : List (Addr × Obj)} {Tg : Addr} {t0 t1 t2 t3 t4 t5 t6 t7 t8 : Tok} {n : Nat} (_ : News h₀ L h (a :: (Tg, W.listOf #[Value.none, .str "" t0, .str "a" t1, .str "b" t2, .str "c" t3, .str "NA" t4, .str "EXPR" t5, .str "b" t6, .str "c" t7, .str "a" t8] n) :: r)) :
    ∃ its, (Tg, W.listOf its n) ∈ (a :: (Tg, W.listOf #[Value.none, .str "" t0, .str "a" t1, .str "b" t2, .str "c" t3, .str "NA" t4, .str "EXPR" t5, .str "b" t6, .str "c" t7, .str "a" t8] n) :: r) ∧ ∀ d : Int, 0 ≤ d → d < 10 → ∃ tv tag, its[d.toNat]? = some tv ∧ TagV tv tag := ⟨_, .tail _ (.head _), fun _ h0 h1 => tags_at h0 h1⟩
theorem take_len (l : List Int) : 0 < (List.take 40 (l ++ [0])).length ∧ (List.take 40 (l ++ [0])).length ≤ 40 := by
  rw [List.length_take, List.length_append]
  show 0 < min 40 (l.length + 1) ∧ min 40 (l.length + 1) ≤ 40
  omega
abbrev cellOf {w : World} {base : Heap} (_ : BaseOk w base) : Addr := base.objs.size + 1
theorem append_use {w : World} {A : Around} {s : Shared} {h₀ : Heap} {L P : Addr} {m : Str → Option Value} {news : List (Addr × Obj)} {vs : List Value} {x : Value} {c : Nat} {Q : Value → Shared → Prop} {E : Value → Shared → Prop} (F : Fr h₀ L s.heap m) (N : News h₀ L s.heap news)
    (hP : (P, W.listOf (List.toArray vs) c) ∈ news) (hlen : vs.length ≤ 1000) (keep : List (Addr × Obj)) (hkeep : ∀ p ∈ keep, p ∈ news ∧ p.1 ≠ P)
    (h : ∀ h', Fr h₀ L h' m → News h₀ L h' ((P, W.listOf (List.toArray (vs ++ [x])) (c + 1)) :: keep) → Q .none { s with heap := h' }) :
    wpAny (model pgm w) A (call (.builtin "list.append") [.ref P, x]) Q E s := by
  obtain ⟨e1, e2, e3⟩ := N _ hP
  refine append_at e1 (fun h' hs he => h h' (F.change hs e2 e3) fun p hp => ?_) (by rw [List.size_toArray]; exact Nat.le_trans hlen (by decide))
  rcases List.mem_cons.mp hp with rfl | hp
  · exact ⟨he.trans (by rw [List.push_toArray]), e2, e3⟩
  · obtain ⟨k1, k2⟩ := hkeep p hp
    exact ⟨hs.extBut _ _ k2 (N _ k1).1, (N _ k1).2⟩
abbrev worldOf {w : World} {base : Heap} (_ : BaseOk w base) : World := w
theorem rows_nil {w : World} {nw : List (Addr × Obj)} {ents : List Ent} : RowsIn w nw [] (ents.take 0) := ⟨rfl, fun i e he => by rw [List.take_zero] at he; cases he⟩
theorem fresh_ne {h₀ h : Heap} {L a x : Addr} {o : Obj} {nw : List (Addr × Obj)} (N : News h₀ L h nw) (hm : (a, o) ∈ nw) (z : h.get? x = none) : x ≠ a := fun q => by
  have := (N _ hm).1
  rw [q] at z
  rw [show h.get? a = some o from this] at z
  cases z
theorem list_loopI {w : World} {A : Around} {E : Value → Shared → Prop} {s : Shared} {env : Env} {h₀ : Heap} {x : Str} {body : List Stmt} {Q : Flow → Shared → Prop} {l : Addr} {vs : List Value} {k : Nat}
    {m₀ : Str → Option Value} {news : List (Addr × Obj)} (J : Nat → (Str → Option Value) → Prop)
    (hh : A.handled = none) (hm : (l, W.listOf vs.toArray k) ∈ news) (F : Fr h₀ env.locals s.heap m₀) (N : News h₀ env.locals s.heap news) (hj : J 0 m₀)
    (turn : ∀ i v m₁ h tk I oI, vs[i]? = some v → J i m₁ → Fr h₀ env.locals h (fun y => if y = x then some v else m₁ y) → News h₀ env.locals h ((I, oI) :: news) →
      wpAny (model pgm w) A (execs body env) (InvPost h₀ env.locals (J (i + 1)) ((I, oI) :: news) { s with heap := h, toks := tk } Q) E { s with heap := h, toks := tk })
    (done : ∀ m₁ h tk, J vs.length m₁ → Fr h₀ env.locals h m₁ → News h₀ env.locals h news → Q .next { s with heap := h, toks := tk }) :
    wpAny (model pgm w) A (pyIter (.ref l)) (fun it s₂ => LoopAtV pgm w A h₀ env x body Q E it s₂) E s := by
  have hl : s.heap.IsList l vs.toArray := list_of_news N hm
  obtain ⟨ol, hol, _⟩ := id hl
  have hne : l ≠ s.heap.objs.size := Nat.ne_of_lt (Heap.lt_size hol)
  refine wpAny_pyIter_list hl ?_
  have WW := Walks.list (prog := pgm) (w := w) hh s.heap.objs.size l hne vs.toArray
  rw [List.size_toArray] at WW
  have hI0 : h₀.get? s.heap.objs.size = none := next_is_new F
  refine ⟨s.heap.objs.size, [s.heap.objs.size, l], [s.heap.objs.size], vs.length, _, _, m₀, news, fun i m₁ nx => nx = news ∧ J i m₁, rfl, WW, ?_, ?_, ?_, ⟨⟨_, Heap.get?_push_size _ rfl, rfl, rfl⟩, hl.at fun o e => Heap.get?_push_of_some _ e⟩, F.push _, (fun p hp => ⟨Heap.get?_push_of_some _ (N p hp).1, (N p hp).2⟩), ⟨rfl, hj⟩, ?_, ?_⟩
  · intro hm'
    rcases List.mem_cons.mp hm' with e | hm'
    · exact absurd F.ns.lt (e ▸ Nat.lt_irrefl _)
    · exact (N _ hm).2.1 (List.mem_singleton.mp hm').symm
  · intro b hb
    rw [List.mem_singleton.mp hb]
    exact hI0
  · intro p hp hI
    exact absurd (Heap.lt_size (N p hp).1) ((List.mem_singleton.mp hI) ▸ Nat.lt_irrefl _)
  · rintro i v m₁ nx s₁ own ⟨hh', tk', rfl⟩ hin hP ⟨rfl, hJ⟩ hoff hown hget hall hst F₁ N₁
    obtain ⟨oI, hoI⟩ : ∃ o, hh'.get? s.heap.objs.size = some o := by obtain ⟨o, e, _⟩ := hst.1; exact ⟨o, e⟩
    have hmem := hall s.heap.objs.size (.head _) hI0 oI hoI
    have N₂ : News h₀ env.locals hh' ((s.heap.objs.size, oI) :: nx) := fun p hp => by
      rcases List.mem_cons.mp hp with rfl | hp
      · exact N₁ _ (List.mem_append_left _ hmem)
      · exact N₁ _ (List.mem_append_right _ hp)
    refine wpAny_mono (turn i v m₁ hh' tk' _ oI (by simpa using hP) hJ F₁ N₂) (fun f s₂ p => ?_) fun _ _ e => e
    have fin : InvEnd h₀ env.locals (J (i + 1)) ((s.heap.objs.size, oI) :: nx) { s with heap := hh', toks := tk' } s₂ → LoopStepU h₀ env.locals [s.heap.objs.size] own (fun m₁ nx' => nx' = nx ∧ J (i + 1) m₁) { s with heap := hh', toks := tk' } .next s₂ := by
      rintro ⟨h', tk, m', nx', e, F', N', hn', hjj⟩
      refine ⟨rfl, h', tk, m', nx, e, F', fun p hp => ?_, hoff, rfl, hjj⟩
      rcases List.mem_append.mp hp with hp | hp
      · have e2 := hget p hp
        have : p ∈ (s.heap.objs.size, oI) :: nx := by
          obtain ⟨a, b⟩ := p
          rcases List.mem_cons.mp (hown _ hp) with e1 | e1
          · dsimp only at e1 e2
            subst e1
            rw [show hh'.get? s.heap.objs.size = some oI from hoI] at e2
            cases e2; exact .head _
          · have e1' := List.mem_singleton.mp e1
            dsimp only at e1' e2
            subst e1'
            rw [show hh'.get? a = some _ from (N₁ _ (List.mem_append_right _ hm)).1] at e2
            cases e2; exact .tail _ hm
        exact N' p (hn' p this)
      · exact N' p (hn' p (.tail _ hp))
    cases f with
    | ret v => exact .ret p
    | brk => exact .brk p
    | next => exact .next (fin p)
    | cont => exact .cont (fin p)
  · rintro h' tk m' nx F' N' _ ⟨rfl, hJ⟩
    exact done m' h' tk hJ F' N'
theorem names_at {t0 t1 t2 t3 t4 : Tok} {i : Nat} {v : Value} (h : ([.str "a" t0, .str "b" t1, .str "c" t2, .str "NA" t3, .str "d" t4] : List Value)[i]? = some v) : ∃ nm t, v = .str nm t ∧ nm ≠ ("" : Str) := by
  match i, h with
  | 0, h => cases h; exact ⟨_, _, rfl, by decide⟩
  | 1, h => cases h; exact ⟨_, _, rfl, by decide⟩
  | 2, h => cases h; exact ⟨_, _, rfl, by decide⟩
  | 3, h => cases h; exact ⟨_, _, rfl, by decide⟩
  | 4, h => cases h; exact ⟨_, _, rfl, by decide⟩
theorem len_list {w : World} {A : Around} {E : Value → Shared → Prop} {s : Shared} {h₀ : Heap} {L D : Addr} {news : List (Addr × Obj)} {vs : List Value} {k n : Nat} {Q : Value → Shared → Prop} (N : News h₀ L s.heap news) (hm : (D, W.listOf vs.toArray k) ∈ news) (hn : vs.length = n) (h2 : n ≤ 100)
    (h : Q (.int n (s.toks + 1)) { s with toks := s.toks + 1 + 1 }) : wpAny (model pgm w) A (call (.builtin "len") [.ref D]) Q E s := by
  have e : vs.toArray.size = n := by rw [List.size_toArray]; exact hn
  refine Calls.call_len_list (items := vs.toArray) (list_of_news N hm) (by rw [e]; omega) ?_
  rw [e]; exact h
theorem placeGo_idx : ∀ (l : List Ent) (k : Nat), placeGo l k = match idxOf (isNm "EXPR") l k with | i :: _ => i | [] => 0
  | [], _ => rfl
  | e :: r, k => by
    have h1 : placeGo (e :: r) k = if e.1 = some ("EXPR" : Str) then (k : Int) else placeGo r (k + 1) := rfl
    have h2 : idxOf (isNm "EXPR") (e :: r) k = if isNm "EXPR" e then (k : Int) :: idxOf (isNm "EXPR") r (k + 1) else idxOf (isNm "EXPR") r (k + 1) := rfl
    rw [h1, h2]
    by_cases h : e.1 = some ("EXPR" : Str)
    · rw [if_pos h, if_pos (by simpa [isNm] using h)]
    · rw [if_neg h, if_neg (by simpa [isNm] using h)]
      exact placeGo_idx r (k + 1)
theorem two_at {a b : Int} {ta tb : Tok} {i : Nat} {v : Value} (h : ([.int a ta, .int b tb] : List Value)[i]? = some v) : ∃ k t, v = .int k t ∧ (k = a ∨ k = b) := by
  match i, h with
  | 0, h => cases h; exact ⟨_, _, rfl, .inl rfl⟩
  | 1, h => cases h; exact ⟨_, _, rfl, .inr rfl⟩
theorem four_at {a b c d : Value} {i : Nat} {v : Value} (h : ([a, b, c, d] : List Value)[i]? = some v) : v = a ∨ v = b ∨ v = c ∨ v = d := by
  match i, h with
  | 0, h => cases h; exact .inl rfl
  | 1, h => cases h; exact .inr (.inl rfl)
  | 2, h => cases h; exact .inr (.inr (.inl rfl))
  | 3, h => cases h; exact .inr (.inr (.inr rfl))
theorem numRes_none {ents : List Ent} {k : Int} (h : k < 1 ∨ (ents.length : Int) < k) : numRes ents k = .inr "none" := by unfold numRes; rw [if_pos h]

end
section
theorem drop_take_cons {l : List Ent} {i j : Nat} (h : i < j) (hl : i < l.length) : (l.take j).drop i = l[i] :: (l.take j).drop (i + 1) := by
  have h' : i < (l.take j).length := by rw [List.length_take]; omega
  rw [List.drop_eq_getElem_cons h', List.getElem_take]
theorem idx_cons0 {p : Ent → Bool} {l : List Ent} {f : Int} {rest : List Int} (h : idxOf p l 0 = f :: rest) : ∃ (j : Nat) (e : Ent), f = (j : Int) ∧ l[j]? = some e ∧ p e = true ∧ (∀ e' ∈ l.take j, p e' = false) := by
  obtain ⟨j, e, h1, h2, h3, h4, _⟩ := idx_cons h
  exact ⟨j, e, by rw [h1, Nat.zero_add], h2, h3, h4⟩
theorem idx_len {p : Ent → Bool} : ∀ {l : List Ent} {k : Nat}, (idxOf p l k).length ≤ l.length
  | [], _ => Nat.le_refl _
  | a :: r, k => by
    have e : idxOf p (a :: r) k = if p a then (k : Int) :: idxOf p r (k + 1) else idxOf p r (k + 1) := rfl
    have := idx_len (p := p) (l := r) (k := k + 1)
    rw [e, List.length_cons]
    split
    · rw [List.length_cons]; omega
    · omega
theorem len_news {w : World} {A : Around} {E : Value → Shared → Prop} {s : Shared} {h₀ : Heap} {L D : Addr} {news : List (Addr × Obj)} {vs : List Value} {n : Nat} {Q : Value → Shared → Prop} (N : News h₀ L s.heap news) (hm : (D, LCg.lst vs) ∈ news) (hn : vs.length = n) (h2 : n ≤ 100)
    (h : Q (.int n (s.toks + 1)) { s with toks := s.toks + 1 + 1 }) : wpAny (model pgm w) A (call (.builtin "len") [.ref D]) Q E s := by
  have e : vs.toArray.size = n := by rw [List.size_toArray]; exact hn
  refine Calls.call_len_list (items := vs.toArray) ⟨_, (N _ hm).1, rfl, _, rfl⟩ (by rw [e]; omega) ?_
  rw [e]; exact h
theorem res_no {nm : Str} {ents : List Ent} {j : Nat} (hnm : nm ≠ ("" : Str)) (hno : ∀ e ∈ ents, isNm nm e = false) (hj : j = ents.length) : rowGo nm ents none = match idxOf isDef (ents.take j) 0 with
    | [] => .inr "none"
    | [i] => rowGo nm [] (ents[i.toNat]?.map (·.2))
    | _ => .inr dupS := by
  have := rowGo_pre hnm ents [] none hno
  rw [List.append_nil] at this
  rw [this, hj, List.take_length]
  cases idxOf isDef ents 0 with
  | nil => rfl
  | cons a l => cases l <;> rfl
theorem res_yes {nm : Str} {ents : List Ent} {j : Nat} {ej : Ent} (hnm : nm ≠ ("" : Str)) (hz : ∀ e ∈ ents, 0 ≤ e.2) (hje : ents[j]? = some ej) (hp : isNm nm ej = true) (hb : ∀ e ∈ ents.take j, isNm nm e = false) : rowGo nm ents none = match idxOf isDef (ents.take j) 0 with
    | [] => (match figsOf (ents.drop j) with | f :: _ => .inl f | [] => .inr "none")
    | [_] => (match figsOf (ents.drop j) with | f :: _ => .inl f | [] => .inr "none")
    | _ => .inr dupS := by
  have hlt := (List.getElem?_eq_some_iff.mp hje).1
  have hdrop : ents.drop j = ej :: ents.drop (j + 1) := by
    rw [List.drop_eq_getElem_cons hlt]; congr 1; exact (List.getElem?_eq_some_iff.mp hje).2
  have e0 : rowGo nm ents none = rowGo nm (ents.take j ++ ents.drop j) none := by rw [List.take_append_drop]
  rw [e0, rowGo_pre hnm _ _ none hb]
  have hit : ∀ d, rowGo nm (ents.drop j) d = match figsOf (ents.drop j) with | f :: _ => .inl f | [] => .inr "none" := fun d => by
    obtain ⟨tag, fig⟩ := ej
    obtain rfl : tag = some nm := by simpa [isNm] using hp
    have hf := figs_find (l := ents.drop j) (fun e he => hz e (List.mem_of_mem_drop he))
    refine Eq.trans ?_ hf
    rw [hdrop, rowGo_hit hnm]
    try rfl
  cases idxOf isDef (ents.take j) 0 with
  | nil => exact hit none
  | cons a l =>
    cases l with
    | nil => exact hit _
    | cons b l => rfl
theorem getD0 (a : Int) (l : List Int) : (a :: l).getD (Int.toNat 0) 0 = a := rfl
/-- an expression's end that yields a known number and leaves the ledger's part as it is -/
def PickEnd (h₀ : Heap) (L : Addr) (m : Str → Option Value) (news : List (Addr × Obj)) (k : Int) (s₁ : Shared) (b : Value) (s₂ : Shared) : Prop :=
  ∃ t h tk, b = .int k t ∧ s₂ = { s₁ with heap := h, toks := tk } ∧ Fr h₀ L h m ∧ News h₀ L h news
theorem PickEnd.intro {h₀ h : Heap} {L : Addr} {m : Str → Option Value} {news nw : List (Addr × Obj)} {k : Int} {s₁ : Shared} {t : Tok} {tk : Nat} (F : Fr h₀ L h m) (N : News h₀ L h nw) (hn : ∀ p ∈ news, p ∈ nw) :
    PickEnd h₀ L m news k s₁ (.int k t) { s₁ with heap := h, toks := tk } := ⟨t, h, tk, rfl, rfl, F, fun p hp => N p (hn p hp)⟩
theorem pick_cut {w : World} {A : Around} {E : Value → Shared → Prop} {s : Shared} {h₀ : Heap} {L : Addr} {m : Str → Option Value} {news : List (Addr × Obj)} {e : Sem Value} {Q : Value → Shared → Prop} (k : Int) (_F : Fr h₀ L s.heap m) (_N : News h₀ L s.heap news)
    (h : wpAny (model pgm w) A e (PickEnd h₀ L m news k s) E s) (hq : ∀ t h tk, Fr h₀ L h m → News h₀ L h news → Q (.int k t) { s with heap := h, toks := tk }) : wpAny (model pgm w) A e Q E s :=
  wpAny_mono h (fun b s₂ ⟨t, h, tk, e1, e2, F, N⟩ => by subst e1 e2; exact hq t h tk F N) fun _ _ e => e
/-- the place of the first hit, or the length -/
def firstOf (l : List Int) (n : Nat) : Int := match l with | f :: _ => f | [] => (n : Int)
theorem firstOf_at {p : Ent → Bool} {l : List Ent} : ∃ j : Nat, firstOf (idxOf p l 0) l.length = (j : Int) ∧ j ≤ l.length := by
  cases h : idxOf p l 0 with
  | nil => exact ⟨_, rfl, Nat.le_refl _⟩
  | cons f r =>
    obtain ⟨j, e, rfl, he, -, -⟩ := idx_cons0 h
    exact ⟨j, rfl, Nat.le_of_lt (List.getElem?_eq_some_iff.mp he).1⟩
theorem res_dup {nm : Str} {ents : List Ent} {j : Nat} (hnm : nm ≠ ("" : Str)) (hz : ∀ e ∈ ents, 0 ≤ e.2) (hj : firstOf (idxOf (isNm nm) ents 0) ents.length = (j : Int)) (hd : 1 < (idxOf isDef (ents.take j) 0).length) : rowGo nm ents none = .inr dupS := by
  cases h : idxOf (isNm nm) ents 0 with
  | nil =>
    rw [h] at hj
    have hj' : ents.length = j := Int.ofNat.inj hj
    rw [res_no hnm (idx_nil h) hj'.symm]
    match idxOf isDef (ents.take j) 0, hd with
    | _ :: _ :: _, _ => rfl
  | cons f r =>
    rw [h] at hj
    obtain ⟨i, e, hf, he, hp, hb⟩ := idx_cons0 h
    obtain rfl : i = j := Int.ofNat.inj (hf.symm.trans hj)
    rw [res_yes hnm hz he hp hb]
    match idxOf isDef (ents.take i) 0, hd with
    | _ :: _ :: _, _ => rfl
theorem res_one {nm : Str} {ents : List Ent} {j : Nat} {f : Int} {r : List Int} (hnm : nm ≠ ("" : Str)) (hz : ∀ e ∈ ents, 0 ≤ e.2) (h : idxOf (isNm nm) ents 0 = f :: r) (hj : f = (j : Int)) (hd : ¬ 1 < (idxOf isDef (ents.take j) 0).length) : rowGo nm ents none = (match figsOf (ents.drop j) with | f :: _ => .inl f | [] => .inr "none") := by
  obtain ⟨i, e, hf, he, hp, hb⟩ := idx_cons0 h
  obtain rfl : i = j := Int.ofNat.inj (hf.symm.trans hj)
  rw [res_yes hnm hz he hp hb]
  match idxOf isDef (ents.take i) 0, hd with
  | [], _ => rfl
  | [_], _ => rfl
  | _ :: _ :: _, hd => exact absurd (by simp only [List.length_cons]; omega) hd

end
section
/-- two addresses apart (a word that omega does not read) -/
def Apart (a b : Addr) : Prop := a ≠ b
theorem item_pair {w : World} {A : Around} {E : Value → Shared → Prop} {s : Shared} {h₀ : Heap} {L : Addr} {value slice : PySem.Expr} {t : Addr} {a b : Value} {u : Tok} {nw nw' : List (Addr × Obj)} {Q : Value → Shared → Prop} (N : News h₀ L s.heap nw')
    (k : ∀ p ∈ nw, p ∈ nw') (ht : TupIn nw t #[a, b]) (h : Q a s) (hs : subscripted slice false (.ref t) (.int 0 u) = operate [.ref t, .int 0 u] (getItem (.ref t) (.int 0 u)) := by with_unfolding_all rfl) :
    wpAny (model pgm w) A (subscriptTail value slice (.ref t) (.int 0 u)) Q E s :=
  tail_any (TupIn.at N (ht.sub k)).typeIs slot_tuple_getitem.lookup (getItem_tuple (TupIn.at N (ht.sub k)) (by decide) (by decide) (j := 0) rfl rfl h) hs
theorem fixed_rows {w : World} {nw : List (Addr × Obj)} {p1 p2 x1 d1 x2 d2 l2 : Addr} {ta u1 u2 u3 v1 v2 v3 v4 v5 v6 v7 : Tok} 
    (ht1 : TupIn nw p1 #[.str "a" ta, .ref x1]) (ht2 : TupIn nw p2 #[.none, .ref x2])
    (h3 : (x1, instObj 98 d1) ∈ nw) (h4 : (d1, missD w.params u1 u2 u3) ∈ nw) (h5 : (x2, instObj 127 d2) ∈ nw) (h6 : (d2, vecD w.params l2 v1 v2 v3 v4 v5 v6) ∈ nw) (h7 : (l2, W.listOf #[.int 7 v7] 0) ∈ nw) :
    RowsIn w nw [.ref p1, .ref p2] [(some ("a" : Str), 0), (none, 7)] := by
  refine ⟨rfl, fun i e he => ?_⟩
  match i, he with
  | 0, he => cases he; exact ⟨p1, x1, _, rfl, ht1, ⟨_, rfl⟩, .inl ⟨rfl, _, _, _, _, h3, h4⟩⟩
  | 1, he => cases he; exact ⟨p2, x2, _, rfl, ht2, rfl, .inr ⟨by decide, _, _, _, _, _, _, _, _, _, h5, h6, h7⟩⟩
theorem fixed_a : rowGo ("a" : Str) [(some ("a" : Str), 0), (none, 7)] none = .inl 7 := by
  rw [rowGo_hit (by decide)]
  try rfl
theorem fixed_b : rowGo ("b" : Str) [(some ("a" : Str), 0), (none, 7)] none = .inl 7 := by
  rw [rowGo_skip (by decide) (by decide), rowGo_def (.inl rfl)]
  try rfl
theorem fixed_2 : numRes [(some ("a" : Str), 0), (none, 7)] 2 = .inl 7 := rfl
theorem placeGo_first (l : List Ent) : placeGo l 0 = firstOf (idxOf (isNm "EXPR") l 0) 0 := by
  rw [placeGo_idx]
  cases idxOf (isNm "EXPR") l 0 <;> rfl

end
theorem lines_b_U4 : True := by
  k_with "my mine sub" => (((with_reducible show wpAny _ _ (subscriptTail _ _ (Value.ref _) (Value.int 0 _)) _ _ _); k_dflt ((with_unfolding_all refine' item_pair ?k1 ?k2 ?k3 ?_ ?k6; (case k1 => with_reducible assumption); (case k3 => with_reducible assumption); (case k2 => intro p hp; repeat (first | exact hp | apply List.Mem.tail)); (case k6 => with_unfolding_all rfl); k_whole))))
  trivial
theorem lines_a_C3 : True := by
  k_with "my newList" => ((refine newList_N (by with_reducible assumption) (by with_reducible assumption) ?_; intro _ _ _))
  k_with "my mine sub" => (((with_reducible show wpAny _ _ (subscriptTail _ _ (Value.ref _) (Value.int (List.getD _ _ _) _)) _ _ _); (refine HoldG.mk ?_)))
  k_with "my CompEnd" => ((refine HoldG.mk ?_))
  k_with "my call builtin:len" => (((with_reducible show wpAny _ _ (call (Value.builtin "len") [Value.ref _]) _ _ _); first | (refine len_base (by with_reducible assumption) (by with_reducible assumption) (by with_reducible assumption) (by omega) ?_) | (refine HoldG.mk ?_)))
  k_with "my eval IfExp" => (((fail_if_success (with_reducible show wpAny _ _ _ (PickEnd _ _ _ _ _ _) _ _)); (with_reducible show wpAny _ _ (eval (PySem.Expr.IfExp _ (PySem.Expr.Subscript _ _ _) (PySem.Expr.Call _ _ _ _) _) _) _ _ _); (refine HoldG.mk ?_)))
  trivial
section
set_option maxHeartbeats 100000000 in
theorem due_name {w : World} {A : Around} {s : Shared} (G : Gd 3 w A s.heap) {a : Addr} {ents : List Ent} {nm : Str} {tnm : Tok} (hr : PlanAt s.heap a ents) (hen : ents.length ≤ 100) (hnm0 : nm ≠ ("" : Str)) (hz : ∀ e ∈ ents, 0 ≤ e.2) :
    PureCall w A 178 [.ref a, .str nm tnm] s (fun v _ => IsRes v (rowGo nm ents none)) := by
  obtain ⟨vs, hl, hn, hi⟩ := hr
  with_reducible rename Gd _ _ _ _ => Gq
  refine' Gd.elimP Gq ?_
  intro depq envsq grdq untq baseq pq looseq meanq mgq mbq Wq
  clear Gq
  refine' enterC Wq ?ho ?hcd ?hb ?hl ?hd ?c1 ?c2 ?c3 ?_
  (case ho => k_is); (case hcd => k_is); (case hb => exact BindsTo.of_eq rfl); (case hl => exact rfl); (case hd => decide +kernel); (case c1 => exact rfl); (case c2 => exact rfl); (case c3 => exact rfl)
  obtain ⟨Bq, BWq, KXq, Tq, hdepq, hunq⟩ := Wq
  intro h₁ tkq cellsq F N Yq
  k_cells Yq
  try dsimp only
  rename_i o2 o1 d2 d1
  replace F : Fr s.heap s.heap.objs.size h₁ (fun _ => none) := F
  replace d1 : o1.data = .cell (some (.ref a)) := d1
  replace d2 : o2.data = .cell (some (.str nm tnm)) := d2
  k_steps
  unfold HoldG
  with_reducible rename IsRange _ _ _ _ _ _ _ _ => hrg
  with_reducible rename Fr _ _ _ _ => F1
  with_reducible rename News _ _ _ _ => N1
  obtain ⟨q1, q2⟩ := range_ok (a := 0) (b := (ents.length : Int)) (n := ents.length) (by omega) (by omega) (by omega)
  refine comp_range (fun i ys => ∃ dn, IntsAre ys dn ∧ dn ++ idxOf (isNm nm) (ents.drop i) i = idxOf (isNm nm) ents 0) rfl hrg q1 q2 (by omega) F1 N1 ⟨[], .nil, rfl⟩ ?_ ?_
  · clear F1 N1 hrg q1 q2
    rintro i ys t I oI C oC D m₂ h tk E' hlt ⟨dn, hI, hG⟩ hC hx F N off ne
    clear ne
    have he : ents[i]? = some ents[i] := by simp [hlt]
    obtain ⟨pp, tv, tf, g1, g2, g3⟩ := hi _ _ he
    have hdrop : ents.drop i = ents[i] :: ents.drop (i + 1) := List.drop_eq_getElem_cons hlt
    generalize ents[i] = e at *
    obtain ⟨tag, fig⟩ := e
    have g1' : vs.toArray[(i : Int).toNat]? = some (.ref pp) := by rw [List.getElem?_toArray]; exact g1
    rw [Int.zero_add] at hx
    dsimp only at g2 g3
    rcases tag with _ | tg
    · obtain rfl : tv = .none := g3
      k_steps
      refine LCg.CompEnd.intro (by with_reducible assumption) (by with_reducible assumption) _ (fun p hp => hp) off trivial ⟨rfl, _, hI, idx_miss hdrop rfl hG⟩
    · obtain ⟨tt, rfl⟩ : ∃ tt, tv = .str tg tt := g3
      by_cases hnm : tg = nm
      · subst hnm
        k_steps
        · refine LCg.CompEnd.intro (by with_reducible assumption) (by with_reducible assumption) _ (fun p hp => hp) off trivial ⟨rfl, _, ints_snoc1 hI, idx_hit hdrop (by simp [isNm]) hG⟩
        · with_reducible rename (tg == tg) = false => hc
          simp at hc
      · have hb2 : (tg == nm) = false := by simpa using hnm
        k_steps
        refine LCg.CompEnd.intro (by with_reducible assumption) (by with_reducible assumption) _ (fun p hp => hp) off trivial ⟨rfl, _, hI, idx_miss hdrop (by simp [isNm, hnm]) hG⟩
  · rintro ys g ⟨dn, hI, hG⟩
    clear F1 N1 hrg
    rw [List.drop_length] at hG
    obtain rfl : dn = idxOf (isNm nm) ents 0 := by rw [← hG]; simp [idxOf]
    clear hG
    k_steps
    unfold HoldG
    with_reducible rename Fr _ _ _ _ => F2
    with_reducible rename News _ _ _ _ => N2
    obtain ⟨j, hj, hjl⟩ := firstOf_at (p := isNm nm) (l := ents)
    refine pick_cut (j : Int) F2 N2 ?_ ?_
    · cases hpl : idxOf (isNm nm) ents 0 with
      | nil =>
        rw [hpl] at hI hj
        obtain rfl := hI.nil_inv
        k_steps
        rw [← hj]
        exact PickEnd.intro (by with_reducible assumption) (by with_reducible assumption) (fun p hp => .tail _ hp)
      | cons f rest =>
        rw [hpl] at hI hj
        obtain ⟨tf, ys', rfl, hI'⟩ := hI.cons_inv
        have hcj : decide (f :: rest = []) = false := by simp
        k_steps
        all_goals try exact absurd (by with_reducible assumption : decide (f :: rest = []) = true) (by simp)
        simp only [getD0]
        rw [← hj]
        exact PickEnd.intro (by with_reducible assumption) (by with_reducible assumption) (fun p hp => .tail _ hp)
    · clear F2 N2
      intro tp hp1 tk1 F1 N1
      k_steps
      unfold HoldG
      with_reducible rename IsRange _ _ _ _ _ _ _ _ => hrg2
      with_reducible rename Fr _ _ _ _ => F2
      with_reducible rename News _ _ _ _ => N2
      clear q1 q2
      obtain ⟨qq1, qq2⟩ := range_ok (a := 0) (b := (j : Int)) (n := j) (by omega) (by omega) (by omega)
      refine comp_range (n := j) (fun i ys => ∃ dn, IntsAre ys dn ∧ dn ++ idxOf isDef ((ents.take j).drop i) i = idxOf isDef (ents.take j) 0) rfl hrg2 qq1 qq2 (by omega) F2 N2 ⟨[], .nil, rfl⟩ ?_ ?_
      · clear hrg2 qq1 qq2
        rintro i ys t I oI C oC D m₂ h tk E' hlt ⟨dn, hI, hG⟩ hC hx F N off ne
        clear ne
        clear F2 N2
        have hlt2 : i < ents.length := by omega
        have he : ents[i]? = some ents[i] := by simp [hlt2]
        obtain ⟨pp, tv, tf, g1, g2, g3⟩ := hi _ _ he
        have hdrop := drop_take_cons hlt hlt2
        generalize ents[i] = e at *
        obtain ⟨tag, fig⟩ := e
        have g1' : vs.toArray[(i : Int).toNat]? = some (.ref pp) := by rw [List.getElem?_toArray]; exact g1
        rw [Int.zero_add] at hx
        dsimp only at g2 g3
        rcases tag with _ | tg
        · obtain rfl : tv = .none := g3
          k_steps
          refine LCg.CompEnd.intro (by with_reducible assumption) (by with_reducible assumption) _ (fun p hp => hp) off trivial ⟨rfl, _, ints_snoc1 hI, idx_hit hdrop rfl hG⟩
        · obtain ⟨tt, rfl⟩ : ∃ tt, tv = .str tg tt := g3
          by_cases hnm : tg = ("" : Str)
          · subst hnm
            k_steps
            refine LCg.CompEnd.intro (by with_reducible assumption) (by with_reducible assumption) _ (fun p hp => hp) off trivial ⟨rfl, _, ints_snoc1 hI, idx_hit hdrop rfl hG⟩
          · have hb2 : (tg == ("" : Str)) = false := by simpa using hnm
            k_steps
            refine LCg.CompEnd.intro (by with_reducible assumption) (by with_reducible assumption) _ (fun p hp => hp) off trivial ⟨rfl, _, hI, idx_miss hdrop (by simp [isDef, hnm]) hG⟩
      · rintro ys2 g ⟨dn, hI2, hG⟩
        clear F2 N2 hrg2 qq1 qq2
        rw [List.drop_of_length_le (by rw [List.length_take]; omega)] at hG
        obtain rfl : dn = idxOf isDef (ents.take j) 0 := by rw [← hG]; simp [idxOf]
        clear hG
        obtain ⟨n, hn2⟩ : ∃ n, ys2.length = n := ⟨_, rfl⟩
        have hdn : n = (idxOf isDef (ents.take j) 0).length := by rw [← hn2]; exact hI2.length
        have hn100 : n ≤ 100 := by
          have h1 := idx_len (p := isDef) (l := ents.take j) (k := 0)
          rw [List.length_take] at h1
          omega
        k_steps
        unfold HoldG
        with_reducible rename IntsAre _ (idxOf (isNm nm) ents 0) => hI
        with_reducible rename IntsAre _ (idxOf isDef (ents.take j) 0) => hI2
        with_reducible rename News _ _ _ ((_, LCg.lst _) :: _) => N5
        refine len_news (n := n) N5 (.head _) hn2 hn100 ?_
        by_cases hd2 : 1 < n
        · have hres := res_dup hnm0 hz hj (by omega)
          clear hI hI2
          k_steps
          all_goals first
            | omega
            | (show IsRes _ _
               rw [hres]
               exact ⟨_, rfl⟩)
        · cases hpl : idxOf (isNm nm) ents 0 with
          | nil =>
            rw [hpl] at hI hj
            obtain rfl := hI.nil_inv
            have hno := idx_nil hpl
            have hjl2 : j = ents.length := (Int.ofNat.inj hj).symm
            have hres := res_no hnm0 hno hjl2
            clear hI hpl hno hj
            cases hdl : idxOf isDef (ents.take j) 0 with
            | nil =>
              rw [hdl] at hI2 hres
              obtain rfl := hI2.nil_inv
              clear hI2
              k_steps
              all_goals first
                | omega
                | (show IsRes _ _
                   rw [hres]
                   exact ⟨_, rfl⟩)
            | cons d1 dr =>
              rw [hdl] at hI2
              obtain ⟨td1, ys1, rfl, hI1⟩ := hI2.cons_inv
              clear hI2
              obtain ⟨j1, e1, rfl, hj1, -, -⟩ := idx_cons0 hdl
              have hlt1 : j1 < ents.length := by
                have := (List.getElem?_eq_some_iff.mp hj1).1
                rw [List.length_take] at this; omega
              have he1 : ents[j1]? = some ents[j1] := by simp [hlt1]
              obtain ⟨pp, tv, tf, g1, g2, g3⟩ := hi _ _ he1
              have g1' : vs.toArray[(j1 : Int).toNat]? = some (.ref pp) := by rw [List.getElem?_toArray]; exact g1
              rw [hdl] at hres hdn
              cases dr with
              | cons d2 dr2 => exact absurd hdn (by simp only [List.length_cons]; omega)
              | nil =>
                obtain rfl := hI1.nil_inv
                clear hI1
                dsimp only at hres
                have hcj1 : decide ([(j1 : Int)] = []) = false := by simp
                have hr2 : rowGo nm ents none = if (ents[j1]).2 = 0 then .inr "none" else .inl (ents[j1]).2 := by
                  rw [hres, Int.toNat_natCast, he1]; rfl
                clear hres
                k_steps
                all_goals try exact absurd (by with_reducible assumption : decide ([(j1 : Int)] = []) = true) (by simp)
                all_goals try omega
                unfold HoldG
                simp only [getD0]
                k_steps
                · have hz1 : (ents[j1]).2 = 0 := by with_reducible assumption
                  show IsRes _ _
                  rw [hr2, if_pos hz1]
                  exact ⟨_, rfl⟩
                · have hz1 : ¬ (ents[j1]).2 = 0 := by with_reducible assumption
                  unfold HoldG
                  simp only [getD0]
                  k_steps
                  show IsRes _ _
                  rw [hr2, if_neg hz1]
                  exact ⟨_, rfl⟩
          | cons f rest =>
            rw [hpl] at hI hj
            obtain ⟨tf, ys', rfl, hI'⟩ := hI.cons_inv
            have hfj : f = (j : Int) := hj
            have hres := res_one hnm0 hz hpl hfj (by omega)
            have hcj : decide (f :: rest = []) = false := by simp
            clear hI hI2 hpl hj
            k_steps
            all_goals try exact absurd (by with_reducible assumption : decide (f :: rest = []) = true) (by simp)
            all_goals try omega
            unfold HoldG
            with_reducible rename IsRange _ _ _ _ _ _ _ _ => hrg3
            with_reducible rename Fr _ _ _ _ => F3
            with_reducible rename News _ _ _ _ => N3
            replace hrg3 : IsRange _ _ (j : Int) (ents.length : Int) 1 _ _ _ := hrg3
            obtain ⟨qq3, qq4⟩ := range_ok (a := (j : Int)) (b := (ents.length : Int)) (n := ents.length - j) (by omega) (by omega) (by omega)
            refine comp_range (n := ents.length - j) (fun i ys => ∃ dn, IntsAre ys dn ∧ dn ++ figsOf ((ents.drop j).drop i) = figsOf (ents.drop j)) rfl hrg3 qq3 qq4 (by omega) F3 N3 ⟨[], .nil, rfl⟩ ?_ ?_
            · clear hrg3 qq3 qq4
              rintro i ys t I oI C oC D m₂ h tk E' hlt ⟨dn, hI, hG⟩ hC hx F N off ne
              clear ne
              clear F3 N3
              have hlt2 : j + i < ents.length := by omega
              have he : ents[j + i]? = some ents[j + i] := by simp [hlt2]
              obtain ⟨pp, tv, tf, g1, g2, g3⟩ := hi _ _ he
              have hdrop : (ents.drop j).drop i = ents[j + i] :: (ents.drop j).drop (i + 1) := by
                rw [List.drop_drop, List.drop_drop, List.drop_eq_getElem_cons hlt2]; rfl
              generalize ents[j + i] = e at *
              obtain ⟨tag, fig⟩ := e
              have g1' : vs.toArray[((j : Int) + (i : Int)).toNat]? = some (.ref pp) := by rw [List.getElem?_toArray]; exact g1
              dsimp only at g2 g3
              by_cases hf : 0 < fig
              · k_steps
                all_goals first | exact absurd hf (by omega) | refine LCg.CompEnd.intro (by with_reducible assumption) (by with_reducible assumption) _ (fun p hp => hp) off trivial ⟨rfl, _, ints_snoc1 hI, figs_hit hdrop hf hG⟩
              · k_steps
                all_goals first | exact absurd hf (by omega) | refine LCg.CompEnd.intro (by with_reducible assumption) (by with_reducible assumption) _ (fun p hp => hp) off trivial ⟨rfl, _, hI, figs_miss hdrop hf hG⟩
            · rintro ys g ⟨dn, hI, hG⟩
              clear F3 N3 hrg3
              rw [List.drop_of_length_le (by rw [List.length_drop]; omega)] at hG
              obtain rfl : dn = figsOf (ents.drop j) := by rw [← hG]; simp [figsOf]
              clear hG
              cases hfl : figsOf (ents.drop j) with
              | nil =>
                rw [hfl] at hI
                obtain rfl := hI.nil_inv
                rw [hfl] at hres
                k_steps
                show IsRes _ _
                rw [hres]
                exact ⟨_, rfl⟩
              | cons f1 fr =>
                rw [hfl] at hI
                obtain ⟨tf1, ysf, rfl, hIf⟩ := hI.cons_inv
                rw [hfl] at hres
                have hcf : decide (f1 :: fr = []) = false := by simp
                k_steps
                all_goals clear qq3 qq4
                all_goals try exact absurd (by with_reducible assumption : decide (f1 :: fr = []) = true) (by simp)
                show IsRes _ _
                rw [hres]
                exact ⟨_, rfl⟩

end
theorem lines_b_C3 : True := by
  k_with_none
  k_with "my PureR" => ((refine PureR.intro (by with_reducible assumption) ?_))
  k_with "my m wk" => (exact Wk.call (by with_reducible assumption) (by with_reducible assumption) (by with_reducible assumption) (by omega) (by omega) rfl rfl)
  k_with "my mine sub" => ((k_here; (with_reducible show wpAny _ _ (subscriptTail _ _ (Value.ref _) (Value.int _ _)) _ _ _); (with_unfolding_all refine' item_list ?k1 ?k2 ?k3 ?k4 ?_ ?k6; (case k1 => first | exact list_of_base (by with_reducible assumption) (by with_reducible assumption) | with_reducible assumption); (case k2 => first | decide | omega); (case k3 => first | decide | omega); (case k4 => first | rfl | with_reducible assumption); (case k6 => with_unfolding_all rfl); k_whole)))
  k_with "my mine sub" => (((with_reducible show wpAny _ _ (subscriptTail _ _ (Value.ref _) (Value.int 0 _)) _ _ _); (with_unfolding_all refine' tup_0 ?k1 ?k2 ?_ ?k6; (case k1 => with_reducible assumption); (case k2 => with_reducible assumption); (case k6 => with_unfolding_all rfl); k_whole)))
  k_with "my mine sub" => (((with_reducible show wpAny _ _ (subscriptTail _ _ (Value.ref _) (Value.int 1 _)) _ _ _); (with_unfolding_all refine' tup_1 ?k1 ?k2 ?_ ?k6; (case k1 => with_reducible assumption); (case k2 => with_reducible assumption); (case k6 => with_unfolding_all rfl); k_whole)))
  k_with "my subscriptTail" => (k_extra "my mine sub")
  k_with "my subscriptTail Name Name ref int" => (k_extra "my mine sub")
  k_with "my subscriptTail Subscript Name Name Constant ref int" => (k_extra "my mine sub")
  k_with "my subscriptTail Name BinOp ref int" => (k_extra "my mine sub")
  k_with "my subscriptTail Subscript Name BinOp Constant ref int" => (k_extra "my mine sub")
  k_with "my subscriptTail Name Constant ref int" => (k_extra "my mine sub")
  k_with "my subscriptTail Attribute Name Constant ref int" => (k_extra "my mine sub")
  k_with "my subscriptTail Name Call ref int" => (k_extra "my mine sub")
  k_with "my subscriptTail Name Subscript ref int" => (k_extra "my mine sub")
  k_with "my subscriptTail Subscript Name Subscript Constant ref int" => (k_extra "my mine sub")
  k_with "my PullR" => ((refine PullR.intro (by with_reducible assumption) (by with_reducible assumption) ?_))
  k_with "my OutR" => ((refine OutR.intro (by with_reducible assumption) ?_))
  k_with "my exec Raise some none" => ((refine Raise_eval rfl ?_))
  k_with "my call ref" => (((with_reducible show wpAny _ _ (call (Value.ref 51) [Value.str _ _] []) _ _ _); (refine call_refusal (by k_extra "my m wk") ?_); intro _ _ _ _ _ _))
  k_with "my call builtin:len" => ((k_here; (with_reducible show wpAny _ _ (call (Value.builtin "len") [Value.ref _]) _ _ _); (refine len_base (by with_reducible assumption) (by with_reducible assumption) (by with_reducible assumption) (by omega) ?_)))
  k_with "my mine sub" => ((k_here; (with_reducible show wpAny _ _ (subscriptTail _ _ (Value.ref _) (Value.int _ _)) _ _ _); (with_unfolding_all refine' item_list ?k1 ?k2 ?k3 ?k4 ?_ ?k6; (case k1 => exact list_of_baseL (by with_reducible assumption) (by with_reducible assumption)); (case k2 => first | decide | omega); (case k3 => first | decide | omega); (case k4 => first | with_reducible assumption | rfl); (case k6 => with_unfolding_all rfl); k_whole)))
  k_with "my RaiseAt" => ((refine raise_end (by with_reducible assumption) (by with_reducible assumption) (by with_reducible assumption) (by with_reducible assumption) rfl rfl ?_))
  k_with "my SoftR" => ((refine SoftR.intro (by with_reducible assumption) ?_))
  k_with "my call ref" => (((with_reducible show wpAny _ _ (call (Value.ref 159) _ []) _ _ _); k_dflt (first
  | refine PureCall.use (shown_none (by k_extra "my m wk")) (by with_reducible assumption) (by with_reducible assumption) ?_
  | refine PureCall.use (shown_vec (by k_extra "my m wk") (by with_reducible assumption)) (by with_reducible assumption) (by with_reducible assumption) ?_
  | refine PureCall.use (shown_miss (by k_extra "my m wk") (by with_reducible assumption)) (by with_reducible assumption) (by with_reducible assumption) ?_); intro _ _ _ _ _ _ _))
  k_with "my call ref" => (((with_reducible show wpAny _ _ (call (Value.ref 67) _ []) _ _ _); k_dflt (refine RaiseCall.use (row_number (by k_extra "my m wk") (RowsAt.keeps (Fr.keep (by with_reducible assumption)) (by with_reducible assumption)) (by omega) (by omega) (by omega)) rfl (by with_reducible assumption) (by with_reducible assumption) (fun _ _ _ _ _ _ _ => HoldG.mk ?_) (fun _ _ _ _ => HoldG.mk ?_))))
  k_with "my pyIter ref" => (((with_reducible show wpAny _ _ (pyIter (Value.ref _)) (fun it s₂ => LoopAtV _ _ _ _ _ _ _ _ _ it s₂) _ _); refine HoldG.mk ?_))
  k_with "my InvEnd" => ((refine HoldG.mk ?_))
  k_with "my exec For Name Subscript cons nil" => (k_dflt ((with_reducible show wpAny _ _ (exec (Stmt.For _ _ _ [] _) _) _ _ _); (with_reducible rename Fr _ _ _ _ => lF'); (with_unfolding_all refine' For_invVF lF' ?k1 ?k2 ?_; (case k1 => exact rfl); (case k2 => exact rfl); k_whole)))
  k_with "my call ref" => (((with_reducible show wpAny _ _ (call (Value.ref 74) _ []) _ _ _); k_dflt (refine RaiseCall.use (row_name (by k_extra "my m wk") (RowsAt.keeps (Fr.keep (by with_reducible assumption)) (by with_reducible assumption)) (by omega)) rfl (by with_reducible assumption) (by with_reducible assumption) (fun _ _ _ _ _ _ _ => HoldG.mk ?_) (fun _ _ _ _ => HoldG.mk ?_))))
  k_with "my CompSrcT" => ((refine HoldG.mk ?_))
  k_with "my eval Name" => (((with_reducible show wpAny _ _ (eval (PySem.Expr.Name _ _) (compEnvC _ _ _ _)) _ _ _); k_dflt (first
  | (refine' LCgL.ld_own ?N ?m ?c ?x ?_ ?a ?b ?d; (case N => with_reducible assumption); (case m => k_mem); (case c => with_reducible assumption); (case x => with_reducible assumption); (case a => rfl); (case b => rfl); (case d => decide))
  | (refine' lcf_cell ?N ?c ?m ?d ?_ ?a ?b ?e; (case N => with_reducible assumption); (case a => rfl); (case b => rfl); (case c => rfl); (case m => k_mem); (case d => with_reducible assumption); (case e => decide)))))
  k_with "my mine sub" => (((with_reducible show wpAny _ _ (subscriptTail _ _ (Value.ref _) (Value.int 0 _)) _ _ _); k_dflt ((with_unfolding_all refine' item_pair ?k1 ?k2 ?k3 ?_ ?k6; (case k1 => with_reducible assumption); (case k3 => with_reducible assumption); (case k2 => intro p hp; repeat (first | exact hp | apply List.Mem.tail)); (case k6 => with_unfolding_all rfl); k_whole))))
  trivial
theorem lines_a_V8 : True := by
  k_with "my call ref" => (((with_reducible show wpAny _ _ (call (Value.ref _) _ []) _ _ _); (refine HoldG.mk ?_)))
  k_with "my SrcLP" => ((refine HoldG.mk ?_))
  k_with "my PostN" => ((refine HoldG.mk ?_))
  k_with "my mine sub" => (((with_reducible show wpAny _ _ (subscriptTail _ _ (Value.ref _) (Value.int _ _)) _ _ _); k_dflt ((with_unfolding_all refine' item_list ?k1 ?k2 ?k3 ?k4 ?_ ?k6; (case k1 => exact list_of_news (by with_reducible assumption) (by k_mem)); (case k2 => omega); (case k3 => omega); (case k4 => with_reducible assumption); (case k6 => with_unfolding_all rfl); k_whole))))
  k_with "my compareOp NotEq" => (k_dflt (refine ne_res (by with_reducible assumption) (by first | with_reducible assumption | exact ⟨_, rfl⟩) ?_))
  k_with "my call builtin:len" => (((with_reducible show wpAny _ _ (call (Value.builtin "len") [Value.ref _]) _ _ _); k_dflt (refine len_list (by with_reducible assumption) (by k_mem) (by with_reducible assumption) (by omega) ?_)))
  k_with "my exec For Name List cons nil" => (((with_reducible rename Fr _ _ _ _ => lF'); (with_reducible refine' For_invVF lF' ?k1 ?k2 ?_ ?hs ?hE); (case k1 => with_unfolding_all exact rfl); (case k2 => with_unfolding_all exact rfl); (case hs => intro _; with_unfolding_all rfl); (case hE => passes_own); k_whole))
  k_with "my mine sub" => (((fail_if_success (with_reducible show wpAny _ _ (subscriptTail (PySem.Expr.Name _ _) _ _ _) _ _ _)); (with_reducible show wpAny _ _ (subscriptTail _ (PySem.Expr.Slice _ _ _ _) _ _) _ _ _); k_dflt (refine kba_turn (value' := PySem.Expr.Name (PySem.Str.ofString "_") ⟨0, 0, 0, 0⟩) (fun _ => rfl) ?_)))
  k_with "my eval IfExp" => (((fail_if_success (with_reducible show wpAny _ _ _ (PickEnd _ _ _ _ _ _) _ _)); (with_reducible show wpAny _ _ (eval (PySem.Expr.IfExp _ (PySem.Expr.Subscript _ _ _) (PySem.Expr.Constant _ _ _) _) _) _ _ _); (refine HoldG.mk ?_)))
  trivial
section
set_option maxHeartbeats 100000000 in
theorem law_holds : PySem.Challenge.rw_nz0461_01.Holds := hd (by
  w_strict (
    k_go0
    with_reducible rename Below callerA _ [] _ => K0
    with_reducible rename Top _ _ _ _ _ _ => T0
    with_reducible rename Frag.In _ _ => X0
    have BW : BaseOk _ _ := ⟨X0, _, _, _, _, _, T0⟩
    with_reducible rename News _ _ _ _ => N0
    with_reducible rename Fr _ _ _ _ => F0
    k_steps
    unfold HoldG
    with_reducible rename News _ _ _ _ => N1
    with_reducible rename Fr _ _ _ _ => F1
    revert N1
    revert F1
    repeat (with_reducible rename Fr _ _ _ _ => Fz; clear Fz)
    repeat (with_reducible rename News _ _ _ _ => Nz; clear Nz)
    intro F1 N1
    rename_i D ws h6 hIw hC hL l3 WL h5 l2 h4 tk1 Tg h3 l1a h2 tk0 P h1a l0 h' o dcell
    obtain ⟨its, mT, hTag⟩ := pack_tagsN N1
    have nPW : Apart P WL := by (show _ ≠ _; k_ne)
    have nTW : Apart Tg WL := by (show _ ≠ _; k_ne)
    have nDW : Apart D WL := by (show _ ≠ _; k_ne)
    have nTP : Apart Tg P := by (show _ ≠ _; k_ne)
    have nDP : Apart D P := by (show _ ≠ _; k_ne)
    have nCW : cellOf BW ≠ WL := by (show _ + 1 ≠ _); k_ne
    have nCP : cellOf BW ≠ P := by (show _ + 1 ≠ _); k_ne
    clear hC hL
    repeat (with_reducible rename (_ : Nat) < _ ∧ _ => lz; clear lz)
    repeat (with_reducible rename (_ : Nat) < _ => lz; clear lz)
    refine pull_use K0 BW F1 N1 rfl rfl (.tail _ (.tail _ (.head _))) (.tail _ (.tail _ (.tail _ (.head _)))) nDW hIw (take_len _).1 (take_len _).2 (by decide) (by decide) (by decide) (by decide) (by decide)
      [(P, _), (Tg, _), (D, _), (_, o)] (keep_cons ⟨.head _, nPW⟩ (keep_cons ⟨mT, nTW⟩ (keep_cons ⟨.tail _ (.tail _ (.tail _ (.head _))), nDW⟩ (keep_cons ⟨.tail _ (.tail _ (.tail _ (.tail _ (.tail _ (.tail _ (.tail _ (.head _))))))), nCW⟩ keep_nil)))) ?_
    intro d0 td0 h0 tkd v0 sp0 t10 t20 n0 bv0 bs0 bs1 bd0 bd1 F2 N2
    clear F1 N1 mT
    k_steps
    unfold HoldG
    with_reducible rename IsRange _ _ _ _ _ _ _ _ => hrg
    with_reducible rename Fr _ _ _ _ => F3
    with_reducible rename News _ _ _ _ => N3
    obtain ⟨q1, q2⟩ := range_ok (a := 0) (b := d0) (n := d0.toNat) (by omega) (by omega) (by omega)
    refine range_loopN (fun i m nx => m "well" = some (.ref WL) ∧ m "tags" = some (.ref Tg) ∧ ∃ v sp t1 t2 n vs ents c rest, nx = (WL, wellO v D sp t1 t2 n) :: (P, W.listOf (List.toArray vs) c) :: (Tg, W.listOf its 0) :: (D, W.listOf ws.toArray 0) :: (cellOf BW, o) :: rest ∧
        0 ≤ v ∧ 0 ≤ sp ∧ sp ≤ 1 + 2 * (i : Int) ∧ (∀ p ∈ rest, p.1 ≠ WL ∧ p.1 ≠ P) ∧ PlanIn rest vs ents ∧ ents.length = i ∧ (∀ e ∈ ents, 0 ≤ e.2 ∧ e.2 < 1000))
      rfl hrg q1 q2 F3 N3 ⟨rfl, rfl, v0, sp0, t10, t20, n0, [], [], 0, [], rfl, bv0, bs0, by omega, (fun p hp => by cases hp), ⟨rfl, fun i e he => by cases he⟩, rfl, (fun e he => by cases he)⟩ ?_ ?_
    · clear hrg F3 N3
      rintro i ti m₁ nx h tk I oI hlt ⟨e1, e2, v, sp, t1, t2, n, vs, ents, c, rest, rfl, bv, bs, bs', hoff, hpl, hen, hfg⟩ hI F N
      have hi10 : i < 10 := by omega
      clear hlt bv0 bs0 bs1 bd0 bd1 q1 q2
      rw [Int.zero_add, map_known2 e1 e2] at F
      try dsimp only [cellOf] at N
      k_steps
      unfold HoldG
      with_reducible rename News _ _ _ _ => N1
      with_reducible rename Fr _ _ _ _ => F1
      revert N1
      revert F1
      repeat (with_reducible rename Fr _ _ _ _ => Fz; clear Fz)
      repeat (with_reducible rename News _ _ _ _ => Nz; clear Nz)
      intro F1 N1
      refine pull_use K0 BW F1 N1 rfl rfl (.tail _ (.head _)) (.tail _ (.tail _ (.tail _ (.tail _ (.head _))))) nDW hIw (take_len _).1 (take_len _).2 bv bs (by omega) (by decide) (by decide)
        ((I, oI) :: (P, _) :: (Tg, _) :: (D, _) :: (_, o) :: rest) (keep_cons ⟨.head _, Ne.symm (hI _ (.head _))⟩ (keep_cons ⟨.tail _ (.tail _ (.head _)), nPW⟩ (keep_cons ⟨.tail _ (.tail _ (.tail _ (.head _))), nTW⟩ (keep_cons ⟨.tail _ (.tail _ (.tail _ (.tail _ (.head _)))), nDW⟩ (keep_cons ⟨.tail _ (.tail _ (.tail _ (.tail _ (.tail _ (.head _))))), nCW⟩ fun p hp => ⟨.tail _ (.tail _ (.tail _ (.tail _ (.tail _ (.tail _ hp))))), (hoff p hp).1⟩))))) ?_
      intro da tda ha tka va spa t1a t2a na bva bsa1 bsa2 bda1 bda2 F2 N2
      clear F1 N1
      obtain ⟨tv, tag, htv, hT⟩ := hTag da bda1 bda2
      k_steps
      unfold HoldG
      with_reducible rename News _ _ _ _ => N1
      with_reducible rename Fr _ _ _ _ => F1
      revert N1
      revert F1
      repeat (with_reducible rename Fr _ _ _ _ => Fz; clear Fz)
      repeat (with_reducible rename News _ _ _ _ => Nz; clear Nz)
      intro F1 N1
      refine pull_use K0 BW F1 N1 rfl rfl (.head _) (.tail _ (.tail _ (.tail _ (.tail _ (.head _))))) nDW hIw (take_len _).1 (take_len _).2 bva (by omega) (by omega) (by decide) (by decide)
        ((I, oI) :: (P, _) :: (Tg, _) :: (D, _) :: (_, o) :: rest) (keep_cons ⟨.tail _ (.head _), Ne.symm (hI _ (.head _))⟩ (keep_cons ⟨.tail _ (.tail _ (.head _)), nPW⟩ (keep_cons ⟨.tail _ (.tail _ (.tail _ (.head _))), nTW⟩ (keep_cons ⟨.tail _ (.tail _ (.tail _ (.tail _ (.head _)))), nDW⟩ (keep_cons ⟨.tail _ (.tail _ (.tail _ (.tail _ (.tail _ (.head _))))), nCW⟩ fun p hp => ⟨.tail _ (.tail _ (.tail _ (.tail _ (.tail _ (.tail _ hp))))), (hoff p hp).1⟩))))) ?_
      intro db tdb hb tkb vb spb t1b t2b nb bvb bsb1 bsb2 bdb1 bdb2 F3 N3
      clear F1 N1
      k_steps
      all_goals
        with_reducible rename News _ _ _ ((_, _) :: _) => N5
        with_reducible rename Fr _ _ _ _ => F5
        rename_i TT _ l5
        have nTI : TT ≠ I := by k_ne
        have nWI : WL ≠ I := hI (WL, _) (.head _)
        have nPI : P ≠ I := hI (P, _) (.tail _ (.head _))
        have nTTP : TT ≠ P := by k_ne
        have nTTW : TT ≠ WL := by k_ne
        refine append_use F5 N5 (.tail _ (.tail _ (.tail _ (.head _)))) (by rw [hpl.1, hen]; omega) ((I, oI) :: (WL, _) :: (Tg, _) :: (D, _) :: (_, o) :: (TT, _) :: rest)
          (keep_cons ⟨.tail _ (.tail _ (.head _)), Ne.symm (hI _ (.tail _ (.head _)))⟩ (keep_cons ⟨.tail _ (.head _), Ne.symm nPW⟩ (keep_cons ⟨.tail _ (.tail _ (.tail _ (.tail _ (.head _)))), nTP⟩ (keep_cons ⟨.tail _ (.tail _ (.tail _ (.tail _ (.tail _ (.head _))))), nDP⟩ (keep_cons ⟨.tail _ (.tail _ (.tail _ (.tail _ (.tail _ (.tail _ (.head _)))))), nCP⟩
            (keep_cons ⟨.head _, nTTP⟩ fun p hp => ⟨.tail _ (.tail _ (.tail _ (.tail _ (.tail _ (.tail _ (.tail _ hp)))))), (hoff p hp).2⟩)))))) ?_
        intro h6 F6 N6
        k_steps
        unfold HoldG
        with_reducible rename News _ _ _ _ => N6
        with_reducible rename Fr _ _ _ _ => F6
        refine EndN.intro (nx := (WL, _) :: (P, _) :: (Tg, _) :: (D, _) :: (_, o) :: (TT, _) :: rest) F6 (keep_cons (N6 _ (.tail _ (.head _))) (keep_cons (N6 _ (.tail _ (.tail _ (.head _)))) (keep_cons (N6 _ (.head _)) (keep_cons (N6 _ (.tail _ (.tail _ (.tail _ (.head _))))) (keep_cons (N6 _ (.tail _ (.tail _ (.tail _ (.tail _ (.head _)))))) (keep_cons (N6 _ (.tail _ (.tail _ (.tail _ (.tail _ (.tail _ (.head _))))))) (keep_cons (N6 _ (.tail _ (.tail _ (.tail _ (.tail _ (.tail _ (.tail _ (.head _)))))))) fun p hp => N6 p (.tail _ (.tail _ (.tail _ (.tail _ (.tail _ (.tail _ (.tail _ hp))))))))))))))
          (keep_cons nWI (keep_cons nPI (keep_cons (hI _ (.tail _ (.tail _ (.head _)))) (keep_cons (hI _ (.tail _ (.tail _ (.tail _ (.head _))))) (keep_cons (hI _ (.tail _ (.tail _ (.tail _ (.tail _ (.head _)))))) (keep_cons nTI fun p hp => hI p (.tail _ (.tail _ (.tail _ (.tail _ (.tail _ hp)))))))))))
          ⟨rfl, rfl, vb, spb, t1b, t2b, nb, vs ++ [.ref TT], ents ++ [(tag, _)], c + 1, (TT, _) :: rest, rfl, bvb, by omega, by omega, keep_cons ⟨nTTW, nTTP⟩ hoff, PlanIn.snoc (hpl.sub fun p hp => .tail _ hp) ⟨_, .head _, rfl, _, rfl⟩ hT, by rw [List.length_append, hen]; rfl, ?_⟩
        intro e he
        rcases List.mem_append.mp he with he | he
        · exact hfg e he
        · rw [List.mem_singleton.mp he]
          dsimp only
          omega
    · clear hrg F3 N3
      rintro m₁ nx h tk ⟨e1, e2, v, sp, t1, t2, n, vs, ents, c, rest, rfl, bv, bs, bs', hoff, hpl, hen, hfg⟩ F N
      have hen9 : ents.length ≤ 9 := by omega
      replace bs' : sp ≤ 21 := by omega
      have hsz : vs.length ≤ 10 := by rw [hpl.1]; omega
      clear hen bv0 bs0 bs1 bd0 bd1 q1 q2
      rw [map_known2 e1 e2] at F
      try dsimp only [cellOf] at N
      k_steps
      unfold HoldG
      with_reducible rename News _ _ _ _ => N1
      with_reducible rename Fr _ _ _ _ => F1
      revert N1
      revert F1
      repeat (with_reducible rename Fr _ _ _ _ => Fz; clear Fz)
      repeat (with_reducible rename News _ _ _ _ => Nz; clear Nz)
      intro F1 N1
      refine LCp.SrcLP.ledger (k := c) rfl F1 N1 (.tail _ (.head _)) (by rw [List.size_toArray]; exact Nat.le_trans hsz (by decide)) fun g => ?_
      refine comp_pairs (n := vs.toArray.size) (fun i ys nw => ∃ rest2, nw = (WL, wellO v D sp t1 t2 n) :: (P, W.listOf (List.toArray vs) c) :: (Tg, W.listOf its 0) :: (D, W.listOf ws.toArray 0) :: (cellOf BW, o) :: rest2 ∧
          (∀ p ∈ rest, p ∈ rest2) ∧ (∀ p ∈ rest2, p.1 ≠ WL) ∧ RowsIn (worldOf BW) rest2 ys (ents.take i)) ?_ ?_ vs.toArray.size 0 [] _ (Nat.zero_add _) ⟨rest, rfl, (fun p hp => hp), (fun p hp => (hoff p hp).1), rows_nil⟩
      · clear F1 N1
        rintro i ys nw v' hi ⟨rest2, rfl, hsub, hoff2, hrows⟩ hv
        rw [List.size_toArray] at hi
        have hi2 : i < ents.length := by rw [← hpl.1]; exact hi
        have he : ents[i]? = some ents[i] := by simp [hi2]
        have htake : ents.take (i + 1) = ents.take i ++ [ents[i]] := (List.take_append_getElem hi2).symm
        rw [htake]
        obtain ⟨pp, tv, tf, g1, ⟨ot, g2, g3, nt, g4⟩, g5⟩ := hpl.2 _ _ he
        have hvv : v' = .ref pp := by
          rw [List.getElem?_toArray, g1] at hv
          exact (Option.some.inj hv).symm
        subst hvv
        generalize ents[i] = e at *
        obtain ⟨tag, fig⟩ := e
        dsimp only at g4 g5
        refine ⟨pp, ot, tv, .int fig tf, nt, rfl, .tail _ (.tail _ (.tail _ (.tail _ (.tail _ (hsub _ g2))))), g3, g4, ?_⟩
        intro I oI C oC D' m₂ h tk E' hC hx hx2 F N off ne
        clear ne
        try dsimp only [cellOf] at N
        k_steps
        · with_reducible rename fig = 0 => hz
          unfold HoldG
          with_reducible rename News _ _ _ _ => N1
          with_reducible rename Fr _ _ _ _ => F1
          revert N1
          revert F1
          repeat (with_reducible rename Fr _ _ _ _ => Fz; clear Fz)
          repeat (with_reducible rename News _ _ _ _ => Nz; clear Nz)
          intro F1 N1
          refine miss_use (gdLaw (by decide) K0 BW F1 rfl rfl) F1 N1 ?_
          intro x d u1 u2 u3 h' tk' F' N' z1 z2
          have nx : x ≠ I ∧ x ≠ C ∧ x ≠ D' ∧ x ≠ WL := ⟨fresh_ne N1 (.head _) z1, fresh_ne N1 (.tail _ (.head _)) z1, fresh_ne N1 (.tail _ (.tail _ (.head _))) z1, fresh_ne N1 (.tail _ (.tail _ (.tail _ (.head _)))) z1⟩
          have nd : d ≠ I ∧ d ≠ C ∧ d ≠ D' ∧ d ≠ WL := ⟨fresh_ne N1 (.head _) z2, fresh_ne N1 (.tail _ (.head _)) z2, fresh_ne N1 (.tail _ (.tail _ (.head _))) z2, fresh_ne N1 (.tail _ (.tail _ (.tail _ (.head _)))) z2⟩
          k_steps
          try k_unfold
          with_reducible rename News _ _ _ ((_, _) :: _) => N5
          with_reducible rename Fr _ _ _ _ => F5
          rename_i TT _ l5
          have nTI : TT ≠ I := by k_ne
          have nTC : TT ≠ C := by k_ne
          have nTD : TT ≠ D' := by k_ne
          have nTW : TT ≠ WL := by k_ne
          refine LCg.CompEnd.intro F5 N5 ((WL, _) :: (P, _) :: (Tg, _) :: (D, _) :: (_, o) :: (TT, _) :: (x, _) :: (d, _) :: rest2)
            (keep_cons (.tail _ (.tail _ (.tail _ (.head _)))) (keep_cons (.tail _ (.tail _ (.tail _ (.tail _ (.head _))))) (keep_cons (.tail _ (.tail _ (.tail _ (.tail _ (.tail _ (.head _)))))) (keep_cons (.tail _ (.tail _ (.tail _ (.tail _ (.tail _ (.tail _ (.head _))))))) (keep_cons (.tail _ (.tail _ (.tail _ (.tail _ (.tail _ (.tail _ (.tail _ (.head _)))))))) (keep_cons (.tail _ (.tail _ (.tail _ (.tail _ (.tail _ (.tail _ (.tail _ (.tail _ (.head _))))))))) (keep_cons (.tail _ (.tail _ (.tail _ (.tail _ (.tail _ (.tail _ (.tail _ (.tail _ (.tail _ (.head _)))))))))) (keep_cons (.tail _ (.tail _ (.tail _ (.tail _ (.tail _ (.tail _ (.tail _ (.tail _ (.tail _ (.tail _ (.head _))))))))))) (keep_cons (.head _) (keep_cons (.tail _ (.head _)) (keep_cons (.tail _ (.tail _ (.head _))) fun p hp => (.tail _ (.tail _ (.tail _ (.tail _ (.tail _ (.tail _ (.tail _ (.tail _ (.tail _ (.tail _ (.tail _ hp))))))))))))))))))))))
            (LCg.Off3.of (keep_cons (off.mem _ (.head _)) (keep_cons (off.mem _ (.tail _ (.head _))) (keep_cons (off.mem _ (.tail _ (.tail _ (.head _)))) (keep_cons (off.mem _ (.tail _ (.tail _ (.tail _ (.head _))))) (keep_cons (off.mem _ (.tail _ (.tail _ (.tail _ (.tail _ (.head _)))))) (keep_cons ⟨nTI, nTC, nTD⟩ (keep_cons ⟨nx.1, nx.2.1, nx.2.2.1⟩ (keep_cons ⟨nd.1, nd.2.1, nd.2.2.1⟩ fun p hp => off.mem p (.tail _ (.tail _ (.tail _ (.tail _ (.tail _ hp))))))))))))))
            (.inr ⟨_, .tail _ (.head _), rfl, _, rfl⟩) ?_
          refine ⟨(TT, _) :: (x, _) :: (d, _) :: rest2, rfl, (fun p hp => (.tail _ (.tail _ (.tail _ (hsub p hp))))), (keep_cons nTW (keep_cons nx.2.2.2 (keep_cons nd.2.2.2 hoff2))),
            RowsIn.snoc (hrows.sub fun p hp => (.tail _ (.tail _ (.tail _ hp)))) ⟨_, .head _, rfl, _, rfl⟩ g5 (.inl ⟨hz, d, _, _, _, (.tail _ (.head _)), (.tail _ (.tail _ (.head _)))⟩)⟩
        · with_reducible rename ¬ fig = 0 => hz
          unfold HoldG
          with_reducible rename News _ _ _ _ => N1
          with_reducible rename Fr _ _ _ _ => F1
          revert N1
          revert F1
          repeat (with_reducible rename Fr _ _ _ _ => Fz; clear Fz)
          repeat (with_reducible rename News _ _ _ _ => Nz; clear Nz)
          intro F1 N1
          refine whole_use (gdLaw (by decide) K0 BW F1 rfl rfl) F1 N1 ?_
          intro x d l u1 u2 u3 u4 u5 u6 u7 h' tk' F' N' z1 z2 z3
          have nx : x ≠ I ∧ x ≠ C ∧ x ≠ D' ∧ x ≠ WL := ⟨fresh_ne N1 (.head _) z1, fresh_ne N1 (.tail _ (.head _)) z1, fresh_ne N1 (.tail _ (.tail _ (.head _))) z1, fresh_ne N1 (.tail _ (.tail _ (.tail _ (.head _)))) z1⟩
          have nd : d ≠ I ∧ d ≠ C ∧ d ≠ D' ∧ d ≠ WL := ⟨fresh_ne N1 (.head _) z2, fresh_ne N1 (.tail _ (.head _)) z2, fresh_ne N1 (.tail _ (.tail _ (.head _))) z2, fresh_ne N1 (.tail _ (.tail _ (.tail _ (.head _)))) z2⟩
          have nl : l ≠ I ∧ l ≠ C ∧ l ≠ D' ∧ l ≠ WL := ⟨fresh_ne N1 (.head _) z3, fresh_ne N1 (.tail _ (.head _)) z3, fresh_ne N1 (.tail _ (.tail _ (.head _))) z3, fresh_ne N1 (.tail _ (.tail _ (.tail _ (.head _)))) z3⟩
          k_steps
          try k_unfold
          with_reducible rename News _ _ _ ((_, _) :: _) => N5
          with_reducible rename Fr _ _ _ _ => F5
          rename_i TT _ l5
          have nTI : TT ≠ I := by k_ne
          have nTC : TT ≠ C := by k_ne
          have nTD : TT ≠ D' := by k_ne
          have nTW : TT ≠ WL := by k_ne
          refine LCg.CompEnd.intro F5 N5 ((WL, _) :: (P, _) :: (Tg, _) :: (D, _) :: (_, o) :: (TT, _) :: (x, _) :: (d, _) :: (l, _) :: rest2)
            (keep_cons (.tail _ (.tail _ (.tail _ (.tail _ (.head _))))) (keep_cons (.tail _ (.tail _ (.tail _ (.tail _ (.tail _ (.head _)))))) (keep_cons (.tail _ (.tail _ (.tail _ (.tail _ (.tail _ (.tail _ (.head _))))))) (keep_cons (.tail _ (.tail _ (.tail _ (.tail _ (.tail _ (.tail _ (.tail _ (.head _)))))))) (keep_cons (.tail _ (.tail _ (.tail _ (.tail _ (.tail _ (.tail _ (.tail _ (.tail _ (.head _))))))))) (keep_cons (.tail _ (.tail _ (.tail _ (.tail _ (.tail _ (.tail _ (.tail _ (.tail _ (.tail _ (.head _)))))))))) (keep_cons (.tail _ (.tail _ (.tail _ (.tail _ (.tail _ (.tail _ (.tail _ (.tail _ (.tail _ (.tail _ (.head _))))))))))) (keep_cons (.tail _ (.tail _ (.tail _ (.tail _ (.tail _ (.tail _ (.tail _ (.tail _ (.tail _ (.tail _ (.tail _ (.head _)))))))))))) (keep_cons (.head _) (keep_cons (.tail _ (.head _)) (keep_cons (.tail _ (.tail _ (.head _))) (keep_cons (.tail _ (.tail _ (.tail _ (.head _)))) fun p hp => (.tail _ (.tail _ (.tail _ (.tail _ (.tail _ (.tail _ (.tail _ (.tail _ (.tail _ (.tail _ (.tail _ (.tail _ hp))))))))))))))))))))))))
            (LCg.Off3.of (keep_cons (off.mem _ (.head _)) (keep_cons (off.mem _ (.tail _ (.head _))) (keep_cons (off.mem _ (.tail _ (.tail _ (.head _)))) (keep_cons (off.mem _ (.tail _ (.tail _ (.tail _ (.head _))))) (keep_cons (off.mem _ (.tail _ (.tail _ (.tail _ (.tail _ (.head _)))))) (keep_cons ⟨nTI, nTC, nTD⟩ (keep_cons ⟨nx.1, nx.2.1, nx.2.2.1⟩ (keep_cons ⟨nd.1, nd.2.1, nd.2.2.1⟩ (keep_cons ⟨nl.1, nl.2.1, nl.2.2.1⟩ fun p hp => off.mem p (.tail _ (.tail _ (.tail _ (.tail _ (.tail _ hp)))))))))))))))
            (.inr ⟨_, .tail _ (.head _), rfl, _, rfl⟩) ?_
          refine ⟨(TT, _) :: (x, _) :: (d, _) :: (l, _) :: rest2, rfl, (fun p hp => (.tail _ (.tail _ (.tail _ (.tail _ (hsub p hp)))))), (keep_cons nTW (keep_cons nx.2.2.2 (keep_cons nd.2.2.2 (keep_cons nl.2.2.2 hoff2)))),
            RowsIn.snoc (hrows.sub fun p hp => (.tail _ (.tail _ (.tail _ (.tail _ hp))))) ⟨_, .head _, rfl, _, rfl⟩ g5 (.inr ⟨hz, d, l, _, _, _, _, _, _, _, (.tail _ (.head _)), (.tail _ (.tail _ (.head _))), (.tail _ (.tail _ (.tail _ (.head _))))⟩)⟩
      · clear F1 N1
        rintro ys nw ⟨rest2, rfl, hsub, hoff2, hrows⟩
        rw [List.size_toArray, hpl.1, List.take_length] at hrows
        have hpl2 : PlanIn rest2 vs ents := hpl.sub hsub
        clear hpl hoff hsub
        k_steps
        unfold HoldG
        with_reducible rename News _ _ _ ((_, _) :: _) => N1
        with_reducible rename Fr _ _ _ _ => F1
        rename_i R _ _ oR NL _ lN
        refine list_loopI (k := 0) (fun i m => m "rows" = some (.ref R) ∧ m "well" = some (.ref WL)) rfl (.head _) F1 N1 ⟨rfl, rfl⟩ ?_ ?_
        · clear F1 N1
          rintro i v' m₁ h tk I oI hv ⟨e1, e2⟩ F N
          obtain ⟨nm, tn, rfl, hnm⟩ := names_at hv
          clear hv
          rw [map_known2 e1 e2] at F
          try dsimp only [cellOf] at N
          k_steps
          unfold HoldG
          with_reducible rename News _ _ _ _ => N1
          with_reducible rename Fr _ _ _ _ => F1
          revert N1
          revert F1
          repeat (with_reducible rename Fr _ _ _ _ => Fz; clear Fz)
          repeat (with_reducible rename News _ _ _ _ => Nz; clear Nz)
          intro F1 N1
          refine SoftCall.use (by_name (gdLaw (by decide) K0 BW F1 rfl rfl) (RowsIn.at (k := ys.length) N1 (.tail _ (.tail _ (.head _))) (hrows.sub fun p hp => (.tail _ (.tail _ (.tail _ (.tail _ (.tail _ (.tail _ (.tail _ (.tail _ hp)))))))))) (by omega)) rfl rfl F1 N1 ?_
          intro v1 hh1 tt1 hv1 F2 N2
          k_steps
          unfold HoldG
          with_reducible rename News _ _ _ _ => N1
          with_reducible rename Fr _ _ _ _ => F1
          revert N1
          revert F1
          repeat (with_reducible rename Fr _ _ _ _ => Fz; clear Fz)
          repeat (with_reducible rename News _ _ _ _ => Nz; clear Nz)
          intro F1 N1
          refine PureCall.use (due_name (gdLaw (by decide) K0 BW F1 rfl rfl) (PlanIn.at (k := c) N1 (.tail _ (.tail _ (.tail _ (.tail _ (.head _))))) (hpl2.sub fun p hp => (.tail _ (.tail _ (.tail _ (.tail _ (.tail _ (.tail _ (.tail _ (.tail _ hp)))))))))) (by omega) hnm (fun e he => (hfg e he).1)) F1 N1 ?_
          intro v2 hh2 tt2 hv2 _ F3 N3
          k_steps
          unfold HoldG
          with_reducible rename News _ _ _ _ => N1
          with_reducible rename Fr _ _ _ _ => F1
          revert N1
          revert F1
          repeat (with_reducible rename Fr _ _ _ _ => Fz; clear Fz)
          repeat (with_reducible rename News _ _ _ _ => Nz; clear Nz)
          intro F1 N1
          exact InvEnd.intro F1 N1 (fun p hp => hp) ⟨rfl, rfl⟩
        · clear F1 N1
          rintro m₁ h tk ⟨e1, e2⟩ F N
          rw [map_known2 e1 e2] at F
          have nRW : Apart R WL := Ne.symm oR.1
          clear oR
          have hvl : vs.length = ents.length := hpl2.1
          replace N : News _ _ h ((R, LCg.lst ys) :: (WL, wellO v D sp t1 t2 n) :: (P, W.listOf (List.toArray vs) c) :: (Tg, W.listOf its 0) :: (D, W.listOf ws.toArray 0) :: (cellOf BW, o) :: rest2) := fun p hp => N p (.tail _ hp)
          try dsimp only [cellOf] at N
          k_steps
          unfold HoldG
          with_reducible rename News _ _ _ _ => N1
          with_reducible rename Fr _ _ _ _ => F1
          revert N1
          revert F1
          repeat (with_reducible rename Fr _ _ _ _ => Fz; clear Fz)
          repeat (with_reducible rename News _ _ _ _ => Nz; clear Nz)
          intro F1 N1
          with_reducible rename IsRange _ _ _ _ _ _ _ _ => hrg
          replace hrg : IsRange _ _ (-2) ((ents.length : Int) + 3) 1 _ _ _ := hrg
          obtain ⟨q3, q4⟩ := range_ok (a := -2) (b := (ents.length : Int) + 3) (n := ents.length + 5) (by omega) (by omega) (by omega)
          refine range_loopN (fun i m nx => nx = (R, LCg.lst ys) :: (WL, wellO v D sp t1 t2 n) :: (P, W.listOf (List.toArray vs) c) :: (Tg, W.listOf its 0) :: (D, W.listOf ws.toArray 0) :: (cellOf BW, o) :: rest2 ∧ m "rows" = some (.ref R) ∧ m "well" = some (.ref WL)) rfl hrg q3 q4 F1 N1 ⟨rfl, rfl, rfl⟩ ?_ ?_
          · clear F1 N1 hrg q3 q4
            rintro i ti m₁ nx h tk I oI hlt ⟨rfl, e1, e2⟩ hI F N
            rw [map_known2 e1 e2] at F
            try dsimp only [cellOf] at N
            k_steps
            unfold HoldG
            with_reducible rename News _ _ _ _ => N1
            with_reducible rename Fr _ _ _ _ => F1
            revert N1
            revert F1
            repeat (with_reducible rename Fr _ _ _ _ => Fz; clear Fz)
            repeat (with_reducible rename News _ _ _ _ => Nz; clear Nz)
            intro F1 N1
            refine SoftCall.use (by_number (gdLaw (by decide) K0 BW F1 rfl rfl) (RowsIn.at (k := ys.length) N1 (.tail _ (.head _)) (hrows.sub fun p hp => (.tail _ (.tail _ (.tail _ (.tail _ (.tail _ (.tail _ (.tail _ hp))))))))) (by omega) (by omega) (by omega)) rfl rfl F1 N1 ?_
            intro v1 hh1 tt1 hv1 F2 N2
            k_steps
            unfold HoldG
            with_reducible rename News _ _ _ _ => N1
            with_reducible rename Fr _ _ _ _ => F1
            revert N1
            revert F1
            repeat (with_reducible rename Fr _ _ _ _ => Fz; clear Fz)
            repeat (with_reducible rename News _ _ _ _ => Nz; clear Nz)
            intro F1 N1
            refine PureCall.use (due_number (gdLaw (by decide) K0 BW F1 rfl rfl) (PlanIn.at (k := c) N1 (.tail _ (.tail _ (.tail _ (.head _)))) (hpl2.sub fun p hp => (.tail _ (.tail _ (.tail _ (.tail _ (.tail _ (.tail _ (.tail _ hp))))))))) (by omega) (by omega) (by omega)) F1 N1 ?_
            intro v2 hh2 tt2 hv2 _ F3 N3
            k_steps
            unfold HoldG
            with_reducible rename News _ _ _ _ => N1
            with_reducible rename Fr _ _ _ _ => F1
            revert N1
            revert F1
            repeat (with_reducible rename Fr _ _ _ _ => Fz; clear Fz)
            repeat (with_reducible rename News _ _ _ _ => Nz; clear Nz)
            intro F1 N1
            exact EndN.intro F1 N1 hI ⟨rfl, rfl, rfl⟩
          · clear F1 N1 hrg q3 q4
            rintro m₁ nx h tk ⟨rfl, e1, e2⟩ F N
            rw [map_known2 e1 e2] at F
            try dsimp only [cellOf] at N
            k_steps
            unfold HoldG
            with_reducible rename News _ _ _ _ => N1
            with_reducible rename Fr _ _ _ _ => F1
            revert N1
            revert F1
            repeat (with_reducible rename Fr _ _ _ _ => Fz; clear Fz)
            repeat (with_reducible rename News _ _ _ _ => Nz; clear Nz)
            intro F1 N1
            refine list_loopI (k := 0) (fun i m => m "rows" = some (.ref R) ∧ m "well" = some (.ref WL)) rfl (.head _) F1 N1 ⟨rfl, rfl⟩ ?_ ?_
            · clear F1 N1
              rintro i v' m₁ h tk I oI hv ⟨e1, e2⟩ F N
              obtain ⟨k5, t5, rfl, hk5⟩ := two_at hv
              clear hv
              have hk : k5 = 1000000000 ∨ k5 = -1000000000 := hk5.imp (fun e => e.trans rfl) (fun e => e.trans rfl)
              clear hk5
              have hnr : numRes ents k5 = .inr "none" := numRes_none (by omega)
              rw [map_known2 e1 e2] at F
              try dsimp only [cellOf] at N
              k_steps
              unfold HoldG
              with_reducible rename News _ _ _ _ => N1
              with_reducible rename Fr _ _ _ _ => F1
              revert N1
              revert F1
              repeat (with_reducible rename Fr _ _ _ _ => Fz; clear Fz)
              repeat (with_reducible rename News _ _ _ _ => Nz; clear Nz)
              intro F1 N1
              refine SoftCall.use (by_number (gdLaw (by decide) K0 BW F1 rfl rfl) (RowsIn.at (k := ys.length) N1 (.tail _ (.tail _ (.head _))) (hrows.sub fun p hp => (.tail _ (.tail _ (.tail _ (.tail _ (.tail _ (.tail _ (.tail _ (.tail _ hp)))))))))) (by omega) (by omega) (by omega)) rfl rfl F1 N1 ?_
              intro v1 hh1 tt1 hv1 F2 N2
              rw [hnr] at hv1
              k_steps
              unfold HoldG
              with_reducible rename News _ _ _ _ => N1
              with_reducible rename Fr _ _ _ _ => F1
              revert N1
              revert F1
              repeat (with_reducible rename Fr _ _ _ _ => Fz; clear Fz)
              repeat (with_reducible rename News _ _ _ _ => Nz; clear Nz)
              intro F1 N1
              exact InvEnd.intro F1 N1 (fun p hp => hp) ⟨rfl, rfl⟩
            · clear F1 N1
              rintro m₁ h tk ⟨e1, e2⟩ F N
              rw [map_known2 e1 e2] at F
              replace N : News _ _ h ((R, LCg.lst ys) :: (WL, wellO v D sp t1 t2 n) :: (P, W.listOf (List.toArray vs) c) :: (Tg, W.listOf its 0) :: (D, W.listOf ws.toArray 0) :: (cellOf BW, o) :: rest2) := fun p hp => N p (.tail _ hp)
              try dsimp only [cellOf] at N
              k_steps
              unfold HoldG
              with_reducible rename News _ _ _ _ => N1
              with_reducible rename Fr _ _ _ _ => F1
              revert N1
              revert F1
              repeat (with_reducible rename Fr _ _ _ _ => Fz; clear Fz)
              repeat (with_reducible rename News _ _ _ _ => Nz; clear Nz)
              intro F1 N1
              with_reducible rename IsRange _ _ _ _ _ _ _ _ => hrg
              replace hrg : IsRange _ _ 0 4 1 _ _ _ := hrg
              obtain ⟨q5, q6⟩ := range_ok (a := 0) (b := 4) (n := 4) (by omega) (by omega) (by omega)
              refine range_loopN (fun i m nx => m "rows" = some (.ref R) ∧ m "well" = some (.ref WL) ∧ ∃ v sp t1 t2 n, nx = (R, LCg.lst ys) :: (WL, wellO v D sp t1 t2 n) :: (P, W.listOf (List.toArray vs) c) :: (Tg, W.listOf its 0) :: (D, W.listOf ws.toArray 0) :: (cellOf BW, o) :: rest2 ∧ 0 ≤ v ∧ 0 ≤ sp ∧ sp ≤ 21 + 3 * (i : Int)) rfl hrg q5 q6 F1 N1 ⟨rfl, rfl, v, sp, t1, t2, n, rfl, bv, bs, by omega⟩ ?_ ?_
              · clear F1 N1 hrg bv bs bs' q5 q6
                rintro i ti m₁ nx h tk I oI hlt ⟨e1, e2, v, sp, t1, t2, n, rfl, bv, bs, bs'⟩ hI F N
                have nIW : I ≠ WL := Ne.symm (hI (WL, _) (.tail _ (.head _)))
                rw [map_known2 e1 e2] at F
                try dsimp only [cellOf] at N
                k_steps
                unfold HoldG
                with_reducible rename News _ _ _ _ => N1
                with_reducible rename Fr _ _ _ _ => F1
                revert N1
                revert F1
                repeat (with_reducible rename Fr _ _ _ _ => Fz; clear Fz)
                repeat (with_reducible rename News _ _ _ _ => Nz; clear Nz)
                intro F1 N1
                refine pull_use K0 BW F1 N1 rfl rfl (.tail _ (.tail _ (.head _))) (.tail _ (.tail _ (.tail _ (.tail _ (.tail _ (.head _)))))) nDW hIw (take_len _).1 (take_len _).2 (by with_reducible assumption) (by omega) (by omega) (by decide) (by decide)
                  ((I, oI) :: (R, _) :: (P, _) :: (Tg, _) :: (D, _) :: (_, o) :: rest2) (keep_cons ⟨(.head _), nIW⟩ (keep_cons ⟨(.tail _ (.head _)), nRW⟩ (keep_cons ⟨(.tail _ (.tail _ (.tail _ (.head _)))), nPW⟩ (keep_cons ⟨(.tail _ (.tail _ (.tail _ (.tail _ (.head _))))), nTW⟩ (keep_cons ⟨(.tail _ (.tail _ (.tail _ (.tail _ (.tail _ (.head _)))))), nDW⟩ (keep_cons ⟨(.tail _ (.tail _ (.tail _ (.tail _ (.tail _ (.tail _ (.head _))))))), nCW⟩ fun p hp => ⟨(.tail _ (.tail _ (.tail _ (.tail _ (.tail _ (.tail _ (.tail _ hp))))))), hoff2 p hp⟩)))))) ?_
                intro da tda ha tka va spa t1a t2a na bva bsa1 bsa2 bda1 bda2 F2 N2
                clear F1 N1
                k_steps
                unfold HoldG
                with_reducible rename News _ _ _ _ => N1
                with_reducible rename Fr _ _ _ _ => F1
                revert N1
                revert F1
                repeat (with_reducible rename Fr _ _ _ _ => Fz; clear Fz)
                repeat (with_reducible rename News _ _ _ _ => Nz; clear Nz)
                intro F1 N1
                refine pull_use K0 BW F1 N1 rfl rfl (.head _) (.tail _ (.tail _ (.tail _ (.tail _ (.tail _ (.head _)))))) nDW hIw (take_len _).1 (take_len _).2 (by with_reducible assumption) (by omega) (by omega) (by decide) (by decide)
                  ((I, oI) :: (R, _) :: (P, _) :: (Tg, _) :: (D, _) :: (_, o) :: rest2) (keep_cons ⟨(.tail _ (.head _)), nIW⟩ (keep_cons ⟨(.tail _ (.tail _ (.head _))), nRW⟩ (keep_cons ⟨(.tail _ (.tail _ (.tail _ (.head _)))), nPW⟩ (keep_cons ⟨(.tail _ (.tail _ (.tail _ (.tail _ (.head _))))), nTW⟩ (keep_cons ⟨(.tail _ (.tail _ (.tail _ (.tail _ (.tail _ (.head _)))))), nDW⟩ (keep_cons ⟨(.tail _ (.tail _ (.tail _ (.tail _ (.tail _ (.tail _ (.head _))))))), nCW⟩ fun p hp => ⟨(.tail _ (.tail _ (.tail _ (.tail _ (.tail _ (.tail _ (.tail _ hp))))))), hoff2 p hp⟩)))))) ?_
                intro db tdb hb tkb vb spb t1b t2b nb bvb bsb1 bsb2 bdb1 bdb2 F2 N2
                clear F1 N1
                k_steps
                unfold HoldG
                with_reducible rename News _ _ _ _ => N1
                with_reducible rename Fr _ _ _ _ => F1
                revert N1
                revert F1
                repeat (with_reducible rename Fr _ _ _ _ => Fz; clear Fz)
                repeat (with_reducible rename News _ _ _ _ => Nz; clear Nz)
                intro F1 N1
                refine PureCall.use (picked_tuple (gdLaw (by decide) K0 BW F1 rfl rfl) ⟨_, (N1 _ (.head _)).1, rfl, _, rfl⟩ (by omega) (by omega) (by omega) (by omega)) F1 N1 ?_
                intro v1 hh1 tt1 hv1 _ F2 N2
                k_steps
                unfold HoldG
                with_reducible rename News _ _ _ _ => N1
                with_reducible rename Fr _ _ _ _ => F1
                revert N1
                revert F1
                repeat (with_reducible rename Fr _ _ _ _ => Fz; clear Fz)
                repeat (with_reducible rename News _ _ _ _ => Nz; clear Nz)
                intro F1 N1
                refine PureCall.use (due_place_tuple (gdLaw (by decide) K0 BW F1 rfl rfl) ⟨_, (N1 _ (.head _)).1, rfl, _, rfl⟩ (by omega) (by omega) (by omega) (by omega)) F1 N1 ?_
                intro v2 hh2 tt2 hv2 _ F2 N2
                k_steps
                unfold HoldG
                with_reducible rename News _ _ _ _ => N1
                with_reducible rename Fr _ _ _ _ => F1
                revert N1
                revert F1
                repeat (with_reducible rename Fr _ _ _ _ => Fz; clear Fz)
                repeat (with_reducible rename News _ _ _ _ => Nz; clear Nz)
                intro F1 N1
                refine pull_use K0 BW F1 N1 rfl rfl (.tail _ (.head _)) (.tail _ (.tail _ (.tail _ (.tail _ (.tail _ (.tail _ (.head _))))))) nDW hIw (take_len _).1 (take_len _).2 (by with_reducible assumption) (by omega) (by omega) (by decide) (by decide)
                  ((I, oI) :: (R, _) :: (P, _) :: (Tg, _) :: (D, _) :: (_, o) :: rest2) (keep_cons ⟨(.tail _ (.tail _ (.head _))), nIW⟩ (keep_cons ⟨(.tail _ (.tail _ (.tail _ (.head _)))), nRW⟩ (keep_cons ⟨(.tail _ (.tail _ (.tail _ (.tail _ (.head _))))), nPW⟩ (keep_cons ⟨(.tail _ (.tail _ (.tail _ (.tail _ (.tail _ (.head _)))))), nTW⟩ (keep_cons ⟨(.tail _ (.tail _ (.tail _ (.tail _ (.tail _ (.tail _ (.head _))))))), nDW⟩ (keep_cons ⟨(.tail _ (.tail _ (.tail _ (.tail _ (.tail _ (.tail _ (.tail _ (.head _)))))))), nCW⟩ fun p hp => ⟨(.tail _ (.tail _ (.tail _ (.tail _ (.tail _ (.tail _ (.tail _ (.tail _ hp)))))))), hoff2 p hp⟩)))))) ?_
                intro dc tdc hc tkc vc spc t1c t2c nc bvc bsc1 bsc2 bdc1 bdc2 F2 N2
                clear F1 N1
                k_steps
                unfold HoldG
                with_reducible rename News _ _ _ _ => N1
                with_reducible rename Fr _ _ _ _ => F1
                revert N1
                revert F1
                repeat (with_reducible rename Fr _ _ _ _ => Fz; clear Fz)
                repeat (with_reducible rename News _ _ _ _ => Nz; clear Nz)
                intro F1 N1
                refine PureCall.use (picked_int (gdLaw (by decide) K0 BW F1 rfl rfl)) F1 N1 ?_
                intro v3 hh3 tt3 hv3 _ F2 N2
                k_steps
                unfold HoldG
                with_reducible rename News _ _ _ _ => N1
                with_reducible rename Fr _ _ _ _ => F1
                revert N1
                revert F1
                repeat (with_reducible rename Fr _ _ _ _ => Fz; clear Fz)
                repeat (with_reducible rename News _ _ _ _ => Nz; clear Nz)
                intro F1 N1
                refine EndN.intro (nx := (R, _) :: (WL, _) :: (P, _) :: (Tg, _) :: (D, _) :: (_, o) :: rest2) F1 (keep_cons (N1 _ (.tail _ (.head _))) (keep_cons (N1 _ (.tail _ (.tail _ (.head _)))) (keep_cons (N1 _ (.head _)) (keep_cons (N1 _ (.tail _ (.tail _ (.tail _ (.head _))))) (keep_cons (N1 _ (.tail _ (.tail _ (.tail _ (.tail _ (.head _)))))) (keep_cons (N1 _ (.tail _ (.tail _ (.tail _ (.tail _ (.tail _ (.head _))))))) (keep_cons (N1 _ (.tail _ (.tail _ (.tail _ (.tail _ (.tail _ (.tail _ (.head _)))))))) fun p hp => N1 p (.tail _ (.tail _ (.tail _ (.tail _ (.tail _ (.tail _ (.tail _ hp))))))))))))))
                  (keep_cons (hI (R, _) (.head _)) (keep_cons (Ne.symm nIW) (keep_cons (hI (P, _) (.tail _ (.tail _ (.head _)))) (keep_cons (hI (Tg, _) (.tail _ (.tail _ (.tail _ (.head _))))) (keep_cons (hI (D, _) (.tail _ (.tail _ (.tail _ (.tail _ (.head _)))))) (keep_cons (hI (_, o) (.tail _ (.tail _ (.tail _ (.tail _ (.tail _ (.head _))))))) fun p hp => hI p (.tail _ (.tail _ (.tail _ (.tail _ (.tail _ (.tail _ hp))))))))))))
                  ⟨rfl, rfl, vc, spc, t1c, t2c, nc, rfl, bvc, by omega, by omega⟩
              · clear F1 N1 hrg bv bs bs' q5 q6
                rintro m₁ nx h tk ⟨e1, e2, v, sp, t1, t2, n, rfl, bv, bs, bs'⟩ F N
                rw [map_known2 e1 e2] at F
                try dsimp only [cellOf] at N
                k_steps
                unfold HoldG
                with_reducible rename News _ _ _ _ => N1
                with_reducible rename Fr _ _ _ _ => F1
                revert N1
                revert F1
                repeat (with_reducible rename Fr _ _ _ _ => Fz; clear Fz)
                repeat (with_reducible rename News _ _ _ _ => Nz; clear Nz)
                intro F1 N1
                rename_i D1 _ _ D2 _ _ D3 _ _ _ _ _
                refine list_loopI (k := 0) (fun i m => m "rows" = some (.ref R) ∧ m "well" = some (.ref WL)) rfl (.head _) F1 N1 ⟨rfl, rfl⟩ ?_ ?_
                · clear F1 N1
                  rintro i v' m₁ h tk I oI hv ⟨e1, e2⟩ F N
                  have hv2 := four_at hv
                  clear hv
                  rw [map_known2 e1 e2] at F
                  try dsimp only [cellOf] at N
                  rcases hv2 with rfl | rfl | rfl | rfl
                  · k_steps
                    unfold HoldG
                    with_reducible rename News _ _ _ _ => N1
                    with_reducible rename Fr _ _ _ _ => F1
                    revert N1
                    revert F1
                    repeat (with_reducible rename Fr _ _ _ _ => Fz; clear Fz)
                    repeat (with_reducible rename News _ _ _ _ => Nz; clear Nz)
                    intro F1 N1
                    refine PureCall.use (picked_none (gdLaw (by decide) K0 BW F1 rfl rfl)) F1 N1 ?_
                    intro v1 hh1 tt1 hv1 _ F2 N2
                    k_steps
                    unfold HoldG
                    with_reducible rename News _ _ _ _ => N1
                    with_reducible rename Fr _ _ _ _ => F1
                    revert N1
                    revert F1
                    repeat (with_reducible rename Fr _ _ _ _ => Fz; clear Fz)
                    repeat (with_reducible rename News _ _ _ _ => Nz; clear Nz)
                    intro F1 N1
                    exact InvEnd.intro F1 N1 (fun p hp => hp) ⟨rfl, rfl⟩
                  · k_steps
                    unfold HoldG
                    with_reducible rename News _ _ _ _ => N1
                    with_reducible rename Fr _ _ _ _ => F1
                    revert N1
                    revert F1
                    repeat (with_reducible rename Fr _ _ _ _ => Fz; clear Fz)
                    repeat (with_reducible rename News _ _ _ _ => Nz; clear Nz)
                    intro F1 N1
                    refine PureCall.use (picked_tuple (gdLaw (by decide) K0 BW F1 rfl rfl) ⟨_, (N1 _ (.tail _ (.tail _ (.tail _ (.tail _ (.head _)))))).1, rfl, _, rfl⟩ (by omega) (by omega) (by omega) (by omega)) F1 N1 ?_
                    intro v1 hh1 tt1 hv1 _ F2 N2
                    rw [if_pos (.inl rfl)] at hv1
                    k_steps
                    unfold HoldG
                    with_reducible rename News _ _ _ _ => N1
                    with_reducible rename Fr _ _ _ _ => F1
                    revert N1
                    revert F1
                    repeat (with_reducible rename Fr _ _ _ _ => Fz; clear Fz)
                    repeat (with_reducible rename News _ _ _ _ => Nz; clear Nz)
                    intro F1 N1
                    exact InvEnd.intro F1 N1 (fun p hp => hp) ⟨rfl, rfl⟩
                  · k_steps
                    unfold HoldG
                    with_reducible rename News _ _ _ _ => N1
                    with_reducible rename Fr _ _ _ _ => F1
                    revert N1
                    revert F1
                    repeat (with_reducible rename Fr _ _ _ _ => Fz; clear Fz)
                    repeat (with_reducible rename News _ _ _ _ => Nz; clear Nz)
                    intro F1 N1
                    refine PureCall.use (picked_tuple (gdLaw (by decide) K0 BW F1 rfl rfl) ⟨_, (N1 _ (.tail _ (.tail _ (.tail _ (.head _))))).1, rfl, _, rfl⟩ (by omega) (by omega) (by omega) (by omega)) F1 N1 ?_
                    intro v1 hh1 tt1 hv1 _ F2 N2
                    rw [if_pos (.inl rfl)] at hv1
                    k_steps
                    unfold HoldG
                    with_reducible rename News _ _ _ _ => N1
                    with_reducible rename Fr _ _ _ _ => F1
                    revert N1
                    revert F1
                    repeat (with_reducible rename Fr _ _ _ _ => Fz; clear Fz)
                    repeat (with_reducible rename News _ _ _ _ => Nz; clear Nz)
                    intro F1 N1
                    exact InvEnd.intro F1 N1 (fun p hp => hp) ⟨rfl, rfl⟩
                  · k_steps
                    unfold HoldG
                    with_reducible rename News _ _ _ _ => N1
                    with_reducible rename Fr _ _ _ _ => F1
                    revert N1
                    revert F1
                    repeat (with_reducible rename Fr _ _ _ _ => Fz; clear Fz)
                    repeat (with_reducible rename News _ _ _ _ => Nz; clear Nz)
                    intro F1 N1
                    refine PureCall.use (picked_tuple (gdLaw (by decide) K0 BW F1 rfl rfl) ⟨_, (N1 _ (.tail _ (.tail _ (.head _)))).1, rfl, _, rfl⟩ (by omega) (by omega) (by omega) (by omega)) F1 N1 ?_
                    intro v1 hh1 tt1 hv1 _ F2 N2
                    rw [if_pos (.inl rfl)] at hv1
                    k_steps
                    unfold HoldG
                    with_reducible rename News _ _ _ _ => N1
                    with_reducible rename Fr _ _ _ _ => F1
                    revert N1
                    revert F1
                    repeat (with_reducible rename Fr _ _ _ _ => Fz; clear Fz)
                    repeat (with_reducible rename News _ _ _ _ => Nz; clear Nz)
                    intro F1 N1
                    exact InvEnd.intro F1 N1 (fun p hp => hp) ⟨rfl, rfl⟩
                · clear F1 N1
                  rintro m₁ h tk ⟨e1, e2⟩ F N
                  rw [map_known2 e1 e2] at F
                  replace N : News _ _ h ((R, LCg.lst ys) :: (WL, wellO v D sp t1 t2 n) :: (P, W.listOf (List.toArray vs) c) :: (Tg, W.listOf its 0) :: (D, W.listOf ws.toArray 0) :: (cellOf BW, o) :: rest2) := fun p hp => N p (.tail _ (.tail _ (.tail _ (.tail _ hp))))
                  try dsimp only [cellOf] at N
                  k_steps
                  unfold HoldG
                  with_reducible rename News _ _ _ _ => N1
                  with_reducible rename Fr _ _ _ _ => F1
                  revert N1
                  revert F1
                  repeat (with_reducible rename Fr _ _ _ _ => Fz; clear Fz)
                  repeat (with_reducible rename News _ _ _ _ => Nz; clear Nz)
                  intro F1 N1
                  refine PureCall.use (picked_none (gdLaw (by decide) K0 BW F1 rfl rfl)) F1 N1 ?_
                  intro v1 hh1 tt1 hv1 _ F2 N2
                  clear F1 N1
                  k_steps
                  unfold HoldG
                  with_reducible rename News _ _ _ _ => N1
                  with_reducible rename Fr _ _ _ _ => F1
                  revert N1
                  revert F1
                  repeat (with_reducible rename Fr _ _ _ _ => Fz; clear Fz)
                  repeat (with_reducible rename News _ _ _ _ => Nz; clear Nz)
                  intro F1 N1
                  refine PureCall.use (picked_none (gdLaw (by decide) K0 BW F1 rfl rfl)) F1 N1 ?_
                  intro v2 hh2 tt2 hv2 _ F2 N2
                  clear F1 N1
                  k_steps
                  unfold HoldG
                  with_reducible rename News _ _ _ _ => N1
                  with_reducible rename Fr _ _ _ _ => F1
                  revert N1
                  revert F1
                  repeat (with_reducible rename Fr _ _ _ _ => Fz; clear Fz)
                  repeat (with_reducible rename News _ _ _ _ => Nz; clear Nz)
                  intro F1 N1
                  refine PureCall.use (picked_log (gdLaw (by decide) K0 BW F1 rfl rfl)) F1 N1 ?_
                  intro v3 hh3 tt3 hv3 _ F2 N2
                  clear F1 N1
                  k_steps
                  unfold HoldG
                  with_reducible rename IsRange _ _ _ _ _ _ _ _ => hrg
                  replace hrg : IsRange _ _ 0 (ents.length : Int) 1 _ _ _ := hrg
                  with_reducible rename News _ _ _ _ => N1
                  with_reducible rename Fr _ _ _ _ => F1
                  revert N1
                  revert F1
                  repeat (with_reducible rename Fr _ _ _ _ => Fz; clear Fz)
                  repeat (with_reducible rename News _ _ _ _ => Nz; clear Nz)
                  intro F1 N1
                  obtain ⟨q7, q8⟩ := range_ok (a := 0) (b := (ents.length : Int)) (n := ents.length) (by omega) (by omega) (by omega)
                  refine comp_range (fun i ys3 => ∃ dn, IntsAre ys3 dn ∧ dn ++ idxOf (isNm "EXPR") (ents.drop i) i = idxOf (isNm "EXPR") ents 0) rfl hrg q7 q8 (by omega) F1 N1 ⟨[], .nil, rfl⟩ ?_ ?_
                  · clear F1 N1 hrg q7 q8
                    rintro i ys3 t I oI C oC D' m₂ h tk E' hlt ⟨dn, hI, hG⟩ hC hx F N off ne
                    clear ne
                    have he : ents[i]? = some ents[i] := by simp [hlt]
                    obtain ⟨pp, tv, tf, g1, g2, g3⟩ := hpl2.2 _ _ he
                    have hdrop : ents.drop i = ents[i] :: ents.drop (i + 1) := List.drop_eq_getElem_cons hlt
                    generalize ents[i] = e at *
                    obtain ⟨tag, fig⟩ := e
                    have g1' : vs.toArray[(i : Int).toNat]? = some (.ref pp) := by rw [List.getElem?_toArray]; exact g1
                    rw [Int.zero_add] at hx
                    try dsimp only at g2 g3
                    try dsimp only [cellOf] at N
                    rcases tag with _ | tg
                    · obtain rfl : tv = .none := g3
                      k_steps
                      refine LCg.CompEnd.intro (by with_reducible assumption) (by with_reducible assumption) _ (fun p hp => hp) off trivial ⟨rfl, _, hI, idx_miss hdrop rfl hG⟩
                    · obtain ⟨tt, rfl⟩ : ∃ tt, tv = .str tg tt := g3
                      by_cases hnm : tg = ("EXPR" : Str)
                      · subst hnm
                        k_steps
                        refine LCg.CompEnd.intro (by with_reducible assumption) (by with_reducible assumption) _ (fun p hp => hp) off trivial ⟨rfl, _, ints_snoc1 hI, idx_hit hdrop (by simp [isNm]) hG⟩
                      · have hb2 : (tg == ("EXPR" : Str)) = false := by simpa using hnm
                        k_steps
                        refine LCg.CompEnd.intro (by with_reducible assumption) (by with_reducible assumption) _ (fun p hp => hp) off trivial ⟨rfl, _, hI, idx_miss hdrop (by simp [isNm, hnm]) hG⟩
                  · rintro ys3 g ⟨dn, hI, hG⟩
                    clear F1 N1 hrg q7 q8
                    rw [List.drop_length] at hG
                    obtain rfl : dn = idxOf (isNm "EXPR") ents 0 := by rw [← hG]; simp [idxOf]
                    clear hG
                    k_steps
                    unfold HoldG
                    with_reducible rename News _ _ _ _ => N1
                    with_reducible rename Fr _ _ _ _ => F1
                    revert N1
                    revert F1
                    repeat (with_reducible rename Fr _ _ _ _ => Fz; clear Fz)
                    repeat (with_reducible rename News _ _ _ _ => Nz; clear Nz)
                    intro F1 N1
                    refine PureCall.use (subject_spec (gdLaw (by decide) K0 BW F1 rfl rfl) (RowsIn.at (k := ys.length) N1 (.tail _ (.head _)) (hrows.sub fun p hp => (.tail _ (.tail _ (.tail _ (.tail _ (.tail _ (.tail _ (.tail _ hp))))))))) (by omega)) F1 N1 ?_
                    rintro v4 hh4 tt4 ⟨tv4, rfl⟩ _ F2 N2
                    clear F1 N1
                    obtain ⟨pv, hpv⟩ : ∃ pv : Int, pv = placeGo ents 0 := ⟨_, rfl⟩
                    rw [← hpv]
                    rw [placeGo_first] at hpv
                    have hrv : IsRes (.int pv tv4) (.inl pv) := ⟨_, rfl⟩
                    k_steps
                    unfold HoldG
                    with_reducible rename IntsAre _ (idxOf (isNm "EXPR") ents 0) => hI
                    refine pick_cut pv (by with_reducible assumption) (by with_reducible assumption) ?_ ?_
                    · cases hsg : idxOf (isNm "EXPR") ents 0 with
                      | nil =>
                        rw [hsg] at hI hpv
                        obtain rfl := hI.nil_inv
                        clear hI
                        obtain rfl : pv = 0 := hpv
                        k_steps
                        exact PickEnd.intro (by with_reducible assumption) (by with_reducible assumption) (fun p hp => .tail _ hp)
                      | cons f1 fr =>
                        rw [hsg] at hI hpv
                        obtain ⟨tf1, ysf, rfl, hIf⟩ := hI.cons_inv
                        clear hI
                        obtain rfl : pv = f1 := hpv
                        have hcj : decide (pv :: fr = []) = false := by simp
                        k_steps
                        all_goals try exact absurd (by with_reducible assumption : decide (pv :: fr = []) = true) (by simp)
                        simp only [getD0]
                        exact PickEnd.intro (by with_reducible assumption) (by with_reducible assumption) (fun p hp => .tail _ hp)
                    · try clear hI
                      repeat (with_reducible rename Fr _ _ _ _ => Fz; clear Fz)
                      repeat (with_reducible rename News _ _ _ _ => Nz; clear Nz)
                      rintro tv6 h6' tk6 F1 N1
                      k_steps
                      · unfold HoldG
                        with_reducible rename News _ _ _ _ => N1
                        with_reducible rename Fr _ _ _ _ => F1
                        revert N1
                        revert F1
                        repeat (with_reducible rename Fr _ _ _ _ => Fz; clear Fz)
                        repeat (with_reducible rename News _ _ _ _ => Nz; clear Nz)
                        intro F1 N1
                        refine miss_use (gdLaw (by decide) K0 BW F1 rfl rfl) F1 N1 ?_
                        intro x1 d1 u1 u2 u3 h9 tk9 F9 N9 z1 z2
                        clear F1 N1
                        k_steps
                        unfold HoldG
                        with_reducible rename News _ _ _ _ => N1
                        with_reducible rename Fr _ _ _ _ => F1
                        revert N1
                        revert F1
                        repeat (with_reducible rename Fr _ _ _ _ => Fz; clear Fz)
                        repeat (with_reducible rename News _ _ _ _ => Nz; clear Nz)
                        intro F1 N1
                        refine whole_use (gdLaw (by decide) K0 BW F1 rfl rfl) F1 N1 ?_
                        intro x2 d2 l2 y1 y2 y3 y4 y5 y6 y7 h8 tk8 F8 N8 z3 z4 z5
                        clear F1 N1
                        k_steps
                        unfold HoldG
                        with_reducible rename News _ _ _ _ => N1
                        with_reducible rename Fr _ _ _ _ => F1
                        revert N1
                        revert F1
                        repeat (with_reducible rename Fr _ _ _ _ => Fz; clear Fz)
                        repeat (with_reducible rename News _ _ _ _ => Nz; clear Nz)
                        intro F1 N1
                        refine SoftCall.use (by_name (gdLaw (by decide) K0 BW F1 rfl rfl) (RowsIn.at (k := 0) N1 (.head _) (fixed_rows ⟨_, (.tail _ (.tail _ (.tail _ (.tail _ (.tail _ (.head _)))))), rfl, _, rfl⟩ ⟨_, (.tail _ (.head _)), rfl, _, rfl⟩ (.tail _ (.tail _ (.tail _ (.tail _ (.tail _ (.tail _ (.head _))))))) (.tail _ (.tail _ (.tail _ (.tail _ (.tail _ (.tail _ (.tail _ (.head _)))))))) (.tail _ (.tail _ (.head _))) (.tail _ (.tail _ (.tail _ (.head _)))) (.tail _ (.tail _ (.tail _ (.tail _ (.head _))))))) (by decide)) rfl rfl F1 N1 ?_
                        intro v5 hh5 tt5 hv5 F2 N2
                        rw [fixed_a] at hv5
                        obtain ⟨tv5, rfl⟩ := hv5
                        clear F1 N1
                        k_steps
                        unfold HoldG
                        with_reducible rename News _ _ _ _ => N1
                        with_reducible rename Fr _ _ _ _ => F1
                        revert N1
                        revert F1
                        repeat (with_reducible rename Fr _ _ _ _ => Fz; clear Fz)
                        repeat (with_reducible rename News _ _ _ _ => Nz; clear Nz)
                        intro F1 N1
                        refine SoftCall.use (by_name (gdLaw (by decide) K0 BW F1 rfl rfl) (RowsIn.at (k := 0) N1 (.head _) (fixed_rows ⟨_, (.tail _ (.tail _ (.tail _ (.tail _ (.tail _ (.head _)))))), rfl, _, rfl⟩ ⟨_, (.tail _ (.head _)), rfl, _, rfl⟩ (.tail _ (.tail _ (.tail _ (.tail _ (.tail _ (.tail _ (.head _))))))) (.tail _ (.tail _ (.tail _ (.tail _ (.tail _ (.tail _ (.tail _ (.head _)))))))) (.tail _ (.tail _ (.head _))) (.tail _ (.tail _ (.tail _ (.head _)))) (.tail _ (.tail _ (.tail _ (.tail _ (.head _))))))) (by decide)) rfl rfl F1 N1 ?_
                        intro v5 hh5 tt5 hv5 F2 N2
                        rw [fixed_b] at hv5
                        obtain ⟨tv5, rfl⟩ := hv5
                        clear F1 N1
                        k_steps
                        unfold HoldG
                        with_reducible rename News _ _ _ _ => N1
                        with_reducible rename Fr _ _ _ _ => F1
                        revert N1
                        revert F1
                        repeat (with_reducible rename Fr _ _ _ _ => Fz; clear Fz)
                        repeat (with_reducible rename News _ _ _ _ => Nz; clear Nz)
                        intro F1 N1
                        refine SoftCall.use (by_number (gdLaw (by decide) K0 BW F1 rfl rfl) (RowsIn.at (k := 0) N1 (.head _) (fixed_rows ⟨_, (.tail _ (.tail _ (.tail _ (.tail _ (.tail _ (.head _)))))), rfl, _, rfl⟩ ⟨_, (.tail _ (.head _)), rfl, _, rfl⟩ (.tail _ (.tail _ (.tail _ (.tail _ (.tail _ (.tail _ (.head _))))))) (.tail _ (.tail _ (.tail _ (.tail _ (.tail _ (.tail _ (.tail _ (.head _)))))))) (.tail _ (.tail _ (.head _))) (.tail _ (.tail _ (.tail _ (.head _)))) (.tail _ (.tail _ (.tail _ (.tail _ (.head _))))))) (by decide) (by decide) (by decide)) rfl rfl F1 N1 ?_
                        intro v5 hh5 tt5 hv5 F2 N2
                        rw [fixed_2] at hv5
                        obtain ⟨tv5, rfl⟩ := hv5
                        clear F1 N1
                        k_steps
                        trace_state))

end
end Mine
theorem PySem.Challenge.cw_nz0461_01_holds : PySem.Challenge.rw_nz0461_01.Holds := by
  exact Mine.law_holds
