import PyProof.Rows.All
import Wide.All
import OpenK.AllK
import Wide.FinOn
import Lean
import PySem.Challenge.RW_pc0229_01
open PySem PySem.W PyProof.Rows PySem.Spec PySem.Calls Builtin Builtin.ObjectAttr
set_option Elab.async false
set_option maxRecDepth 100000
set_option maxHeartbeats 8000000
set_option linter.unusedVariables false
set_option genInjectivity false
set_option genSizeOf false
set_option bootstrap.genMatcherCode false
set_option compiler.extract_closed false
set_option tactic.hygienic false
set_option hygiene false
namespace Mine
section
local macro_rules | `(tactic| o_head $_) => `(tactic| exact h _)
theorem hp0.tw4999614032917392674 : True := trivial
set_option Elab.async true in
theorem hp0 : (∀ P : Prop, P) → PySem.Challenge.rw_pc0229_01.Holds := by
  intro h
  w_on
  o_law
  k_head
end
theorem fill_all : PySem.Challenge.rw_pc0229_01 = PySem.Challenge.rw_pc0229_01 ∧ hp0.heap_1_39 = hp0.heap_1_39 := by
  k_fill
  exact ⟨rfl, rfl⟩
section
noncomputable abbrev Led := List (Addr × Obj)
theorem News.sub {h₀ h : Heap} {L : Addr} {l l' : Led} (N : News h₀ L h l) (hs : ∀ p ∈ l', p ∈ l) : News h₀ L h l' := fun p hp => N p (hs p hp)
theorem allLtId {d : Nat} {l : Led} (h : AllLt d l) : AllLt d l := h
theorem restNe {d : Nat} {l : Led} (h : AllLt d l) : ∀ p ∈ l, p.1 ≠ d := fun p hp => Nat.ne_of_lt (ktn_ltOf h p hp)
theorem allLt_up {d x : Nat} (h : d < x) : ∀ {l : Led}, AllLt d l → AllLt x l
  | [], _ => trivial
  | _ :: _, ⟨a, b⟩ => ⟨Nat.lt_trans a h, allLt_up h b⟩
theorem allLtAt {d : Nat} {l : Led} (h : ∀ p ∈ l, p.1 < d) : AllLt d l := allLt_of h
noncomputable def Tel (prog : Program) (w : World) (f : Addr) (args : List Value) (dn un' : Nat) (news : Led) (post : Value → Led → Prop) (exc : Led → Prop) : Prop :=
  ∀ (p : Program) (loose : List Str) (mean : ExcName → Option Value) (mg mb : Str → Option Value) (dp un : Nat) (gd : Option (List Code)) (cn : Str) (cs : Scope) (a : Addr) (ccd : Value) (cl : List (Str × Addr)) (outer : List Env) (A₀ : Around) (base h₀ : Heap) (L : Addr) (m : Str → Option Value) (s : Shared)
    (Q E : Value → Shared → Prop),
    Below A₀ base outer h₀ → Fr h₀ L s.heap m → (hp0.heap_1_39 w.params).In h₀ → News h₀ L s.heap news → Top p loose mean mg mb h₀ → cs.kind = .function → dp + dn < recursionLimit → un + un' < cLine →
    (∀ r news' h' tk', Fr h₀ L h' m → News h₀ L h' news' → post r news' → Q r { s with heap := h', toks := tk' }) →
    (∀ e news' g₂ h' tk', Fr h₀ L g₂ m → g₂.UpToSlots h' → RaisedSN base g₂ (envX cn cs L a ccd cl :: outer) e (.ref 301) news' h' → exc news' → E (.ref e) { s with heap := h', toks := tk' }) →
    wpAny (model prog w) (ktrTop dp un gd cn cs L a ccd cl outer) (call (.ref f) args) Q E s
theorem Tel.use {prog : Program} {w : World} {f : Addr} {args : List Value} {dn un' : Nat} {news : Led} {post : Value → Led → Prop} {exc : Led → Prop} {p : Program} {loose : List Str} {mean : ExcName → Option Value} {mg mb : Str → Option Value} {dp un : Nat} {gd : Option (List Code)} {cn : Str} {cs : Scope} {a : Addr} {ccd : Value} {cl : List (Str × Addr)} {outer : List Env} {A₀ : Around} {base h₀ : Heap} {L : Addr} {m : Str → Option Value} {s : Shared}
    {Q E : Value → Shared → Prop} (C : Tel prog w f args dn un' news post exc)
    (B : Below A₀ base outer h₀) (F : Fr h₀ L s.heap m) (X : (hp0.heap_1_39 w.params).In h₀) (N : News h₀ L s.heap news) (T : Top p loose mean mg mb h₀) (hk : cs.kind = .function) (hd : dp + dn < recursionLimit) (hu : un + un' < cLine)
    (ret : ∀ r news' h' tk', Fr h₀ L h' m → News h₀ L h' news' → post r news' → Q r { s with heap := h', toks := tk' })
    (ex : ∀ e news' g₂ h' tk', Fr h₀ L g₂ m → g₂.UpToSlots h' → RaisedSN base g₂ (envX cn cs L a ccd cl :: outer) e (.ref 301) news' h' → exc news' → E (.ref e) { s with heap := h', toks := tk' }) :
    wpAny (model prog w) (ktrTop dp un gd cn cs L a ccd cl outer) (call (.ref f) args) Q E s := C _ _ _ _ _ _ _ _ _ _ _ _ _ _ _ _ _ _ _ _ _ _ B F X N T hk hd hu ret ex
end
section
structure Fix where
  ct : Nat
  dct : Nat
  hp : Nat
  dhp : Nat
  rn : Nat
  drn : Nat
  li : Nat
  dli : Nat
  pl : Nat
  zr : Nat
  h : Nat → Int
  t : Nat → Tok
  v : Value
  res : List DictEntry
  les : List DictEntry
  po : Obj
noncomputable abbrev ctrO (f : Fix) : Obj := instObj 547 f.dct
noncomputable abbrev ctrD (f : Fix) : Obj := dictOf [⟨f.h 1, .str "heap" (f.t 1), .ref f.hp⟩, ⟨f.h 2, .str "destroy" (f.t 2), .none⟩, ⟨f.h 3, .str "places" (f.t 3), .ref f.pl⟩] 3
noncomputable abbrev heapO (f : Fix) : Obj := instObj 225 f.dhp
noncomputable abbrev heapD (f : Fix) (n : Int) (tn : Tok) : Obj := dictOf [⟨f.h 4, .str "limits" (f.t 4), f.v⟩, ⟨f.h 5, .str "last" (f.t 5), .int n tn⟩, ⟨f.h 6, .str "zero" (f.t 6), .ref f.zr⟩] 3
noncomputable abbrev runO (f : Fix) : Obj := instObj 568 f.drn
noncomputable abbrev runD (f : Fix) : Obj := dictOf f.res 20
noncomputable abbrev limO (f : Fix) : Obj := instObj 590 f.dli
noncomputable abbrev limD (f : Fix) : Obj := dictOf f.les 5
structure Fix.Ok (prog : Program) (w : World) (f : Fix) : Prop where
  places : f.po.IsDictOf (intKind prog w) []
  high : 1 < f.pl
  heap : getL "heap" f.res = some (some (.ref f.hp))
  counter : getL "counter" f.res = some (some (.ref f.ct))
  limits : getL "limits" f.res = some (some (.ref f.li))
  items : getL "items" f.les = some (some (.int 8 (f.t 7)))
noncomputable abbrev Apart (d : Nat) (l : List Nat) : Prop := ∀ x ∈ l, x ≠ d
structure TD where
  h1 : Int
  h2 : Int
  h3 : Int
  h4 : Int
  h5 : Int
  h6 : Int
  h7 : Int
  h8 : Int
  h9 : Int
  t1 : Tok
  t2 : Tok
  t3 : Tok
  t4 : Tok
  t5 : Tok
  t6 : Tok
  t7 : Tok
  t8 : Tok
  t9 : Tok
  num : Int
  tn : Tok
  cnt : Int
  tc : Tok
  wl : Value
noncomputable abbrev thD (d : TD) (k1 : Str) (v1 : Value) (k2 : Str) (v2 : Value) : Obj :=
  dictOf [⟨d.h1, .str "number" d.t1, .int d.num d.tn⟩, ⟨d.h2, .str "count" d.t2, .int d.cnt d.tc⟩, ⟨d.h3, .str "blessed" d.t3, .none⟩, ⟨d.h4, .str "weak" d.t4, d.wl⟩,
    ⟨d.h5, .str "is_destroyed" d.t5, .bool false⟩, ⟨d.h6, .str "is_freed" d.t6, .bool false⟩, ⟨d.h7, .str k1 d.t7, v1⟩, ⟨d.h8, .str k2 d.t8, v2⟩] 8
noncomputable abbrev scD (d : TD) (v : Value) : Obj := thD d "value" v "magic" .none
noncomputable abbrev arD (d : TD) (l : Nat) : Obj := thD d "items" (.ref l) "tied" .none
noncomputable abbrev haD (d : TD) (l : Nat) (i9 : Int) (t9 : Tok) : Obj :=
  dictOf [⟨d.h1, .str "number" d.t1, .int d.num d.tn⟩, ⟨d.h2, .str "count" d.t2, .int d.cnt d.tc⟩, ⟨d.h3, .str "blessed" d.t3, .none⟩, ⟨d.h4, .str "weak" d.t4, d.wl⟩,
    ⟨d.h5, .str "is_destroyed" d.t5, .bool false⟩, ⟨d.h6, .str "is_freed" d.t6, .bool false⟩, ⟨d.h7, .str "table" d.t7, .ref l⟩, ⟨d.h8, .str "at" d.t8, .int i9 t9⟩, ⟨d.h9, .str "tied" d.t9, .none⟩] 9
structure RD where
  h1 : Int
  h2 : Int
  t1 : Tok
  t2 : Tok
noncomputable abbrev refD (d : RD) (a : Nat) : Obj := dictOf [⟨d.h1, .str "target" d.t1, .ref a⟩, ⟨d.h2, .str "is_weak" d.t2, .bool false⟩] 2
section
variable {prog : Program} {w : World} {A : Around} {E : Value → Shared → Prop} {s : Shared} {h₀ : Heap} {L : Addr} {m : Str → Option Value}
theorem isDict_nil {K : Type} [DecidableEq K] {knd : KeyKind prog w K} {n : Nat} : (dictOf [] n).IsDictOf knd [] := ⟨#[], n, ⟨rfl, rfl, rfl⟩, rfl, fun xx9 h => absurd h (by simp), .nil, .nil⟩
theorem pop_places {pl : Nat} {o : Obj} {k : Int} {tk : Tok} {v : Value} {news : Led} {Q : Value → Shared → Prop} (N : News h₀ L s.heap news) (hp : (pl, o) ∈ news) (hd : o.IsDictOf (intKind prog w) []) (h1 : 1 < pl) (h : Q v { s with toks := s.toks + 1 }) :
    wpAny (model prog w) A (call (.builtin "dict.pop") [.ref pl, .int k tk, v]) Q E s :=
  have hD := kda_dict N hp hd
  call_meetsIn PySem.F.slot_dict_pop hD.typeIs PySem.F.entry_dict_pop (PySem.F.args_dict_pop_3 _ _ _) (meets_dict_pop_default (intKind prog w) pl (intKind_is prog w k tk) (beq_eq_false_iff_ne.mpr (Nat.ne_of_gt h1)) rfl v) ⟨[], hD, rfl, h⟩
theorem meth_pop {pl : Nat} {o : Obj} {pt : Sem Bool} {news : Led} {Q : Value × List Value → Shared → Prop} (N : News h₀ L s.heap news) (hp : (pl, o) ∈ news) (hd : o.IsDictOf (intKind prog w) []) (h : Q (.builtin "dict.pop", [.ref pl]) s) :
    wpAny (model prog w) A (getMethod (.ref pl) "pop" pt) Q E s := kob_method (knd := intKind prog w) PySem.F.slot_dict_pop PySem.F.type_dict_pop N hp hd h
end
noncomputable abbrev Has (l l' : Led) : Prop := ∀ p ∈ l, p ∈ l'
theorem has_cons {p : Addr × Obj} {l l' : Led} (h1 : p ∈ l') (h2 : Has l l') : Has (p :: l) l' := fun q hq => (List.mem_cons.mp hq).elim (fun e => e ▸ h1) (h2 q)
theorem has_nil {l' : Led} : Has [] l' := fun xx9 h => nomatch h
theorem News.has {h₀ h : Heap} {L : Addr} {l l' : Led} (N : News h₀ L h l) (hs : Has l' l) : News h₀ L h l' := fun p hp => N p (hs p hp)
noncomputable abbrev Above (d : Nat) (l : Led) : Prop := ∀ p ∈ l, p.1 < d
theorem above_of {d : Nat} {l : Led} (h : AllLt d l) : Above d l := ktn_ltOf h
theorem Above.ne {d : Nat} {l : Led} (h : Above d l) : ∀ p ∈ l, p.1 ≠ d := fun p hp => Nat.ne_of_lt (h p hp)
theorem Above.up {d x : Nat} {l : Led} (h : Above d l) (q : d < x) : Above x l := fun p hp => Nat.lt_trans (h p hp) q
theorem Above.all {d : Nat} {l : Led} (h : Above d l) : AllLt d l := allLt_of h
inductive Ext (p : Addr × Obj) : Led → Led → Prop
  | here {r} : Ext p (p :: r) r
  | there {q l r} : Ext p l r → Ext p (q :: l) (q :: r)
inductive Fits : Led → Led → Prop
  | last {l} : Fits l l
  | cons {p l l1 T} : Ext p l l1 → Fits T l1 → Fits (p :: T) l
theorem Ext.mem {p : Addr × Obj} {l r : Led} (h : Ext p l r) : p ∈ l ∧ ∀ q ∈ r, q ∈ l := by
  induction h with
  | here => exact ⟨.head _, fun xx9 h => .tail _ h⟩
  | there _ ih => exact ⟨.tail _ ih.1, fun q hq => (List.mem_cons.mp hq).elim (fun e => e ▸ .head _) fun h => .tail _ (ih.2 q h)⟩
theorem Fits.has {T l : Led} (h : Fits T l) : Has T l := by
  induction h with
  | last => exact fun xx9 h => h
  | cons e _ ih => exact has_cons e.mem.1 fun q hq => e.mem.2 q (ih q hq)
theorem News.fit {h₀ h : Heap} {L : Addr} {l l' : Led} (N : News h₀ L h l) (hs : Fits l' l) : News h₀ L h l' := News.has N hs.has
theorem apart_cons {x d : Nat} {l : List Nat} (h : x ≠ d) (r : Apart d l) : Apart d (x :: l) := fun y hy => (List.mem_cons.mp hy).elim (fun e => e ▸ h) (r y)
theorem apart_nil {d : Nat} : Apart d [] := fun xx9 h => nomatch h
noncomputable def Stop (P : Prop) : Prop := P
theorem stop_here {P : Prop} (h : Stop P) : P := h
theorem above_cons {d : Nat} {q : Addr × Obj} {l : Led} (h : @LT.lt Nat _ q.1 d) (r : Above d l) : Above d (q :: l) := fun p hp => (List.mem_cons.mp hp).elim (fun e => e ▸ h) (r p)
end
section
noncomputable def lawO : { o : Obj // ∀ P, (hp0.heap_1_39 P).lookup 638 = some o } := ⟨_, by intro P; k_is⟩
noncomputable def lawF : FuncData := match lawO.1.data with | .func fd => fd | _ => default
noncomputable def lawB : List Stmt := match lawF.body with | .stmts l => l | _ => []
noncomputable def forB : List Stmt := match lawB.drop 5 with | .For _ _ b _ _ :: _ => b | _ => []
noncomputable def fst (k : Nat) : Stmt := (forB.drop k).headD (.Pass ⟨0, 0, 0, 0⟩)
noncomputable def ifB : List Stmt := match fst 4 with | .If _ b _ _ => b | _ => []
noncomputable def ist (k : Nat) : Stmt := (ifB.drop k).headD (.Pass ⟨0, 0, 0, 0⟩)
noncomputable def lst (k : Nat) : Stmt := (lawB.drop k).headD (.Pass ⟨0, 0, 0, 0⟩)
theorem lawB_eq : lawB = [lst 0, lst 1, lst 2, lst 3, lst 4, lst 5, lst 6] := rfl
theorem forB_eq : forB = [fst 0, fst 1, fst 2, fst 3, fst 4, fst 5, fst 6] := rfl
theorem ifB_eq : ifB = [ist 0, ist 1, ist 2] := rfl
noncomputable def jB : List Stmt := match ist 2 with | .If _ b _ _ => b | _ => []
noncomputable def jst (k : Nat) : Stmt := (jB.drop k).headD (.Pass ⟨0, 0, 0, 0⟩)
theorem jB_eq : jB = [jst 0, jst 1, jst 2] := rfl
noncomputable def lawQ : Str := "law"
noncomputable def lawS : Scope := lawF.scope
noncomputable abbrev kA (dp un : Nat) (gd : Option (List Code)) : Around := { depth := dp, frames := some [], guards := gd, units := un }
noncomputable def Lw (prog : Program) (w : World) (st : List Stmt) (m : Str → Option Value) (news : Led) (post : (Str → Option Value) → Led → Prop) : Prop :=
  ∀ (p : Program) (loose : List Str) (mean : ExcName → Option Value) (mg mb : Str → Option Value) (dp un : Nat) (gd : Option (List Code)) (a : Addr) (ccd : Value) (h₀ : Heap) (L : Addr) (s : Shared) (Q : Flow → Shared → Prop) (E : Value → Shared → Prop),
    Below (kA dp un gd) h₀ [] h₀ → Fr h₀ L s.heap m → (hp0.heap_1_39 w.params).In h₀ → News h₀ L s.heap news → Top p loose mean mg mb h₀ → dp + 300 < recursionLimit → un + 1500 < cLine →
    (PassesOwn (model prog w) (Around.deeper (kA dp un gd) (envOf lawQ lawS L a ccd)) (envOf lawQ lawS L a ccd) E ∧ ∀ v : Value, PassesOwnAt (model prog w) ((Around.deeper (kA dp un gd) (envOf lawQ lawS L a ccd)).mark (some v)) (Around.deeper (kA dp un gd) (envOf lawQ lawS L a ccd)) (envOf lawQ lawS L a ccd) E) →
    (∀ m' news' h' tk', Fr h₀ L h' m' → News h₀ L h' news' → post m' news' → Q .next { s with heap := h', toks := tk' }) →
    wpAny (model prog w) (Around.deeper (kA dp un gd) (envOf lawQ lawS L a ccd)) (execs st (envOf lawQ lawS L a ccd)) Q E s
theorem Lw.mono {prog : Program} {w : World} {st : List Stmt} {m : Str → Option Value} {news : Led} {post post' : (Str → Option Value) → Led → Prop} (h : Lw prog w st m news post) (k : ∀ m n, post m n → post' m n) : Lw prog w st m news post' := by
  unfold Lw
  intro p loose mean mg mb dp un gd a ccd h₀ L s Q E B F X N T hd hu hp ret
  exact h p loose mean mg mb dp un gd a ccd h₀ L s Q E B F X N T hd hu hp fun m' n' h' tk' F' N' q => ret m' n' h' tk' F' N' (k _ _ q)
theorem execs_app (env : Env) (l2 : List Stmt) : ∀ l : List Stmt, execs (l ++ l2) env = (do match ← execs l env with | .next => execs l2 env | f => pure f)
  | [] => rfl
  | x :: r => by
    rw [List.cons_append, execs_cons, execs_cons, bind_assoc]
    congr 1
    funext f
    cases f <;> first | exact execs_app env l2 r | rfl
theorem Lw.app {prog : Program} {w : World} {st st2 : List Stmt} {m : Str → Option Value} {news : Led} {post post2 : (Str → Option Value) → Led → Prop} (h : Lw prog w st m news post) (k : ∀ m n, post m n → Lw prog w st2 m n post2) : Lw prog w (st ++ st2) m news post2 := by
  unfold Lw
  intro p loose mean mg mb dp un gd a ccd h₀ L s Q E B F X N T hd hu hp ret
  rw [execs_app]
  refine wpAny_bind (wpAny_mono (h p loose mean mg mb dp un gd a ccd h₀ L s (fun fl s' => fl = .next ∧ wpAny (model prog w) (Around.deeper (kA dp un gd) (envOf lawQ lawS L a ccd)) (execs st2 (envOf lawQ lawS L a ccd)) Q E s') E B F X N T hd hu hp fun m' n' h' tk' F' N' q => ⟨rfl, ?_⟩) ?_ fun xx9 xx9 e => e)
  · exact k m' n' q p loose mean mg mb dp un gd a ccd h₀ L { s with heap := h', toks := tk' } Q E B F' X N' T hd hu hp ret
  · rintro fl s' ⟨rfl, h⟩
    exact h
theorem Lw.has {prog : Program} {w : World} {st : List Stmt} {m : Str → Option Value} {news news' : Led} {post : (Str → Option Value) → Led → Prop} (h : Lw prog w st m news post) (hs : Has news news') : Lw prog w st m news' post := by
  unfold Lw
  intro p loose mean mg mb dp un gd a ccd h₀ L s Q E B F X N T hd hu hp ret
  exact h p loose mean mg mb dp un gd a ccd h₀ L s Q E B F X (News.has N hs) T hd hu hp ret
end
section
noncomputable abbrev excO (d : Option Addr) (t : Addr) : Obj := { cls := .ref 301, dict := d, data := .fields #[.ref t, .none, .none, .none, .bool false, .none] }
section
variable {prog : Program} {w : World} {A : Around} {E : Value → Shared → Prop} {s : Shared} {h₀ : Heap} {L : Addr} {m : Str → Option Value}
noncomputable abbrev dieMro : List Value := [.ref 281, .type "Exception", .type "BaseException", .type "object"]
theorem die_cls (P : Params) : (hp0.heap_1_39 P).lookup 301 = some (excClassObj "Die" "Die" 301 300 [.ref 281] [.ref 281, .type "Exception", .type "BaseException", .type "object"] true [] [] false none none (some (.ref 285)) none (some (.str "Die" 562)) (some (.str "Die" 570)) (some (.bool true)) "Exception.__new__") := by
  k_is
theorem die_new {rest : List Value} {R : Result → Shared → Prop} {h : Heap} {g : Array GenState} {d : Drawn} {t : Nat} {os : OsState} (X : (hp0.heap_1_39 w.params).In h)
    (hq : R (.ok (.ret (.ref (h.objs.size + 1)))) ⟨(h.push { cls := .type "tuple", data := .seq rest.toArray }).push (excO none h.objs.size), g, d, t, os⟩) (hrest : rest.length ≤ sizeLine) :
    codeAny (model prog w) A (.builtin "Exception.__new__" ⟨.ref 301 :: rest, []⟩) R ⟨h, g, d, t, os⟩ := by
  have F := PySem.F.excBase_Exception
  have hends := F.ends
  have hC := X _ _ (die_cls w.params)
  have hcB : (Value.ref 301 :: [.ref 281, .type "Exception", .type "BaseException", .type "object"]).contains (.type "Exception") = true := by decide
  have hcA : (Value.ref 301 :: [.ref 281, .type "Exception", .type "BaseException", .type "object"]).contains (.type "AttributeError") = false := by decide
  have hcN : (Value.ref 301 :: [.ref 281, .type "Exception", .type "BaseException", .type "object"]).contains (.type "NameError") = false := by decide
  refine codeAny_builtinAt F.entry ?_
  unfold Builtin.«BaseException.__new__»
  refine PySem.wpAt_bind ?_
  show PySem.wpAt _ _ _ (stack >>= _) _ _ _
  refine PySem.wpAt_bind (PySem.wpAt_stack fun p below => PySem.wpAt_of_wpAny ?_)
  wp_walk
  refine PySem.wpAt_of_wpAny ?_
  rw [F.owner]
  repeat (first | with_reducible refine wpAny_madeHere_exc F.canon hC ?_ | with_reducible refine wpAny_loadPart_at hC ?_ | (with_reducible refine wpAny_isSubtype_exc hC ?_; first | rw [hcB] | rw [hcA] | rw [hcN]) | wp_step)
  show R _ _
  rw [Heap.size_push]
  exact hq
theorem die_call {rest : List Value} {R : Result → Shared → Prop} {h : Heap} {g : Array GenState} {d : Drawn} {t : Nat} {os : OsState} (X : (hp0.heap_1_39 w.params).In h)
    (hq : codeAny (model prog w) (A.under (.builtin "type.__call__" ⟨.ref 301 :: rest, []⟩)) (.call (.ref 298) ⟨.ref (h.objs.size + 1) :: rest, []⟩) (InitBack (h.objs.size + 1) R)
      ⟨(h.push { cls := .type "tuple", data := .seq rest.toArray }).push (excO none h.objs.size), g, d, t, os⟩)
    (hrest : rest.length ≤ sizeLine) :
    codeAny (model prog w) A (.call (.ref 301) ⟨rest, []⟩) R ⟨h, g, d, t, os⟩ := by
  have F := PySem.F.excBase_Exception
  have hC := X _ _ (die_cls w.params)
  have f1 := tc_lookup
  have f2 := tc_bind (.ref 301)
  have hT : (⟨h, g, d, t, os⟩ : Shared).TypeIs (.ref 301) "type" := ⟨_, hC, rfl⟩
  refine codeAny_of_tree ?_
  show wpAny _ _ (callAny (.ref 301) _) _ _ _
  repeat (any_goals (first | assumption | with_reducible refine wpAny_loadPart_at hC ?_ | wp_step))
  refine ⟨rfl, ?_⟩
  refine codeAny_call_builtin_at (Code.quiet_builtin _ (by decide +kernel)) entry_typeCall (wpAny_check_type_call_sub hC ?_)
  have hkind := F.newKind
  have hsplit := F.newSplit
  have hrow := F.newRow
  have hstar := F.noStar
  repeat (first | with_reducible refine wpAny_loadPart_at hC ?_ | with_reducible refine wpAny_madeBy_exc hC ?_ | wp_step)
  have hcB : (Value.ref 301 :: [.ref 281, .type "Exception", .type "BaseException", .type "object"]).contains (.type "Exception") = true := by decide
  refine codeAny_call_builtin_code (Code.quiet_builtin _ F.quiet) ?_
  simp only [checkBuiltinCall, hkind, hsplit, hrow]
  repeat (first | refine wpAny_loadPart_at hC ?_ | (refine wpAny_isSubtype_exc hC ?_; rw [hcB]) | refine wpAny_staticBase_exc hC ?_ | refine wpAny_madeBy_exc hC ?_ | simp only [bne_self_eq_false, Bool.false_eq_true, if_false] | wp_step)
  refine die_new X ?_ hrest
  show wpAny _ _ _ _ _ ⟨(h.push { cls := .type "tuple", data := .seq rest.toArray }).push (excO none h.objs.size), g, d, t, os⟩
  have X₁ : (hp0.heap_1_39 w.params).In ((h.push { cls := .type "tuple", data := .seq rest.toArray }).push (excO none h.objs.size)) := fun a o e => Heap.get?_push_of_some _ (Heap.get?_push_of_some _ (X a o e))
  have hC₁ := X₁ _ _ (die_cls w.params)
  have hget : ((h.push { cls := .type "tuple", data := .seq rest.toArray }).push (excO none h.objs.size)).get? (h.objs.size + 1) = some (excO none h.objs.size) := by heap_get
  have hcC : (Value.ref 301 :: [.ref 281, .type "Exception", .type "BaseException", .type "object"]).contains (.ref 301) = true := by decide
  have L1 : Looks (model prog w) _ (typeLookup (.ref 301) "__init__") (some (.ref 298)) := looks_findIn X₁ (by k_is)
  have b1 := bind_fn (M := model prog w) X₁ (f := 298) (.ref (h.objs.size + 1)) (by k_is)
  unfold isInstance callSpecial? specialOf
  repeat (first | with_reducible refine wpAny_call ?_ | with_reducible refine wpAny_loadPart_at hget ?_ | (with_reducible refine wpAny_isSubtype_exc hC₁ ?_; rw [hcC]) | lk)
  refine codeAny_mono hq fun r s' z => ?_
  rcases r with e | (v | _ | _ | _) <;> first | exact z | exact z.elim | skip
  obtain ⟨rfl, z⟩ := z
  exact wpAny_pure (wpAny_pure z)
theorem die_K {rest : List Value} {R : Result → Shared → Prop} {news : Led} (F : Fr h₀ L s.heap m) (X : (hp0.heap_1_39 w.params).In h₀) (N : News h₀ L s.heap news)
    (hq : ∀ e t h', Fr h₀ L h' m → News h₀ L h' ((e, excO none t) :: (t, ({ cls := .type "tuple", data := .seq rest.toArray } : Obj)) :: news) → (∀ p ∈ news, p.1 < t) → t < e →
      codeAny (model prog w) (A.under (.builtin "type.__call__" ⟨.ref 301 :: rest, []⟩)) (.call (.ref 298) ⟨.ref e :: rest, []⟩) (InitBack e R) { s with heap := h' })
    (hrest : rest.length ≤ sizeLine) :
    codeAny (model prog w) A (.call (.ref 301) ⟨rest, []⟩) R s := by
  obtain ⟨hh, g, d, t, os⟩ := s
  refine die_call (X.keeps F.keep) (hq _ hh.objs.size _ ((F.push _).push _) ?_ (fun p hp => Heap.lt_size (N p hp).1) (Nat.lt_succ_self _)) hrest
  have := (N.push F ({ cls := .type "tuple", data := .seq rest.toArray } : Obj)).push (F.push _) (excO none hh.objs.size)
  rwa [Heap.size_push] at this
theorem exc_init {e : Nat} {t : Nat} {v : Value} {d : Option Addr} {rest : Led} {Q : Value → Shared → Prop} (F : Fr h₀ L s.heap m) (X : (hp0.heap_1_39 w.params).In h₀) (N : News h₀ L s.heap ((e, excO d t) :: rest))
    (hr : ∀ p ∈ rest, p.1 ≠ e) (hq : ∀ t2 h', Fr h₀ L h' m → News h₀ L h' ((e, excO d t2) :: (t2, ({ cls := .type "tuple", data := .seq #[v] } : Obj)) :: rest) → (∀ p ∈ rest, p.1 < t2) → e < t2 → Q .none { s with heap := h' }) :
    wpAny (model prog w) A (call (.builtin "Exception.__init__") [.ref e, v]) Q E s := by
  have G := PySem.F.excBase_Exception
  obtain ⟨hh, g, dr, tk, os⟩ := s
  have X' := X.keeps F.keep
  have hC := X' _ _ (die_cls w.params)
  have he := (N (e, excO d t) (.head _)).1
  dsimp only at F N X' hC he
  refine wpAny_call (codeAny_call_builtin G.init.plain G.initEntry ?_)
  have hcB : (Value.ref 301 :: [.ref 281, .type "Exception", .type "BaseException", .type "object"]).contains (.type "Exception") = true := by decide
  have hshort := G.noStar
  simp only [checkBuiltinCall, G.initKind, G.initSplit, G.initRow]
  repeat (first | with_reducible refine wpAny_loadPart_at he ?_ | with_reducible refine wpAny_loadPart_at hC ?_ | (with_reducible refine wpAny_isSubtype_exc hC ?_; rw [hcB]) | wp_step)
  have hne : hh.objs.size ≠ e := Nat.ne_of_gt (Heap.lt_size he)
  have U : (hh.push { cls := Value.type "tuple", data := Data.seq #[v] }).get? e = some (excO d t) := Heap.get?_push_of_some _ he
  have S := Heap.SameBut.update (hh.push { cls := Value.type "tuple", data := Data.seq #[v] }) e (Obj.mapFields fun x => x.setIfInBounds 0 (Value.ref hh.objs.size))
  have F1 := F.push ({ cls := Value.type "tuple", data := Data.seq #[v] } : Obj)
  have N1 := N.push F ({ cls := Value.type "tuple", data := Data.seq #[v] } : Obj)
  obtain ⟨F2, N2⟩ := news_upd (pre := [(hh.objs.size, ({ cls := Value.type "tuple", data := Data.seq #[v] } : Obj))]) (o' := excO d hh.objs.size) (f := Obj.mapFields fun x => x.setIfInBounds 0 (Value.ref hh.objs.size)) F1 N1
    (fun p hp => by rw [List.mem_singleton.mp hp]; exact hne) hr rfl rfl
  exact hq hh.objs.size _ F2 (fun p hp => N2 p (by
    rcases List.mem_cons.mp hp with rfl | hp
    · exact .tail _ (.head _)
    · rcases List.mem_cons.mp hp with rfl | hp
      · exact .head _
      · exact .tail _ (.tail _ hp))) (fun p hp => Heap.lt_size (N p (.tail _ hp)).1) (Heap.lt_size he)
end
end
section
section
variable {prog : Program} {w : World} {A : Around} {E : Value → Shared → Prop} {s : Shared} {h₀ : Heap} {L : Addr} {m : Str → Option Value}
theorem osa_die {x : Addr} {ox : Obj} {od : Option Obj} {name : Str} {tk : Tok} {v : Value} {R : Result → Shared → Prop} (X : (hp0.heap_1_39 w.params).In s.heap) (I : InstAt s.heap x ox 301 od) (ht : findIn (hp0.heap_1_39 w.params) (.ref 301) name = some none)
    (h : ∀ b, wpAny (model prog w) A.in1 (storeInOwnDict (.ref x) (.ref 301) (.str name tk) name v b)
      (fun fin s' => match fin with | .done f => R (.ok f) s' | .again c' => c'.quiet = true ∧ codeAny (model prog w) A c' R s') (fun e s' => R (.error e) s') s) :
    codeAny (model prog w) A (.call (.builtin "object.__setattr__") ⟨[.ref x, .str name tk, v], []⟩) R s := by
  have SF := PySem.F.store_object
  have SE := PySem.F.store_Exception
  have hC := X _ _ (die_cls w.params)
  have sub : Looks (model prog w) s.heap (isInstance (.ref x) (.type "object")) true := I.type.andThen (looks_mroIn X (by k_is))
  refine codeAny_call_builtin SF.slot.plain SF.entry (@check_slot (model prog w) _ _ s "object.__setattr__" "object" "__setattr__" (.ref x) [.str name tk, v] [] _ SF.kind SF.split sub (SF.args (.ref x) (.str name tk) v) ?_)
  have hm : Looks (model prog w) s.heap (mroOf (.ref 301)) [.ref 301, .ref 281, .type "Exception", .type "BaseException", .type "object"] := (looks_clsIn X (by k_is)).andThen .now
  have L3 : Looks (model prog w) s.heap (storeTaker? none) none := .now
  rw [osa_eq, refuse_eq]
  refine wpAny_bind (wpAny_bind (I.type.here (wpAny_bind (hm.here ?_))))
  rw [refuseLoop_ref, refuseLoop_ref, SE.passes]
  refine wpAny_pure (wpAny_bind (I.type.here (wpAny_bind ((looks_findIn X ht).here (wpAny_bind (L3.here ?_))))))
  exact h _
theorem exc_set0 {e t : Nat} {name : Str} {v : Value} {rest : Led} {Q : Unit → Shared → Prop} (F : Fr h₀ L s.heap m) (X₀ : (hp0.heap_1_39 w.params).In h₀) (N : News h₀ L s.heap ((e, excO none t) :: rest))
    (hr : ∀ p ∈ rest, p.1 ≠ e) (ht : findIn (hp0.heap_1_39 w.params) (.ref 301) name = some none)
    (hq : ∀ D h' tk, Fr h₀ L h' m → News h₀ L h' ((e, excO (some D) t) :: (D, dictOf [⟨PyData.keyHash w.params name, .str name (s.toks + 1), v⟩] 1) :: rest) → (∀ p ∈ rest, p.1 < D) → e < D → Q () { s with heap := h', toks := tk }) :
    wpAny (model prog w) A (setAttr (.ref e) name v) Q E s := by
  have X := X₀.keeps F.keep
  have he := (N (e, excO none t) (.head _)).1
  have I : InstAt s.heap e (excO none t) 301 none := ⟨he, rfl, rfl, trivial⟩
  refine set_plain X I (by k_is) (osa_die (s := { s with toks := s.toks + 1 }) X I ht fun b => ?_)
  obtain ⟨hh, g, dr, tk, os⟩ := s
  dsimp only at F N X he
  have hC := X _ _ (die_cls w.params)
  unfold storeInOwnDict
  refine wpAny_bind (wpAny_pure (wpAny_bind ?_))
  have hne : hh.objs.size ≠ e := Nat.ne_of_gt (Heap.lt_size he)
  have he1 : (hh.push emptyDict).get? e = some (excO none t) := Heap.get?_push_of_some _ he
  have F1 := F.push emptyDict
  have N1 := N.push F emptyDict
  obtain ⟨F2, N2⟩ := news_upd (pre := [(hh.objs.size, emptyDict)]) (o' := excO (some hh.objs.size) t) (f := fun o => { o with dict := some hh.objs.size }) F1 N1
    (fun p hp => by rw [List.mem_singleton.mp hp]; exact hne) hr rfl rfl
  have hD := (N2 (hh.objs.size, emptyDict) (.head _)).1
  obtain ⟨F3, N3⟩ := news_upd (pre := []) (o' := dictOf [⟨PyData.keyHash w.params name, .str name (tk + 1), v⟩] 1) (f := Obj.putName name (PyData.keyHash w.params name) (.str name (tk + 1)) v) F2 N2
    (fun p hp => nomatch hp) (fun p hp => by
      rcases List.mem_cons.mp hp with rfl | hp
      · exact hne.symm
      · exact Nat.ne_of_lt (Heap.lt_size (N p (.tail _ hp)).1)) rfl rfl
  have hD' := (N3 (hh.objs.size, _) (.head _)).1
  repeat (first | with_reducible refine wpAny_loadPart_at he ?_ | with_reducible refine wpAny_loadPart_at hC ?_ | wp_step)
  refine wpAny_askSetting (wpAny_pure (wpAny_bind (wpAny_mkText (wpAny_bind (wpAny_loadPart hD ?_)))))
  dsimp only
  rw [aRefKeyMayBeTheName_at, show (!(#[] : Array DictEntry).any (fun e => e.key.isStr name) && (#[] : Array DictEntry).any (fun e => e.refKey)) = false from by simp]
  refine wpAny_updatePart hD ?_
  refine wpAny_bind (wpAny_lookBehind hD' (pastItsLine_dict (by rw [List.size_toArray, sizeLine_eq, List.length_cons, List.length_nil]; omega)) ?_)
  refine wpAny_pure (hq hh.objs.size _ _ F3 (fun p hp => N3 p ?_) (fun p hp => Heap.lt_size (N p (.tail _ hp)).1) (Heap.lt_size he))
  rcases List.mem_cons.mp hp with rfl | hp
  · exact .tail _ (.head _)
  · rcases List.mem_cons.mp hp with rfl | hp
    · exact .head _
    · exact .tail _ (.tail _ hp)
set_option tactic.hygienic true in
theorem exc_set1 {e t D : Nat} {name : Str} {v : Value} {rest : Led} {es es' : List DictEntry} {n n' : Nat} {Q : Unit → Shared → Prop} (F : Fr h₀ L s.heap m) (X₀ : (hp0.heap_1_39 w.params).In h₀) (N : News h₀ L s.heap ((e, excO (some D) t) :: (D, dictOf es n) :: rest))
    (hr : ∀ p ∈ rest, p.1 ≠ D) (hD : e ≠ D) (ht : findIn (hp0.heap_1_39 w.params) (.ref 301) name = some none) (hl : (getL name es).isSome = true) (hz : es'.length ≤ 1000)
    (he' : (putL name (PyData.keyHash w.params name) (.str name (s.toks + 1)) v es, putN name es n) = (es', n'))
    (hq : ∀ h' tk, Fr h₀ L h' m → News h₀ L h' ((e, excO (some D) t) :: (D, dictOf es' n') :: rest) → Q () { s with heap := h', toks := tk }) :
    wpAny (model prog w) A (setAttr (.ref e) name v) Q E s := by
  have X := X₀.keeps F.keep
  have he := (N (e, excO (some D) t) (.head _)).1
  have hDD := (N (D, dictOf es n) (.tail _ (.head _))).1
  have I : InstAt s.heap e (excO (some D) t) 301 (some (dictOf es n)) := ⟨he, rfl, rfl, hDD⟩
  refine set_plain X I (by k_is) (osa_die (s := { s with toks := s.toks + 1 }) X I ht fun b => ?_)
  obtain ⟨hh, g, dr, tk, os⟩ := s
  dsimp only at F N X he hDD he'
  have hC := X _ _ (die_cls w.params)
  obtain ⟨e1, e2⟩ := Prod.mk.inj he'
  obtain ⟨F3, N3⟩ := news_upd (pre := [(e, excO (some D) t)]) (o' := dictOf es' n') (f := Obj.putName name (PyData.keyHash w.params name) (.str name (tk + 1)) v) F N
    (fun p hp => by rw [List.mem_singleton.mp hp]; exact hD) hr (by rw [putName_dict, e1, e2]) rfl
  have hD' := (N3 (D, _) (.tail _ (.head _))).1
  unfold storeInOwnDict
  refine wpAny_bind (wpAny_pure (wpAny_bind ?_))
  repeat (first | with_reducible refine wpAny_loadPart_at he ?_ | with_reducible refine wpAny_loadPart_at hC ?_ | wp_step)
  refine wpAny_askSetting (wpAny_pure (wpAny_bind (wpAny_mkText (wpAny_bind (wpAny_loadPart hDD ?_)))))
  dsimp only
  have c : (!es.toArray.any (·.key.isStr name) && es.toArray.any (·.refKey)) = false := by
    unfold getL at hl
    rw [← Array.any_toList, ← Array.any_toList]
    split at hl
    · rename_i en he
      rw [List.any_eq_true.mpr ⟨en, List.mem_of_find?_eq_some he, List.find?_some he⟩]; rfl
    · split at hl
      · cases hl
      · rename_i z; rw [Bool.not_eq_true] at z; rw [z, Bool.and_false]
  rw [aRefKeyMayBeTheName_at, c]
  refine wpAny_updatePart hDD ?_
  refine wpAny_bind (wpAny_lookBehind hD' (pastItsLine_dict (by rw [List.size_toArray, sizeLine_eq]; omega)) ?_)
  exact wpAny_pure (hq _ _ F3 N3)
end
end
section
section
variable {prog : Program} {w : World} {A : Around} {E : Value → Shared → Prop} {s : Shared} {h₀ : Heap} {L : Addr} {m : Str → Option Value}
noncomputable def DieOut (P : Params) (E : Value → Shared → Prop) (v : Value) (s₁ : Shared) : Prop :=
  ∃ e d t, v = .ref e ∧ (hp0.heap_1_39 P).In s₁.heap ∧ s₁.heap.get? e = some (excO d t) ∧ E (.ref e) s₁
theorem raise_die {x : PySem.Expr} {env : Env} {pos : Pos} {Q : Flow → Shared → Prop} (hh : A.handled = none)
    (h : wpAny (model prog w) A (eval x env) (DieOut w.params E) E s) : wpAny (model prog w) A (exec (.Raise (some x) none pos) env) Q E s := by
  have key : ∀ (y : Sem Value), wpAny (model prog w) A y (DieOut w.params E) E s → wpAny (model prog w) A (raiseStmt env (some y) none) Q E s := by
    intro y hy
    have hcB : (Value.ref 301 :: [.ref 281, .type "Exception", .type "BaseException", .type "object"]).contains (.type "BaseException") = true := by decide
    unfold raiseStmt
    refine wpAny_bind (wpAny_mono hy (fun v s₁ h₁ => ?_) fun xx9 xx9 x => x)
    obtain ⟨e, d, t, rfl, X, he, hE⟩ := h₁
    have hC := X _ _ (die_cls w.params)
    obtain ⟨hp, g, dr, tk, os⟩ := s₁
    repeat (first | with_reducible refine wpAny_loadPart_at he ?_ | with_reducible refine wpAny_loadPart_at hC ?_ | (with_reducible refine wpAny_isSubtype_exc hC ?_; rw [hcB]) | wp_step)
    exact wpAny_raiseNew_none hh hE
  rw [arm_exec_Raise]
  first
    | exact wpAny_bind (wpAny_standAt (key _ (wpAny_bind (wpAny_mono h (fun v s₁ h₁ => wpAny_bind (wpAny_standAt (wpAny_pure h₁))) fun xx9 xx9 x => x))))
    | (simp only [evalOpt, Option.map]; exact wpAny_bind (wpAny_standAt (key _ (wpAny_bind (wpAny_mono h (fun v s₁ h₁ => wpAny_bind (wpAny_standAt (wpAny_pure h₁))) fun xx9 xx9 x => x)))))
theorem leave_die {M : Model} {base g : Heap} {outer : List Env} {a e t : Nat} {d : Option Addr} {name : Str} {scope : Scope} {cd : Value} {Q : Unit → Shared → Prop} {news : Led} {s' : Shared}
    (K : Below A base outer g) (F : Fr g L s'.heap m) (N : News g L s'.heap ((e, excO d t) :: news)) (hne : ∀ q ∈ news, q.1 ≠ e)
    (hQ : ∀ h', RaisedSN base g outer e (.ref 301) news h' → RaisedN base outer e (.ref 301) news h' → g.UpToSlots h' → Q () { s' with heap := h' }) (hk : scope.kind = .function) :
    wpAny M (A.deeper (envOf name scope L a cd)) (leaving (envOf name scope L a cd) (.ref e)) Q E s' := by
  have K' := K.push (name := name) (a := a) (cd := cd) F hk
  have hin : ∀ env ∈ (envOf name scope L a cd :: outer), ∀ b, env.frame = some b → b ∈ e :: (envOf name scope L a cd :: outer).filterMap (·.frame) := fun env he b hb => List.mem_cons_of_mem _ (List.mem_filterMap.mpr ⟨env, he, hb⟩)
  have he := N (e, excO d t) (.head _)
  have st : base.StaysIn (hideAll s'.heap (e :: (envOf name scope L a cd :: outer).filterMap (·.frame))) := fun b o q => hideAll_get _ (K'.stays b o q) fun hm => by
    rcases List.mem_cons.mp hm with rfl | hm
    · have := fresh_of_stays K.stays he.2.2
      rw [this] at q; cases q
    · rw [(K'.frames.mem hm).1] at q; cases q
  have sg : ∀ b o, g.get? b = some o → b ∉ outer.filterMap (·.frame) → (hideAll s'.heap (e :: (envOf name scope L a cd :: outer).filterMap (·.frame))).get? b = some o := fun b o q nm => hideAll_get _ (F.keep b o q) fun hm => by
    rcases List.mem_cons.mp hm with z | hm
    · rw [z, he.2.2] at q; cases q
    · rcases kts_mem hm with z | z
      · rw [z, kts_self F] at q
        cases q
      · exact nm z
  have hl : ∀ q ∈ news, (hideAll s'.heap (e :: (envOf name scope L a cd :: outer).filterMap (·.frame))).get? q.1 = some q.2 ∧ g.get? q.1 = none ∧ base.get? q.1 = none := fun q hq => by
    have Nq := N q (.tail _ hq)
    refine ⟨hideAll_get _ Nq.1 fun hm => ?_, Nq.2.2, fresh_of_stays K.stays Nq.2.2⟩
    rcases List.mem_cons.mp hm with z | hm
    · exact hne q hq z
    · obtain ⟨env, he, hf⟩ := List.mem_filterMap.mp hm
      rcases List.mem_cons.mp he with rfl | he
      · exact Nq.2.1 (Option.some.inj hf).symm
      · obtain ⟨o, ho, _⟩ := (K.frames.mem (List.mem_filterMap.mpr ⟨env, he, hf⟩)).2
        rw [Nq.2.2] at ho; cases ho
  have hen : (hideAll s'.heap (e :: (envOf name scope L a cd :: outer).filterMap (·.frame))).get? e = none := hideAll_none _ (.head _)
  refine wpAny_leaving_firstW (a0 := .ref t) K'.stack (funFrames_hide K'.frames hin) rfl he.1 (fun b o hb => of_hideAll _ hb) hen rfl rfl rfl fun h' hL => ?_
  obtain ⟨k1, ⟨_, _, k2⟩, k3, k4⟩ := hL
  have R : RaisedSN base g outer e (.ref 301) news h' := ⟨_, .ref t, st, sg, hl, k1, hen, k2, k3⟩
  exact hQ h' R R.toN ((Heap.UpToSlots.of_keeps F.keep).trans k4)
theorem caught_die0 {A₀ : Around} {p : Program} {loose : List Str} {mg mb : Str → Option Value} {h₀ h : Heap} {outer : List Env} {a e : Addr} {name : Str} {scope : Scope} {cd : Value} {b₀ : Stmt} {suite : List Stmt} {pos np : Pos} {rest : List ExceptHandler} {Q : Flow → Shared → Prop} {news : Led} {s' : Shared}
    (K : Below A₀ h₀ outer h₀) (F : Fr h₀ L h m) (hsm : h.UpToSlots s'.heap) (R : RaisedN h₀ (envOf name scope L a cd :: outer) e (.ref 301) news s'.heap)
    (X : (hp0.heap_1_39 w.params).In h₀) (T : TopRead p loose mg mb h₀)
    (k : ∀ h', Fr h₀ L h' m → News h₀ L h' news →
      wpAny (model prog w) ((A₀.deeper (envOf name scope L a cd)).mark (some (.ref e))) (execs (b₀ :: suite) (envOf name scope L a cd)) Q E { s' with heap := h' })
    (hk : scope.kind = .function) (hx : (envOf name scope L a cd).kindOf "Die" = some .globalImplicit)
    (hE : PassesOwnAt (model prog w) ((A₀.deeper (envOf name scope L a cd)).mark (some (.ref e))) (A₀.deeper (envOf name scope L a cd)) (envOf name scope L a cd) E) :
    wpAny (model prog w) (A₀.deeper (envOf name scope L a cd)) (noteFrame (.ref e) (envOf name scope L a cd))
      (fun xx9 s₂ => wpAny (model prog w) (A₀.deeper (envOf name scope L a cd)) (setFlight (.ref e) none) (fun xx9 s₃ =>
        wpAny (model prog w) (A₀.deeper (envOf name scope L a cd)) (handleBy (.ref e) (envOf name scope L a cd) (.ExceptHandler (some (.Name "Die" np)) none (b₀ :: suite) pos :: rest)) Q E s₃) E s₂) E s' := by
  obtain ⟨B, a0, hB, hl, hfl⟩ := R
  have hL : B.get? L = none := by
    obtain ⟨_, ⟨L', _, hf, hn', _⟩, _⟩ := hfl.2.2.1
    obtain rfl : L = L' := Option.some.inj hf
    exact hn'
  refine wpAny_looks_onW (Around.frames_deeper K.stack) rfl hfl fun h₄ hheld₄ hsm₄ => ?_
  refine wpAny_landsW hheld₄ fun h₅ hheld hsm₅' => ?_
  have hsm₅ := hsm₄.trans hsm₅'
  have hheld' := flyingW_base hB hheld
  have F₅ := F.of_stays hheld'.1 (hsm.trans hsm₅)
  obtain ⟨ob, hob, hobc⟩ := hheld'.there
  have hC := F₅.keep _ _ (X _ _ (die_cls w.params))
  refine wpAny_handleBy_cons (codeAny_handlers_test (name_K F₅ X T (by k_is) ?_ hk hx (by decide))) (by intro q; cases q)
  refine wpAny_excMatches_sub_self hC hob hobc (by decide) (codeAny_handlers_suite ?_)
  refine lands_againW hheld fun h₆ hfl₆ hsm₆ => ?_
  have F₆ := F.of_stays (flyingW_base hB hfl₆).1 ((hsm.trans hsm₅).trans hsm₆)
  exact wpAny_passesOwnAt hE (k h₆ F₆ fun q hq => ⟨hfl₆.1 _ _ (hl q hq).1, (fun z => by have := (hl q hq).1; rw [z, hL] at this; cases this), (hl q hq).2⟩)
theorem caught_dieS {A₀ : Around} {p : Program} {loose : List Str} {mean : ExcName → Option Value} {mg mb : Str → Option Value} {base g g₀ G : Heap} {outer : List Env} {a e : Addr} {name : Str} {scope : Scope} {cd : Value} {b₀ : Stmt} {suite : List Stmt} {pos np : Pos} {rest : List ExceptHandler} {Q : Flow → Shared → Prop} {news : Led} {s' : Shared}
    (R : RaisedSN base G (envOf name scope L a cd :: outer) e (.ref 301) news s'.heap) (F : Fr g L G m) (K : Below A₀ base outer g) (hsm : G.UpToSlots s'.heap) (XB : (hp0.heap_1_39 w.params).In base) (TB : Top p loose mean mg mb base)
    (D : KtsDicts (outer.filterMap (·.frame)) g) (T0 : KtsTurn (outer.filterMap (·.frame)) g₀ g)
    (k : ∀ h' g', KtsTurn (outer.filterMap (·.frame)) g₀ g' → Fr g' L h' m → News g' L h' news → Below A₀ base outer g' → (hp0.heap_1_39 w.params).In g' → Top p loose mean mg mb g' → KtsDicts (outer.filterMap (·.frame)) g' →
      wpAny (model prog w) ((A₀.deeper (envOf name scope L a cd)).mark (some (.ref e))) (execs (b₀ :: suite) (envOf name scope L a cd)) Q E { s' with heap := h' })
    (hk : scope.kind = .function) (hx : (envOf name scope L a cd).kindOf "Die" = some .globalImplicit)
    (hE : PassesOwnAt (model prog w) ((A₀.deeper (envOf name scope L a cd)).mark (some (.ref e))) (A₀.deeper (envOf name scope L a cd)) (envOf name scope L a cd) E) :
    wpAny (model prog w) (A₀.deeper (envOf name scope L a cd)) (noteFrame (.ref e) (envOf name scope L a cd))
      (fun xx9 s₂ => wpAny (model prog w) (A₀.deeper (envOf name scope L a cd)) (setFlight (.ref e) none) (fun xx9 s₃ =>
        wpAny (model prog w) (A₀.deeper (envOf name scope L a cd)) (handleBy (.ref e) (envOf name scope L a cd) (.ExceptHandler (some (.Name "Die" np)) none (b₀ :: suite) pos :: rest)) Q E s₃) E s₂) E s' := by
  obtain ⟨B, a0, hB, hBG, hl, hfl⟩ := R
  have hL : B.get? L = none := by
    obtain ⟨_, ⟨L', _, hf, hn', _⟩, _⟩ := hfl.2.2.1
    obtain rfl : L = L' := Option.some.inj hf
    exact hn'
  refine wpAny_looks_onW (Around.frames_deeper K.stack) rfl hfl fun h₄ hheld₄ hsm₄ => ?_
  refine wpAny_landsW hheld₄ fun h₅ hheld hsm₅' => ?_
  have hsm₅ := hsm₄.trans hsm₅'
  obtain ⟨g₅, T₅, F₅, K₅⟩ := kts_ground K F hBG hheld.1 (hsm.trans hsm₅)
  have X₅ := XB.keeps K₅.stays
  have P₅ : TopRead p loose mg mb g₅ := topRead_of (TB.keeps K₅.stays)
  obtain ⟨ob, hob, hobc⟩ := hheld.there
  have hC := F₅.keep _ _ (X₅ _ _ (die_cls w.params))
  refine wpAny_handleBy_cons (codeAny_handlers_test (name_K F₅ X₅ P₅ (by k_is) ?_ hk hx (by decide))) (by intro q; cases q)
  refine wpAny_excMatches_sub_self hC hob hobc (by decide) (codeAny_handlers_suite ?_)
  refine lands_againW hheld fun h₆ hfl₆ hsm₆ => ?_
  obtain ⟨g₆, T₆, F₆, K₆⟩ := kts_ground K F hBG hfl₆.1 ((hsm.trans hsm₅).trans hsm₆)
  have Nl : News g₆ L h₆ news := fun q hq => ⟨hfl₆.1 _ _ (hl q hq).1, (fun z => by have := (hl q hq).1; rw [z, hL] at this; cases this), T₆.none_ _ (kts_none F.keep (hl q hq).2.1)⟩
  have X₆ := XB.keeps K₆.stays
  have P₆ : Top p loose mean mg mb g₆ := TB.keeps K₆.stays
  have D₆ : KtsDicts (outer.filterMap (·.frame)) g₆ := D.turn T₆
  exact wpAny_passesOwnAt hE (k h₆ g₆ (T0.trans T₆) F₆ Nl K₆ X₆ P₆ D₆)
end
theorem meta_Exception : typeOf (.type "Exception") = pure (.type "type") := by kernel_rfl
theorem dieOut_of {P : Params} {E : Value → Shared → Prop} {s : Shared} {h₀ : Heap} {L : Addr} {m : Str → Option Value} {e t : Nat} {d : Option Addr} {news : Led} (F : Fr h₀ L s.heap m) (X : (hp0.heap_1_39 P).In h₀) (N : News h₀ L s.heap news) (hm : (e, excO d t) ∈ news)
    (h : E (.ref e) s) : DieOut P E (.ref e) s := ⟨e, d, t, rfl, X.keeps F.keep, (N _ hm).1, h⟩
theorem RaisedN.sub {base : Heap} {l : List Env} {e : Addr} {cls : Value} {news news' : Led} {h : Heap} (R : RaisedN base l e cls news h) (hs : ∀ p ∈ news', p ∈ news) : RaisedN base l e cls news' h :=
  let ⟨B, a0, h1, h2, h3⟩ := R; ⟨B, a0, h1, fun q hq => h2 q (hs q hq), h3⟩
theorem RaisedSN.sub {base G : Heap} {l : List Env} {e : Addr} {cls : Value} {news news' : Led} {h : Heap} (R : RaisedSN base G l e cls news h) (hs : ∀ p ∈ news', p ∈ news) : RaisedSN base G l e cls news' h :=
  let ⟨B, a0, h1, h2, h3, h4⟩ := R; ⟨B, a0, h1, h2, fun q hq => h3 q (hs q hq), h4⟩
end
section
structure Fn where
  q : Str
  sc : Scope
  fa : Addr
  cd : Value
  cl : List (Str × Addr)
  fix : Option Addr
  tr : Option (Scope × List (Str × Addr) × Addr)
  /-- the law's own frame: it raises nothing itself -/
  top : Bool
noncomputable abbrev Fn.env0 (φ : Fn) (L : Addr) : Env := envX φ.q φ.sc L φ.fa φ.cd φ.cl
noncomputable abbrev Fn.env (φ : Fn) (L : Addr) : Env := match φ.tr with | none => φ.env0 L | some (sc, cl, C) => compEnvC sc cl C (φ.env0 L)
noncomputable abbrev Fn.at (φ : Fn) (L : Addr) (outer : List Env) (base h₀ : Heap) : Prop := (∀ a, φ.fix = some a → L = a) ∧ (φ.top = true → outer = [] ∧ base = h₀)
structure Fn.ok (φ : Fn) : Prop where
  tr : φ.tr = none
  fn : φ.sc.kind = .function
theorem Fn.ok.e {φ : Fn} (h : φ.ok) (L : Addr) : φ.env L = φ.env0 L := by unfold Fn.env; rw [h.tr]
theorem Fn.ok.k {φ : Fn} (h : φ.ok) {x : Str} {r : Option NameKind} (L : Addr) (hk : (φ.env 0).kindOf x = r) : (φ.env0 L).kindOf x = r := by rw [h.e] at hk; exact hk
noncomputable def RaisesTo (h₀ : Heap) (L : Addr) (gn : Array GenState) (dr : Drawn) (os : OsState) (Z : Led → Prop) (E' : Value → Shared → Prop) : Prop :=
  ∀ e d t m' G' h' tk', Fr h₀ L h' m' → News h₀ L h' ((e, excO d t) :: G') → (∀ q ∈ G', q.1 ≠ e) → Z G' → E' (.ref e) { heap := h', gens := gn, drawn := dr, toks := tk', os := os }
noncomputable def Wt (prog : Program) (w : World) (φ : Fn) (dn un' : Nat) {α : Type} (t : Env → Sem α) (m : Str → Option Value) (G : Led) (Q : α → (Str → Option Value) → Led → Prop) (Z : Led → Prop) : Prop :=
  ∀ (p : Program) (loose : List Str) (mean : ExcName → Option Value) (mg mb : Str → Option Value) (dp un : Nat) (gd : Option (List Code)) (outer : List Env) (A₀ : Around) (base h₀ : Heap) (L : Addr) (s : Shared) (Q' : α → Shared → Prop) (E' : Value → Shared → Prop),
    Below A₀ base outer h₀ → Fr h₀ L s.heap m → (hp0.heap_1_39 w.params).In h₀ → News h₀ L s.heap G → Top p loose mean mg mb h₀ → dp + dn < recursionLimit → (un + un' < cLine ∧ PassesOwn (model prog w) (ktrTop dp un gd φ.q φ.sc L φ.fa φ.cd φ.cl outer) (φ.env L) E' ∧ (φ.top = true ∨ RaisesTo h₀ L s.gens s.drawn s.os Z E') ∧ φ.at L outer base h₀) →
    (∀ v m' G' h' tk', Fr h₀ L h' m' → News h₀ L h' G' → Q v m' G' → Q' v { s with heap := h', toks := tk' }) →
    (∀ e m' G' g₂ h' tk', Fr h₀ L g₂ m' → g₂.UpToSlots h' → RaisedSN base g₂ (φ.env0 L :: outer) e (.ref 301) G' h' → Z G' → E' (.ref e) { s with heap := h', toks := tk' }) →
    wpAny (model prog w) (ktrTop dp un gd φ.q φ.sc L φ.fa φ.cd φ.cl outer) (t (φ.env L)) Q' E' s
section
variable {prog : Program} {w : World} {φ : Fn} {dn un' : Nat} {α β : Type} {m : Str → Option Value} {G : Led} {Q : α → (Str → Option Value) → Led → Prop} {Z : Led → Prop}
theorem Wt.lift {t : Env → Sem α} {t1 : Env → Sem β} {k : β → Env → Sem α} (rule : ∀ {A : Around} {L : Addr} {s : Shared} {Q' : α → Shared → Prop} {E' : Value → Shared → Prop}, wpAny (model prog w) A (t1 (φ.env L)) (fun v s1 => wpAny (model prog w) A (k v (φ.env L)) Q' E' s1) E' s → wpAny (model prog w) A (t (φ.env L)) Q' E' s)
    (h : Wt prog w φ dn un' t1 m G (fun v m' G' => Wt prog w φ dn un' (k v) m' G' Q Z) Z) : Wt prog w φ dn un' t m G Q Z := by
  intro p loose mean mg mb dp un gd outer A₀ base h₀ L s Q' E' B F X N T hd hu ret exc
  exact rule (h p loose mean mg mb dp un gd outer A₀ base h₀ L s _ E' B F X N T hd hu (fun v m' G' h' tk' F' N' q => q p loose mean mg mb dp un gd outer A₀ base h₀ L { s with heap := h', toks := tk' } Q' E' B F' X N' T hd hu ret exc) exc)
theorem Wt.led {t : Env → Sem α} {G0 : Led} (h : Wt prog w φ dn un' t m G0 Q Z) (hs : Has G0 G) : Wt prog w φ dn un' t m G Q Z := by
  intro p loose mean mg mb dp un gd outer A₀ base h₀ L s Q' E' B F X N T hd hu ret exc
  exact h p loose mean mg mb dp un gd outer A₀ base h₀ L s Q' E' B F X (News.has N hs) T hd hu ret exc
theorem Wt.mono {t : Env → Sem α} {Q2 : α → (Str → Option Value) → Led → Prop} {Z2 : Led → Prop} (h : Wt prog w φ dn un' t m G Q2 Z2) (k : ∀ v m' G', Q2 v m' G' → Q v m' G') (z : ∀ G', Z2 G' → Z G') : Wt prog w φ dn un' t m G Q Z := by
  intro p loose mean mg mb dp un gd outer A₀ base h₀ L s Q' E' B F X N T hd hu ret exc
  exact h p loose mean mg mb dp un gd outer A₀ base h₀ L s Q' E' B F X N T hd ⟨hu.1, hu.2.1, hu.2.2.1.imp id fun R e d t m' G' h' tk' F' N' hne q => R e d t m' G' h' tk' F' N' hne (z _ q), hu.2.2.2⟩ (fun v m' G' h' tk' F' N' q => ret v m' G' h' tk' F' N' (k _ _ _ q)) fun e m' G' g₂ h' tk' F' U R q => exc e m' G' g₂ h' tk' F' U R (z _ q)
theorem Wt.tel {f : Addr} {args : List Value} {dn1 un1 : Nat} {G0 : Led} {post : Value → Led → Prop} {exc : Led → Prop} {Q : Value → (Str → Option Value) → Led → Prop} (C : Tel prog w f args dn1 un1 G0 post exc) (hs : Has G0 G) (hk : φ.sc.kind = .function) (h1 : dn1 ≤ dn) (h2 : un1 ≤ un')
    (k : ∀ r G', post r G' → Q r m G') (z : ∀ G', exc G' → Z G') : Wt prog w φ dn un' (fun xx9 => call (.ref f) args) m G Q Z := by
  intro p loose mean mg mb dp un gd outer A₀ base h₀ L s Q' E' B F X N T hd hu ret exc
  exact C.use B F X (News.has N hs) T hk (Nat.lt_of_le_of_lt (Nat.add_le_add_left h1 dp) hd) (Nat.lt_of_le_of_lt (Nat.add_le_add_left h2 un) hu.1) (fun r n' h' tk' F' N' q => ret r m n' h' tk' F' N' (k _ _ q)) fun e n' g₂ h' tk' F' U R q => exc e m n' g₂ h' tk' F' U R (z _ q)
end
theorem Tel.ofW {prog : Program} {w : World} {f : Addr} {args : List Value} {dn un' : Nat} {news : Led} {post : Value → Led → Prop} {exc : Led → Prop} {name qual : Str} {params : Arguments} {body : List Stmt} {scope : Scope} {dV kV doc pm cdv ct oc : Value} {an od : Option Addr} {osl : Array (Option Value)} {binds : List (Str × Value)}
    (ho : (hp0.heap_1_39 w.params).lookup f = some ⟨oc, od, .func (fnOf name qual params body scope dV kV doc pm an cdv ct), osl⟩) (hcd : codeIn (hp0.heap_1_39 w.params) cdv qual = true)
    (hbind : ∀ s, (hp0.heap_1_39 w.params).In s.heap → BindsTo s (fnOf name qual params body scope dV kV doc pm an cdv ct) ⟨args, []⟩ binds) (hloc : ∀ y ∈ binds, scope.names.lookup y.1 = some .local)
    (hco : scope.isCoroutine = false) (hgen : scope.isGenerator = false) (hk : scope.kind = .function) (hcell : ∀ x ∈ scope.names, x.2 ≠ .cell)
    (h : Wt prog w ⟨qual, scope, f, cdv, [], Option.none, Option.none, false⟩ dn un' (execs body) (fun y => binds.reverse.lookup y) news (fun fl xx9 G' => post (match fl with | .ret v => v | _ => .none) G') exc) :
    Tel prog w f args (dn + 1) (un' + 3) news post exc := by
  intro p loose mean mg mb dp un gd cn cs a ccd cl outer A₀ base h₀ L m s Q E B F X N T hk2 hd hu ret exc
  refine wpAny_call (code_def B F X N T rfl rfl hk2 ho hcd (by dsimp only [ktrTop]; omega) (hbind s (X.keeps F.keep)) hloc (fun g L' h₁ FG F' N' B' X' T' => ?_) hco hgen hk hcell)
  refine h p loose mean mg mb (dp + 1) (un + 3) gd (envX cn cs L a ccd cl :: outer) _ base g L' { s with heap := h₁, toks := s.toks + binds.length } _ _ B' F' X' N' T' (by omega) ⟨by omega, by passes_own, .inr fun e d t m' G' h' tk' F2 N2 hne q => leave_die B' F2 N2 hne (fun h'' R2 xx9 U2 => exc _ _ _ _ _ FG U2 R2 q) hk, ⟨(fun xx9 h => nomatch h), fun h => nomatch h⟩⟩ ?_ ?_
  · intro fl m' G' h' tk' F2 N2 q
    exact leaveK_ F2 N2 fun F3 N3 => ret _ _ _ _ F3 N3 q
  · intro e m' G' g₂ h' tk' F2 U R q
    exact leave_onSN B' F2 R U fun h'' R2 xx9 U2 => exc _ _ _ _ _ FG U2 R2 q
end
section
noncomputable def upd (m : Str → Option Value) (x : Str) (v : Value) : Str → Option Value := fun y => if y = x then some v else m y
theorem upd_same {m : Str → Option Value} {x : Str} {v : Value} : upd m x v x = some v := if_pos rfl
theorem upd_ne {m : Str → Option Value} {x y : Str} {v u : Value} (h : y ≠ x) (k : m y = some u) : upd m x v y = some u := (if_neg h).trans k
section
variable {prog : Program} {w : World} {φ : Fn} {dn un' : Nat} {α : Type} {m : Str → Option Value} {G : Led} {Z : Led → Prop}
theorem Wt.val {t : Env → Sem α} {Q : α → (Str → Option Value) → Led → Prop} {v : α} (h : Q v m G) (rule : ∀ {A : Around} {L : Addr} {s : Shared} {Q' : α → Shared → Prop} {E' : Value → Shared → Prop}, Q' v s → wpAny (model prog w) A (t (φ.env L)) Q' E' s) : Wt prog w φ dn un' t m G Q Z := by
  intro p loose mean mg mb dp un gd outer A₀ base h₀ L s Q' E' B F X N T hd hu ret exc
  exact rule (ret v m G s.heap s.toks F N h)
theorem Wt.valt {t : Env → Sem α} {Q : α → (Str → Option Value) → Led → Prop} {f : Tok → α} (h : ∀ tk, Q (f tk) m G) (rule : ∀ {A : Around} {L : Addr} {s : Shared} {Q' : α → Shared → Prop} {E' : Value → Shared → Prop}, Q' (f s.toks) { s with toks := s.toks + 1 } → wpAny (model prog w) A (t (φ.env L)) Q' E' s) : Wt prog w φ dn un' t m G Q Z := by
  intro p loose mean mg mb dp un gd outer A₀ base h₀ L s Q' E' B F X N T hd hu ret exc
  exact rule (ret _ m G s.heap (s.toks + 1) F N (h _))
namespace R
variable {Q : Value → (Str → Option Value) → Led → Prop} {QF : Flow → (Str → Option Value) → Led → Prop} {QB : Bool → (Str → Option Value) → Led → Prop}
noncomputable abbrev We (prog : Program) (w : World) (φ : Fn) (dn un' : Nat) (e : PySem.Expr) := Wt prog w φ dn un' (eval e)
noncomputable abbrev Ws (prog : Program) (w : World) (φ : Fn) (dn un' : Nat) (l : List Stmt) := Wt prog w φ dn un' (execs l)
noncomputable abbrev Wc (prog : Program) (w : World) (φ : Fn) (dn un' : Nat) (e : PySem.Expr) := Wt prog w φ dn un' (fun env => isTrue e env (eval e env))
noncomputable abbrev Wv (prog : Program) (w : World) (φ : Fn) (dn un' : Nat) {α : Type} (t : Sem α) := Wt prog w φ dn un' (fun xx9 => t)
theorem int {i : Int} {k : Nat} {pos : Pos} (h : ∀ tk, Q (.int i tk) m G) : We prog w φ dn un' (.Constant (.int i) k pos) m G Q Z := Wt.valt h fun h => wpAny_Constant_int h
theorem str {x : Str} {k : Nat} {pos : Pos} (h : ∀ tk, Q (.str x tk) m G) : We prog w φ dn un' (.Constant (.str x) k pos) m G Q Z := Wt.valt h fun h => wpAny_Constant_str h
theorem none {k : Nat} {pos : Pos} (h : Q .none m G) : We prog w φ dn un' (.Constant .none k pos) m G Q Z := Wt.val h fun h => wpAny_Constant_none h
theorem bool {b : Bool} {k : Nat} {pos : Pos} (h : Q (.bool b) m G) : We prog w φ dn un' (.Constant (.bool b) k pos) m G Q Z := Wt.val h fun h => wpAny_Constant_bool h
theorem name {x : Str} {pos : Pos} {v : Value} (hv : m x = some v) (hk : (φ.env 0).kindOf x = some .local) (hs : φ.ok) (hd : (x == ("__debug__" : Str)) = false) (h : Q v m G) : We prog w φ dn un' (.Name x pos) m G Q Z := by
  intro p loose mean mg mb dp un gd outer A₀ base h₀ L s Q' E' B F X N T hd hu ret exc
  rw [hs.e]
  exact nameX_L (cl := φ.cl) F hv (ret v m G s.heap s.toks F N h) hs.fn (hs.k L hk) (by assumption)
theorem nameK {x : Str} {pos : Pos} {v : Value} (e : nsIn (hp0.heap_1_39 w.params) mainGlobals x = some (some v)) (hk : (φ.env 0).kindOf x = some .globalImplicit) (hs : φ.ok) (hd : (x == ("__debug__" : Str)) = false) (h : Q v m G) : We prog w φ dn un' (.Name x pos) m G Q Z := by
  intro p loose mean mg mb dp un gd outer A₀ base h₀ L s Q' E' B F X N T hd2 hu ret exc
  rw [hs.e]
  exact nameX_K (cl := φ.cl) F X (topRead_of T) e (ret v m G s.heap s.toks F N h) hs.fn (hs.k L hk) hd
theorem nameB {x : Str} {pos : Pos} {v : Value} (e : nsIn (hp0.heap_1_39 w.params) mainGlobals x = some Option.none) (hv : bootBuiltins x = some v) (hn : x ≠ "__name__") (hk : (φ.env 0).kindOf x = some .globalImplicit) (hs : φ.ok) (hd : (x == ("__debug__" : Str)) = false) (h : Q v m G) : We prog w φ dn un' (.Name x pos) m G Q Z := by
  intro p loose mean mg mb dp un gd outer A₀ base h₀ L s Q' E' B F X N T hd2 hu ret exc
  rw [hs.e]
  exact nameX_B (cl := φ.cl) F X (topRead_of T) e hv hn (ret v m G s.heap s.toks F N h) hs.fn (hs.k L hk) hd
theorem attr {e : PySem.Expr} {a : Str} {pos : Pos} (h : We prog w φ dn un' e m G (fun o m' G' => Wv prog w φ dn un' (getAttr o a true) m' G' Q Z) Z) (he : ∀ L, eval (.Attribute e a pos) (φ.env L) = (do let o ← eval e (φ.env L); standAt pos.atName; let r ← holding [o] (getAttr o a true); letTemporaryGo e o r; pure r)) : We prog w φ dn un' (.Attribute e a pos) m G Q Z := Wt.lift (k := fun o xx9 => getAttr o a true) (fun h => Attribute_any_ h (he _)) h
theorem binop {l r : PySem.Expr} {op : Operator} {pos : Pos} (h : We prog w φ dn un' l m G (fun a m1 G1 => We prog w φ dn un' r m1 G1 (fun b m2 G2 => Wv prog w φ dn un' (binaryOp op a b) m2 G2 Q Z) Z) Z) : We prog w φ dn un' (.BinOp l op r pos) m G Q Z := by
  intro p loose mean mg mb dp un gd outer A₀ base h₀ L s Q' E' B F X N T hd hu ret exc
  exact wpAny_BinOp (h p loose mean mg mb dp un gd outer A₀ base h₀ L s _ E' B F X N T hd hu (fun a m1 G1 h1 t1 F1 N1 q => q p loose mean mg mb dp un gd outer A₀ base h₀ L { s with heap := h1, toks := t1 } _ E' B F1 X N1 T hd hu (fun b m2 G2 h2 t2 F2 N2 q => q p loose mean mg mb dp un gd outer A₀ base h₀ L { s with heap := h2, toks := t2 } Q' E' B F2 X N2 T hd hu ret exc) exc) exc)
theorem nil (h : QF .next m G) : Ws prog w φ dn un' [] m G QF Z := Wt.val h fun h => wpAny_execs_nil h
theorem cons {st : Stmt} {rest : List Stmt} (h : Wt prog w φ dn un' (exec st) m G (fun f m' G' => match f with | .next => Ws prog w φ dn un' rest m' G' QF Z | f => QF f m' G') Z) : Ws prog w φ dn un' (st :: rest) m G QF Z := by
  intro p loose mean mg mb dp un gd outer A₀ base h₀ L s Q' E' B F X N T hd hu ret exc
  refine wpAny_execs_cons (h p loose mean mg mb dp un gd outer A₀ base h₀ L s _ E' B F X N T hd hu (fun f m1 G1 h1 t1 F1 N1 q => ?_) exc)
  cases f with
  | next => exact q p loose mean mg mb dp un gd outer A₀ base h₀ L { s with heap := h1, toks := t1 } Q' E' B F1 X N1 T hd hu ret exc
  | _ => exact ret _ m1 G1 h1 t1 F1 N1 q
theorem ret {e : PySem.Expr} {pos : Pos} {rest : List Stmt} (h : We prog w φ dn un' e m G (fun v m' G' => QF (.ret v) m' G') Z) : Ws prog w φ dn un' (.Return (some e) pos :: rest) m G QF Z := cons (by
  intro p loose mean mg mb dp un gd outer A₀ base h₀ L s Q' E' B F X N T hd hu ret exc
  exact wpAny_Return_some (h p loose mean mg mb dp un gd outer A₀ base h₀ L s _ E' B F X N T hd hu (fun v m1 G1 h1 t1 F1 N1 q => ret _ m1 G1 h1 t1 F1 N1 q) exc))
theorem retn {pos : Pos} {rest : List Stmt} (h : QF (.ret .none) m G) : Ws prog w φ dn un' (.Return Option.none pos :: rest) m G QF Z := cons (Wt.val h fun h => wpAny_Return_none h)
theorem expr {e : PySem.Expr} {pos : Pos} {rest : List Stmt} (h : We prog w φ dn un' e m G (fun v m' G' => (∀ a, v ≠ .ref a) ∧ Ws prog w φ dn un' rest m' G' QF Z) Z) (hi : ∀ L, interactive (φ.env L) = false) (hs : ∀ L, swapsWith e Option.none pos.line (φ.env L) = pure false) : Ws prog w φ dn un' (.Expr e pos :: rest) m G QF Z := cons (by
  intro p loose mean mg mb dp un gd outer A₀ base h₀ L s Q' E' B F X N T hd hu ret exc
  refine wpAny_Expr (h p loose mean mg mb dp un gd outer A₀ base h₀ L s _ E' B F X N T hd hu (fun v m1 G1 h1 t1 F1 N1 q => ?_) exc) (hi L) (hs L)
  have := ret .next m1 G1 h1 t1 F1 N1 q.2
  cases v with
  | ref a => exact absurd rfl (q.1 a)
  | _ => exact this)
theorem assign {x : Str} {px pos : Pos} {e : PySem.Expr} {rest : List Stmt} (h : We prog w φ dn un' e m G (fun v m' G' => Ws prog w φ dn un' rest (upd m' x v) G' QF Z) Z) (hk : (φ.env 0).kindOf x = some .local) (hs : φ.ok) (hw : ∀ L, swapsWith e (some (.Name x px)) pos.line (φ.env L) = pure false) : Ws prog w φ dn un' (.Assign [.Name x px] e pos :: rest) m G QF Z := cons (by
  intro p loose mean mg mb dp un gd outer A₀ base h₀ L s Q' E' B F X N T hd hu ret exc
  refine wpAny_Assign_Name (h p loose mean mg mb dp un gd outer A₀ base h₀ L s _ E' B F X N T hd hu (fun v m1 G1 h1 t1 F1 N1 q => ?_) exc) (hw L)
  rw [hs.e]
  exact storeX_L (cl := φ.cl) F1 N1 (fun h' F' N' => ret .next (upd m1 x v) G1 h' _ F' N' q) hs.fn (hs.k L hk))
theorem assignAttr {o e : PySem.Expr} {a : Str} {pa pos : Pos} {rest : List Stmt} (h : We prog w φ dn un' e m G (fun v m1 G1 => We prog w φ dn un' o m1 G1 (fun ov m2 G2 => Wv prog w φ dn un' (setAttr ov a v) m2 G2 (fun xx9 m3 G3 => Ws prog w φ dn un' rest m3 G3 QF Z) Z) Z) Z) (hw : ∀ L, swapsWith e (some (.Attribute o a pa)) pos.line (φ.env L) = pure false) : Ws prog w φ dn un' (.Assign [.Attribute o a pa] e pos :: rest) m G QF Z := cons (by
  intro p loose mean mg mb dp un gd outer A₀ base h₀ L s Q' E' B F X N T hd hu ret exc
  refine plainObj_wpAny_Assign_Attribute (h p loose mean mg mb dp un gd outer A₀ base h₀ L s _ E' B F X N T hd hu (fun v m1 G1 h1 t1 F1 N1 q => ?_) exc) (hw L)
  refine q p loose mean mg mb dp un gd outer A₀ base h₀ L _ _ E' B F1 X N1 T hd hu (fun ov m2 G2 h2 t2 F2 N2 q => ?_) exc
  exact q p loose mean mg mb dp un gd outer A₀ base h₀ L _ _ E' B F2 X N2 T hd hu (fun xx9 m3 G3 h3 t3 F3 N3 q => ret .next m3 G3 h3 t3 F3 N3 q) exc)
theorem ite {t : PySem.Expr} {b1 b2 : List Stmt} {pos : Pos} {rest : List Stmt} (h : Wc prog w φ dn un' t m G (fun b m' G' => Ws prog w φ dn un' (if b then b1 else b2) m' G' (fun f m' G' => match f with | .next => Ws prog w φ dn un' rest m' G' QF Z | f => QF f m' G') Z) Z) : Ws prog w φ dn un' (.If t b1 b2 pos :: rest) m G QF Z := cons (by
  intro p loose mean mg mb dp un gd outer A₀ base h₀ L s Q' E' B F X N T hd hu ret exc
  refine wpAny_If (h p loose mean mg mb dp un gd outer A₀ base h₀ L s _ E' B F X N T hd hu (fun b m1 G1 h1 t1 F1 N1 q => ?_) exc)
  have := q p loose mean mg mb dp un gd outer A₀ base h₀ L { s with heap := h1, toks := t1 } Q' E' B F1 X N1 T hd hu ret exc
  cases b <;> exact this)
theorem not {x : PySem.Expr} {pos : Pos} (h : Wc prog w φ dn un' x m G (fun b m' G' => QB (!b) m' G') Z) : Wc prog w φ dn un' (.UnaryOp .Not x pos) m G QB Z := by
  intro p loose mean mg mb dp un gd outer A₀ base h₀ L s Q' E' B F X N T hd hu ret exc
  exact isTrue_not (h p loose mean mg mb dp un gd outer A₀ base h₀ L s _ E' B F X N T hd hu (fun b m1 G1 h1 t1 F1 N1 q => ret _ m1 G1 h1 t1 F1 N1 q) exc)
theorem cmp {l r : PySem.Expr} {op : CmpOp} {pos : Pos} (h : We prog w φ dn un' l m G (fun a m1 G1 => We prog w φ dn un' r m1 G1 (fun b m2 G2 => Wv prog w φ dn un' (compareOp op a b) m2 G2 (fun c m3 G3 => ∃ z, c = .bool z ∧ QB z m3 G3) Z) Z) Z) (hm : behindInMarks op r = false) : Wc prog w φ dn un' (.Compare l [op] [r] pos) m G QB Z := by
  intro p loose mean mg mb dp un gd outer A₀ base h₀ L s Q' E' B F X N T hd hu ret exc
  refine wpAny_isTrue_Compare1 (h p loose mean mg mb dp un gd outer A₀ base h₀ L s _ E' B F X N T hd hu (fun a m1 G1 h1 t1 F1 N1 q => ?_) exc) hm
  refine q p loose mean mg mb dp un gd outer A₀ base h₀ L _ _ E' B F1 X N1 T hd hu (fun b m2 G2 h2 t2 F2 N2 q => ?_) exc
  refine q p loose mean mg mb dp un gd outer A₀ base h₀ L _ _ E' B F2 X N2 T hd hu (fun c m3 G3 h3 t3 F3 N3 q => ?_) exc
  obtain ⟨z, rfl, q⟩ := q
  exact wpAny_truthy_bool (ret z m3 G3 h3 t3 F3 N3 q)
theorem cond {e : PySem.Expr} (h : We prog w φ dn un' e m G (fun c m3 G3 => ∃ z, c = .bool z ∧ QB z m3 G3) Z) (he : ∀ L, isTrue e (φ.env L) (eval e (φ.env L)) = (do let v ← eval e (φ.env L); standAt e.pos; holding [v] (truthy v))) : Wc prog w φ dn un' e m G QB Z := by
  intro p loose mean mg mb dp un gd outer A₀ base h₀ L s Q' E' B F X N T hd hu ret exc
  refine wpAny_isTrue_value (h p loose mean mg mb dp un gd outer A₀ base h₀ L s _ E' B F X N T hd hu (fun c m3 G3 h3 t3 F3 N3 q => ?_) exc) (he L)
  obtain ⟨z, rfl, q⟩ := q
  exact wpAny_truthy_bool (ret z m3 G3 h3 t3 F3 N3 q)
end R
end
end
section
section
variable {prog : Program} {w : World} {A : Around} {E : Value → Shared → Prop} {s : Shared} {h₀ : Heap} {L : Addr} {m : Str → Option Value}
theorem isi_obj {c D x dx : Nat} {od : Obj} {news : Led} {Q : Value → Shared → Prop} (hc : c = 66 ∨ c = 85 ∨ c = 104 ∨ c = 162) (hD : D = 66 ∨ D = 85 ∨ D = 104 ∨ D = 123 ∨ D = 142 ∨ D = 162)
    (F : Fr h₀ L s.heap m) (X₀ : (hp0.heap_1_39 w.params).In h₀) (N : News h₀ L s.heap news) (h1 : (x, instObj c dx) ∈ news) (h2 : (dx, od) ∈ news) (h : ∀ tk, Q (.bool (c == D)) { s with toks := tk }) :
    wpAny (model prog w) A (call (.builtin "isinstance") [.ref x, .ref D]) Q E s := by
  have X := X₀.keeps F.keep
  have I := InstAt.of_news N h1 h2
  rcases hc with rfl | rfl | rfl | rfl <;> rcases hD with rfl | rfl | rfl | rfl | rfl | rfl
  all_goals first
    | (refine' kia_one (kitx_own ?k4 ?k5 ?k6 ?k7 ?k8 ?k9) X I ?ee (by intro e; cases e) h; (case ee => kit_is); (case k4 => k_is); (case k5 => k_is); (case k6 => k_is); (case k7 => k_is); (case k8 => k_is); (case k9 => k_is))
theorem isi_objB {c D x dx : Nat} {od : Obj} {news : Led} {Q : Value → Shared → Prop} (b : Bool) (F : Fr h₀ L s.heap m) (X₀ : (hp0.heap_1_39 w.params).In h₀) (N : News h₀ L s.heap news) (h1 : (x, instObj c dx) ∈ news) (h2 : (dx, od) ∈ news)
    (hc : c = 66 ∨ c = 85 ∨ c = 104 ∨ c = 162) (hD : D = 66 ∨ D = 85 ∨ D = 104 ∨ D = 123 ∨ D = 142 ∨ D = 162) (hb : (c == D) = b) (h : ∀ tk, Q (.bool b) { s with toks := tk }) :
    wpAny (model prog w) A (call (.builtin "isinstance") [.ref x, .ref D]) Q E s := isi_obj hc hD F X₀ N h1 h2 (by rw [hb]; exact h)
theorem isi_none {D : Nat} {Q : Value → Shared → Prop} (hD : D = 66 ∨ D = 162) (F : Fr h₀ L s.heap m) (X₀ : (hp0.heap_1_39 w.params).In h₀) (h : ∀ tk, Q (.bool false) { s with toks := tk }) :
    wpAny (model prog w) A (call (.builtin "isinstance") [.none, .ref D]) Q E s := by
  rcases hD with rfl | rfl <;> exact isn_call (P := fun xx9 => True) (X₀.keeps F.keep) (fun M => Looks.of_pure rfl) (by k_not) (by intro e; cases e) trivial none_cls (h _)
theorem isi_int {D : Nat} {i : Int} {t : Tok} {Q : Value → Shared → Prop} (hD : D = 66 ∨ D = 162) (F : Fr h₀ L s.heap m) (X₀ : (hp0.heap_1_39 w.params).In h₀) (h : ∀ tk, Q (.bool false) { s with toks := tk }) :
    wpAny (model prog w) A (call (.builtin "isinstance") [.int i t, .ref D]) Q E s := by
  rcases hD with rfl | rfl <;> exact isn_call (P := fun xx9 => True) (X₀.keeps F.keep) (fun M => Looks.of_pure rfl) (by k_not) (by intro e; cases e) trivial int_cls (h _)
theorem isi_str {D : Nat} {x : Str} {t : Tok} {Q : Value → Shared → Prop} (hD : D = 66 ∨ D = 162) (F : Fr h₀ L s.heap m) (X₀ : (hp0.heap_1_39 w.params).In h₀) (h : ∀ tk, Q (.bool false) { s with toks := tk }) :
    wpAny (model prog w) A (call (.builtin "isinstance") [.str x t, .ref D]) Q E s := by
  rcases hD with rfl | rfl <;> exact isn_call (P := fun xx9 => True) (X₀.keeps F.keep) (fun M => Looks.of_pure rfl) (by k_not) (by intro e; cases e) trivial str_cls (h _)
end
end
section
structure TG where
  h1 : Int
  h2 : Int
  t1 : Tok
  t2 : Tok
  num : Int
  tn : Tok
noncomputable abbrev thG (g : TG) (cnt : Int) (tc : Tok) (tl : List DictEntry) (k : Nat) : Obj :=
  dictOf (⟨g.h1, .str "number" g.t1, .int g.num g.tn⟩ :: ⟨g.h2, .str "count" g.t2, .int cnt tc⟩ :: tl) k
noncomputable def Plain (v : Value) : Prop := v = .none ∨ (∃ i t, v = .int i t) ∨ ∃ x t, v = .str x t
theorem Plain.handed {v : Value} (h : Plain v) : handedIn v = true := by
  rcases h with rfl | ⟨_, _, rfl⟩ | ⟨_, _, rfl⟩ <;> rfl
section
variable {prog : Program} {w : World} {A : Around} {E : Value → Shared → Prop} {s : Shared} {h₀ : Heap} {L : Addr} {m : Str → Option Value}
theorem isi_plain {v : Value} {Q : Value → Shared → Prop} (hv : Plain v) (F : Fr h₀ L s.heap m) (X₀ : (hp0.heap_1_39 w.params).In h₀) (h : ∀ tk, Q (.bool false) { s with toks := tk }) :
    wpAny (model prog w) A (call (.builtin "isinstance") [v, .ref 162]) Q E s := by
  rcases hv with rfl | ⟨_, _, rfl⟩ | ⟨_, _, rfl⟩
  · exact isi_none (by decide) F X₀ h
  · exact isi_int (by decide) F X₀ h
  · exact isi_str (by decide) F X₀ h
theorem get_count {c x dx : Nat} {g : TG} {cnt : Int} {tc : Tok} {tl : List DictEntry} {k : Nat} {news : Led} {expr : Bool} {Q : Value → Shared → Prop} (F : Fr h₀ L s.heap m) (X₀ : (hp0.heap_1_39 w.params).In h₀) (N : News h₀ L s.heap news)
    (h1 : (x, instObj c dx) ∈ news) (h2 : (dx, thG g cnt tc tl k) ∈ news) (hc : c = 66 ∨ c = 85 ∨ c = 104) (h : Q (.int cnt tc) { s with toks := s.toks + 1 }) :
    wpAny (model prog w) A (getAttr (.ref x) "count" expr) Q E s := by
  have I := InstAt.of_news N h1 h2
  rcases hc with rfl | rfl | rfl <;> (refine' get_own F X₀ I ?k4 ?k5 ?k6 ?k7 rfl rfl h; (case k4 => k_is); (case k5 => k_is); (case k6 => k_is); (case k7 => k_is))
theorem get_number {c x dx : Nat} {g : TG} {cnt : Int} {tc : Tok} {tl : List DictEntry} {k : Nat} {news : Led} {expr : Bool} {Q : Value → Shared → Prop} (F : Fr h₀ L s.heap m) (X₀ : (hp0.heap_1_39 w.params).In h₀) (N : News h₀ L s.heap news)
    (h1 : (x, instObj c dx) ∈ news) (h2 : (dx, thG g cnt tc tl k) ∈ news) (hc : c = 66 ∨ c = 85 ∨ c = 104) (h : Q (.int g.num g.tn) { s with toks := s.toks + 1 }) :
    wpAny (model prog w) A (getAttr (.ref x) "number" expr) Q E s := by
  have I := InstAt.of_news N h1 h2
  rcases hc with rfl | rfl | rfl <;> (refine' get_own F X₀ I ?k4 ?k5 ?k6 ?k7 rfl rfl h; (case k4 => k_is); (case k5 => k_is); (case k6 => k_is); (case k7 => k_is))
theorem set_count {c x dx : Nat} {g : TG} {cnt cnt' : Int} {tc tc' : Tok} {tl : List DictEntry} {k : Nat} {news news' : Led} {Q : Unit → Shared → Prop} (F : Fr h₀ L s.heap m) (X₀ : (hp0.heap_1_39 w.params).In h₀) (N : News h₀ L s.heap news)
    (h1 : (x, instObj c dx) ∈ news) (h2 : (dx, thG g cnt tc tl k) ∈ news) (hc : c = 66 ∨ c = 85 ∨ c = 104) (htl : tl.length ≤ 900) (U : Upd dx (thG g cnt tc tl k) (thG g cnt' tc' tl k) news news')
    (h : ∀ h', Fr h₀ L h' m → News h₀ L h' news' → Q () { s with heap := h', toks := s.toks + 2 }) :
    wpAny (model prog w) A (setAttr (.ref x) "count" (.int cnt' tc')) Q E s := by
  have I := InstAt.of_news N h1 h2
  have hz : (⟨g.h1, .str "number" g.t1, .int g.num g.tn⟩ :: ⟨g.h2, .str "count" g.t2, .int cnt' tc'⟩ :: tl : List DictEntry).length ≤ 1000 := by simp only [List.length_cons]; omega
  rcases hc with rfl | rfl | rfl <;> (refine' set_dict F X₀ N I rfl ?k6 ?k7 ?k8 ?k9 rfl rfl U hz h; (case k6 => k_is); (case k7 => k_is); (case k8 => k_is); (case k9 => k_is))
end
end
section
noncomputable def GA (w : World) (C : Addr) (a : Str) : Prop := plainGet (hp0.heap_1_39 w.params) C a = true ∧ hasDictIn (hp0.heap_1_39 w.params) C = true ∧ ∃ at_, findIn (hp0.heap_1_39 w.params) (.ref C) a = some at_ ∧ noGet (hp0.heap_1_39 w.params) at_ = true
noncomputable def SA (w : World) (C : Addr) (a : Str) : Prop := findIn (hp0.heap_1_39 w.params) (.ref C) "__setattr__" = some (some (.builtin "object.__setattr__")) ∧ plainOver (hp0.heap_1_39 w.params) C = true ∧ takerIn (hp0.heap_1_39 w.params) C a = some none ∧ hasDictIn (hp0.heap_1_39 w.params) C = true
noncomputable def ME (w : World) (C : Addr) (a : Str) (f : Addr) : Prop := plainGet (hp0.heap_1_39 w.params) C a = true ∧ findIn (hp0.heap_1_39 w.params) (.ref C) a = some (some (.ref f)) ∧ isFn (hp0.heap_1_39 w.params) (.ref f) = true ∧ keepIn (hp0.heap_1_39 w.params) (.ref f) = true
theorem ga_value {w : World} : GA w 66 "value" := ⟨by k_is, by k_is, _, by k_is, by k_is⟩
theorem ga_magic {w : World} : GA w 66 "magic" := ⟨by k_is, by k_is, _, by k_is, by k_is⟩
theorem ga_last {w : World} : GA w 225 "last" := ⟨by k_is, by k_is, _, by k_is, by k_is⟩
theorem sa_last {w : World} : SA w 225 "last" := ⟨by k_is, by k_is, by k_is, by k_is⟩
theorem me_next {w : World} : ME w 225 "next_number" 187 := ⟨by k_is, by k_is, by k_is, by k_is⟩
section
variable {prog : Program} {w : World} {φ : Fn} {dn un' : Nat} {α : Type} {m : Str → Option Value} {G : Led} {Z : Led → Prop}
namespace R
variable {Q : Value → (Str → Option Value) → Led → Prop} {QF : Flow → (Str → Option Value) → Led → Prop} {QB : Bool → (Str → Option Value) → Led → Prop}
theorem getOwn {x C dx : Addr} {es : List DictEntry} {n : Nat} {a : Str} {v : Value} {ex : Bool} (h1 : (x, instObj C dx) ∈ G) (h2 : (dx, dictOf es n) ∈ G) (g : GA w C a) (hl : getL a es = some (some v)) (hv : handedIn v = true) (h : Q v m G) : Wv prog w φ dn un' (getAttr (.ref x) a ex) m G Q Z := by
  intro p loose mean mg mb dp un gd outer A₀ base h₀ L s Q' E' B F X N T hd hu ret exc
  obtain ⟨g1, g2, at_, g3, g4⟩ := g
  exact get_own F X (InstAt.of_news N h1 h2) g1 g2 g3 g4 hl hv (ret v m G s.heap _ F N h)
theorem setOwn {x C dx : Addr} {es es' : List DictEntry} {n n' : Nat} {a : Str} {v : Value} {G' : Led} {QU : Unit → (Str → Option Value) → Led → Prop} (h1 : (x, instObj C dx) ∈ G) (h2 : (dx, dictOf es n) ∈ G) (g : SA w C a) (hl : (getL a es).isSome = true) (e : ∀ tk, (putL a (PyData.keyHash w.params a) (.str a tk) v es, putN a es n) = (es', n')) (U : Upd dx (dictOf es n) (dictOf es' n') G G') (hz : es'.length ≤ 1000) (h : QU () m G') : Wv prog w φ dn un' (setAttr (.ref x) a v) m G QU Z := by
  intro p loose mean mg mb dp un gd outer A₀ base h₀ L s Q' E' B F X N T hd hu ret exc
  obtain ⟨g1, g2, g3, g4⟩ := g
  exact set_dict F X N (InstAt.of_news N h1 h2) rfl g1 g2 g3 g4 hl (e _) U hz fun h' F' N' => ret () m G' h' _ F' N' h
theorem anil {QL : List Value → (Str → Option Value) → Led → Prop} {pos : Pos} (h : QL [] m G) : Wt prog w φ dn un' (fun env => spliced (backTo pos (starEach [] env))) m G QL Z := Wt.val h fun h => args_nil h
theorem acons {QL : List Value → (Str → Option Value) → Led → Prop} {pos : Pos} {e : PySem.Expr} {rest : List PySem.Expr} (h : We prog w φ dn un' e m G (fun v m1 G1 => Wt prog w φ dn un' (fun env => spliced (backTo pos (starEach rest env))) m1 G1 (fun vs m2 G2 => QL (v :: vs) m2 G2) Z) Z) (he : ∀ L, starEach (e :: rest) (φ.env L) = (false, eval e (φ.env L)) :: starEach rest (φ.env L)) : Wt prog w φ dn un' (fun env => spliced (backTo pos (starEach (e :: rest) env))) m G QL Z := by
  intro p loose mean mg mb dp un gd outer A₀ base h₀ L s Q' E' B F X N T hd hu ret exc
  refine args_cons (h p loose mean mg mb dp un gd outer A₀ base h₀ L s _ E' B F X N T hd hu (fun v m1 G1 h1 t1 F1 N1 q => ?_) exc) (he L)
  exact q p loose mean mg mb dp un gd outer A₀ base h₀ L { s with heap := h1, toks := t1 } _ E' B F1 X N1 T hd hu (fun vs m2 G2 h2 t2 F2 N2 q => ret _ m2 G2 h2 t2 F2 N2 q) exc
theorem callw {f : Value} {first : List Value} {pos : Pos} {e : PySem.Expr} {rest : List PySem.Expr} (hk : keepIn (hp0.heap_1_39 w.params) f = true) (h : Wt prog w φ dn un' (fun env => spliced (backTo pos (starEach (e :: rest) env))) m G (fun vs m1 G1 => Wv prog w φ dn un' (call f (first ++ vs)) m1 G1 Q Z) Z) (he : ∀ L, starEach (e :: rest) (φ.env L) = (false, eval e (φ.env L)) :: starEach rest (φ.env L)) (hp : ∀ L, (backTo pos (starEach rest (φ.env L))).any (·.1) = false) : Wt prog w φ dn un' (fun env => callWith pos f first (backTo pos (starEach (e :: rest) env)) []) m G Q Z := by
  intro p loose mean mg mb dp un gd outer A₀ base h₀ L s Q' E' B F X N T hd hu ret exc
  refine callWith_K X hk (h p loose mean mg mb dp un gd outer A₀ base h₀ L s _ E' B F X N T hd hu (fun vs m1 G1 h1 t1 F1 N1 q => ⟨X.keeps F1.keep, ?_⟩) exc) (he L) (hp L)
  exact q p loose mean mg mb dp un gd outer A₀ base h₀ L { s with heap := h1, toks := t1 } _ E' B F1 X N1 T hd hu ret exc
theorem callwB {id : String} {pos : Pos} {e : PySem.Expr} {rest : List PySem.Expr} (h : Wt prog w φ dn un' (fun env => spliced (backTo pos (starEach (e :: rest) env))) m G (fun vs m1 G1 => Wv prog w φ dn un' (PySem.call (.builtin id) vs) m1 G1 Q Z) Z) (he : ∀ L, starEach (e :: rest) (φ.env L) = (false, eval e (φ.env L)) :: starEach rest (φ.env L)) (hp : ∀ L, (backTo pos (starEach rest (φ.env L))).any (·.1) = false) : Wt prog w φ dn un' (fun env => callWith pos (.builtin id) [] (backTo pos (starEach (e :: rest) env)) []) m G Q Z := by
  intro p loose mean mg mb dp un gd outer A₀ base h₀ L s Q' E' B F X N T hd hu ret exc
  have k := h p loose mean mg mb dp un gd outer A₀ base h₀ L s (fun vs s1 => wpAny (model prog w) _ (PySem.call (.builtin id) vs) Q' E' s1) E' B F X N T hd hu (fun vs m1 G1 h1 t1 F1 N1 q => q p loose mean mg mb dp un gd outer A₀ base h₀ L { s with heap := h1, toks := t1 } _ E' B F1 X N1 T hd hu ret exc) exc
  dsimp only at k ⊢
  rw [he L] at k ⊢
  exact callWith_builtin (by show (false || (backTo pos (starEach rest (φ.env L))).any (·.1)) = false; rw [hp L]; rfl) (evalArgs_plain k)
theorem callw0 {f : Value} {first : List Value} {pos : Pos} (hk : keepIn (hp0.heap_1_39 w.params) f = true) (h : Wv prog w φ dn un' (call f (first ++ [])) m G Q Z) : Wt prog w φ dn un' (fun env => callWith pos f first (backTo pos (starEach [] env)) []) m G Q Z := by
  intro p loose mean mg mb dp un gd outer A₀ base h₀ L s Q' E' B F X N T hd hu ret exc
  exact callWith_K0 (X.keeps F.keep) hk (h p loose mean mg mb dp un gd outer A₀ base h₀ L s _ E' B F X N T hd hu ret exc)
theorem call {fn : PySem.Expr} {args : List PySem.Expr} {pos : Pos} (h : We prog w φ dn un' fn m G (fun f m1 G1 => Wt prog w φ dn un' (fun env => callWith pos f [] (backTo pos (starEach args env)) []) m1 G1 Q Z) Z) (he : ∀ L, eval (.Call fn args [] pos) (φ.env L) = (do callWith pos (← eval fn (φ.env L)) [] (backTo pos (starEach args (φ.env L))) (backToKw pos (keywordEach [] (φ.env L))))) : We prog w φ dn un' (.Call fn args [] pos) m G Q Z := by
  intro p loose mean mg mb dp un gd outer A₀ base h₀ L s Q' E' B F X N T hd hu ret exc
  exact Call_ (h p loose mean mg mb dp un gd outer A₀ base h₀ L s _ E' B F X N T hd hu (fun f m1 G1 h1 t1 F1 N1 q => q p loose mean mg mb dp un gd outer A₀ base h₀ L { s with heap := h1, toks := t1 } _ E' B F1 X N1 T hd hu ret exc) exc) (he L)
theorem meth {o : PySem.Expr} {nm : Str} {ap pos : Pos} {args : List PySem.Expr} {pl : Addr → Sem Bool} (h : We prog w φ dn un' o m G (fun ov m1 G1 => ∃ (x C dx f : Addr) (es : List DictEntry) (n : Nat), ov = .ref x ∧ (x, instObj C dx) ∈ G1 ∧ (dx, dictOf es n) ∈ G1 ∧ ME w C nm f ∧ getL nm es = some Option.none ∧ Wt prog w φ dn un' (fun env => callWith pos (.ref f) [.ref x] (backTo pos (starEach args env)) []) m1 G1 Q Z) Z)
    (he : ∀ L, eval (.Call (.Attribute o nm ap) args [] pos) (φ.env L) = (do let ov ← eval o (φ.env L); standAt ap.atName; let (f, first) ← holding [ov] (getMethod ov nm (pl L)); callWith pos f first (backTo pos (starEach args (φ.env L))) [])) : We prog w φ dn un' (.Call (.Attribute o nm ap) args [] pos) m G Q Z := by
  intro p loose mean mg mb dp un gd outer A₀ base h₀ L s Q' E' B F X N T hd hu ret exc
  refine MethodCall_ (h p loose mean mg mb dp un gd outer A₀ base h₀ L s _ E' B F X N T hd hu (fun ov m1 G1 h1 t1 F1 N1 q => ?_) exc) (he L)
  obtain ⟨x, C, dx, f, es, n, rfl, i1, i2, ⟨g1, g2, g3, g4⟩, hl, q⟩ := q
  exact method_inst F1 X (InstAt.of_news N1 i1 i2) g1 g2 g3 hl (q p loose mean mg mb dp un gd outer A₀ base h₀ L { s with heap := h1, toks := t1 } _ E' B F1 X N1 T hd hu ret exc)
end R
end
noncomputable def TelC (prog : Program) (w : World) (f : Addr) (args : Args) (dn un' : Nat) (news : Led) (post : Value → Led → Prop) (exc : Led → Prop) : Prop :=
  ∀ (p : Program) (loose : List Str) (mean : ExcName → Option Value) (mg mb : Str → Option Value) (dp un : Nat) (gd : Option (List Code)) (cn : Str) (cs : Scope) (a : Addr) (ccd : Value) (cl : List (Str × Addr)) (outer : List Env) (A₀ : Around) (base h₀ : Heap) (L : Addr) (m : Str → Option Value) (s : Shared) (R : Result → Shared → Prop),
    Below A₀ base outer h₀ → Fr h₀ L s.heap m → (hp0.heap_1_39 w.params).In h₀ → News h₀ L s.heap news → Top p loose mean mg mb h₀ → cs.kind = .function → dp + dn < recursionLimit → un + un' < cLine →
    (∀ r news' h' tk', Fr h₀ L h' m → News h₀ L h' news' → post r news' → R (.ok (.ret r)) { s with heap := h', toks := tk' }) →
    (∀ e news' g₂ h' tk', Fr h₀ L g₂ m → g₂.UpToSlots h' → RaisedSN base g₂ (envX cn cs L a ccd cl :: outer) e (.ref 301) news' h' → exc news' → R (.error (.ref e)) { s with heap := h', toks := tk' }) →
    codeAny (model prog w) (ktrTop dp un gd cn cs L a ccd cl outer) (.call (.ref f) args) R s
theorem TelC.tel {prog : Program} {w : World} {f : Addr} {args : List Value} {dn un' : Nat} {news : Led} {post : Value → Led → Prop} {exc : Led → Prop} (C : TelC prog w f ⟨args, []⟩ dn un' news post exc) : Tel prog w f args dn un' news post exc := by
  intro p loose mean mg mb dp un gd cn cs a ccd cl outer A₀ base h₀ L m s Q E B F X N T hk hd hu ret exc
  exact wpAny_call (C p loose mean mg mb dp un gd cn cs a ccd cl outer A₀ base h₀ L m s _ B F X N T hk hd hu ret exc)
theorem TelC.ofW {prog : Program} {w : World} {f : Addr} {args : Args} {dn un' : Nat} {news : Led} {post : Value → Led → Prop} {exc : Led → Prop} {name qual : Str} {params : Arguments} {body : List Stmt} {scope : Scope} {dV kV doc pm cdv ct oc : Value} {an od : Option Addr} {osl : Array (Option Value)} {binds : List (Str × Value)}
    (ho : (hp0.heap_1_39 w.params).lookup f = some ⟨oc, od, .func (fnOf name qual params body scope dV kV doc pm an cdv ct), osl⟩) (hcd : codeIn (hp0.heap_1_39 w.params) cdv qual = true)
    (hbind : ∀ s, (hp0.heap_1_39 w.params).In s.heap → BindsTo s (fnOf name qual params body scope dV kV doc pm an cdv ct) args binds) (hloc : ∀ y ∈ binds, scope.names.lookup y.1 = some .local)
    (hco : scope.isCoroutine = false) (hgen : scope.isGenerator = false) (hk : scope.kind = .function) (hcell : ∀ x ∈ scope.names, x.2 ≠ .cell)
    (h : Wt prog w ⟨qual, scope, f, cdv, [], Option.none, Option.none, false⟩ dn un' (execs body) (fun y => binds.reverse.lookup y) news (fun fl xx9 G' => post (match fl with | .ret v => v | _ => .none) G') exc) :
    TelC prog w f args (dn + 1) (un' + 3) news post exc := by
  intro p loose mean mg mb dp un gd cn cs a ccd cl outer A₀ base h₀ L m s R B F X N T hk2 hd hu ret exc
  refine code_def B F X N T rfl rfl hk2 ho hcd (by dsimp only [ktrTop]; omega) (hbind s (X.keeps F.keep)) hloc (fun g L' h₁ FG F' N' B' X' T' => ?_) hco hgen hk hcell
  refine h p loose mean mg mb (dp + 1) (un + 3) gd (envX cn cs L a ccd cl :: outer) _ base g L' { s with heap := h₁, toks := s.toks + binds.length } _ _ B' F' X' N' T' (by omega) ⟨by omega, by passes_own, .inr fun e d t m' G' h' tk' F2 N2 hne q => leave_die B' F2 N2 hne (fun h'' R2 xx9 U2 => exc _ _ _ _ _ FG U2 R2 q) hk, ⟨(fun xx9 h => nomatch h), fun h => nomatch h⟩⟩ ?_ ?_
  · intro fl m' G' h' tk' F2 N2 q
    exact leaveK_ F2 N2 fun F3 N3 => ret _ _ _ _ F3 N3 q
  · intro e m' G' g₂ h' tk' F2 U R q
    exact leave_onSN B' F2 R U fun h'' R2 xx9 U2 => exc _ _ _ _ _ FG U2 R2 q
section
variable {prog : Program} {w : World} {φ : Fn} {dn un' : Nat} {α : Type} {m : Str → Option Value} {G : Led} {Z : Led → Prop} {Q : Value → (Str → Option Value) → Led → Prop}
theorem R.new {C fI : Addr} {args : List Value} {dn1 un1 : Nat} (hm : makesIn (hp0.heap_1_39 w.params) C = true) (hi : findIn (hp0.heap_1_39 w.params) (.ref C) "__init__" = some (some (.ref fI))) (hf : isFn (hp0.heap_1_39 w.params) (.ref fI) = true) (hk : φ.sc.kind = .function) (h1 : dn1 + 2 ≤ dn) (h2 : un1 + 8 ≤ un')
    (h : ∀ x dx, Above dx G → @LT.lt Nat _ dx x → TelC prog w fI ⟨.ref x :: args, []⟩ dn1 un1 ((x, instObj C dx) :: (dx, dictOf [] 0) :: G) (fun r G' => r = .none ∧ Q (.ref x) m G') (fun xx9 => False)) : R.Wv prog w φ dn un' (PySem.call (.ref C) args) m G Q Z := by
  intro p loose mean mg mb dp un gd outer A₀ base h₀ L s Q' E' B F X N T hd hu ret exc
  have hu := hu.1
  refine call_cls F X N hm hi hf fun x dx h' F' N' a1 a2 => ?_
  have C1 := h x dx a1 a2
  unfold TelC at C1
  refine C1 p loose mean mg mb _ _ _ φ.q φ.sc φ.fa φ.cd φ.cl outer A₀ base h₀ L m { s with heap := h' } _ B F' X N' T hk ?_ ?_ ?_ ?_
  · have e : (Code.builtin "type.__call__" { pos := Value.ref C :: args }).weight = 1 := by rfl
    dsimp only [ktrTop]
    rw [e]
    omega
  · have e : (Code.builtin "type.__call__" { pos := Value.ref C :: args }).cUnits ≤ 8 := by show (Code.builtin "type.__call__" { pos := [] }).cUnits ≤ 8; decide +kernel
    dsimp only [ktrTop]
    omega
  · rintro r G' h2 t2 F2 N2 ⟨rfl, q⟩
    exact ⟨rfl, ret _ _ _ _ _ F2 N2 q⟩
  · exact fun xx9 xx9 xx9 xx9 xx9 xx9 xx9 xx9 q => q.elim
end
end
section
section
variable {prog : Program} {w : World} {φ : Fn} {dn un' : Nat} {α : Type} {m : Str → Option Value} {G : Led} {Z : Led → Prop}
namespace R
variable {Q : Value → (Str → Option Value) → Led → Prop} {QF : Flow → (Str → Option Value) → Led → Prop} {QB : Bool → (Str → Option Value) → Led → Prop}
theorem iadd {a b : Int} {t u : Tok} (h : ∀ tk, Q (.int (a + b) tk) m G) : Wv prog w φ dn un' (inplaceOp .Add (.int a t) (.int b u)) m G Q Z := by
  intro p loose mean mg mb dp un gd outer A₀ base h₀ L s Q' E' B F X N T hd hu ret exc
  k_steps
  all_goals exact ret _ _ _ _ _ F N (h _)
theorem isub {a b : Int} {t u : Tok} (h : ∀ tk, Q (.int (a - b) tk) m G) : Wv prog w φ dn un' (inplaceOp .Sub (.int a t) (.int b u)) m G Q Z := by
  intro p loose mean mg mb dp un gd outer A₀ base h₀ L s Q' E' B F X N T hd hu ret exc
  k_steps
  all_goals exact ret _ _ _ _ _ F N (h _)
theorem newList {vs : List Value} (hz : vs.length ≤ 100) (h : ∀ l, Above l G → Q (.ref l) m ((l, listOf vs.toArray 0) :: G)) : Wv prog w φ dn un' (PySem.newList vs) m G Q Z := by
  intro p loose mean mg mb dp un gd outer A₀ base h₀ L s Q' E' B F X N T hd hu ret exc
  exact newList_K F N (fun l h' F' N' a => ret _ _ _ _ _ F' N' (h l a)) (Nat.le_trans hz (by decide))
theorem newTuple {vs : List Value} (hz : vs.length ≤ 100) (h : ∀ D, Above D G → Q (.ref D) m ((D, ({ cls := .type "tuple", data := .seq vs.toArray } : Obj)) :: G)) : Wv prog w φ dn un' (PySem.newTuple vs) m G Q Z := by
  intro p loose mean mg mb dp un gd outer A₀ base h₀ L s Q' E' B F X N T hd hu ret exc
  exact kup_newTuple F N (fun l h' F' N' a => ret _ _ _ _ _ F' N' (h l a)) (Nat.le_trans hz (by decide))
theorem newDict {pos : Pos} (h : ∀ d o, Above d G → o.IsDictOf (strKind prog w) [] → o.IsDictOf (intKind prog w) [] → Q (.ref d) m ((d, o) :: G)) : We prog w φ dn un' (.Dict [] [] pos) m G Q Z := by
  intro p loose mean mg mb dp un gd outer A₀ base h₀ L s Q' E' B F X N T hd hu ret exc
  exact newDict_K F N T.nolimit fun d h' o F' N' a xx9 b xx9 c xx9 => ret _ _ _ _ _ F' N' (h d o a b c)
theorem list {elts : List PySem.Expr} {pos : Pos} (h : Wt prog w φ dn un' (fun env => spliced (backTo pos (starEach elts env))) m G (fun vs m1 G1 => Wv prog w φ dn un' (PySem.newList vs) m1 G1 Q Z) Z) : We prog w φ dn un' (.List elts pos) m G Q Z := by
  intro p loose mean mg mb dp un gd outer A₀ base h₀ L s Q' E' B F X N T hd hu ret exc
  exact List_ (h p loose mean mg mb dp un gd outer A₀ base h₀ L s _ E' B F X N T hd hu (fun f m1 G1 h1 t1 F1 N1 q => q p loose mean mg mb dp un gd outer A₀ base h₀ L { s with heap := h1, toks := t1 } _ E' B F1 X N1 T hd hu ret exc) exc)
theorem tuple {elts : List PySem.Expr} {k : Nat} {pos : Pos} (h : Wt prog w φ dn un' (fun env => spliced (backTo pos (starEach elts env))) m G (fun vs m1 G1 => Wv prog w φ dn un' (PySem.newTuple vs) m1 G1 Q Z) Z) : We prog w φ dn un' (.Tuple elts k pos) m G Q Z := by
  intro p loose mean mg mb dp un gd outer A₀ base h₀ L s Q' E' B F X N T hd hu ret exc
  exact Tuple_ (h p loose mean mg mb dp un gd outer A₀ base h₀ L s _ E' B F X N T hd hu (fun f m1 G1 h1 t1 F1 N1 q => q p loose mean mg mb dp un gd outer A₀ base h₀ L { s with heap := h1, toks := t1 } _ E' B F1 X N1 T hd hu ret exc) exc)
theorem augAttr {o e : PySem.Expr} {a : Str} {op : Operator} {pa pos : Pos} {rest : List Stmt} (h : We prog w φ dn un' o m G (fun ov m1 G1 => Wv prog w φ dn un' (getAttr ov a true) m1 G1 (fun old m2 G2 => We prog w φ dn un' e m2 G2 (fun v m3 G3 => Wv prog w φ dn un' (inplaceOp op old v) m3 G3 (fun nw m4 G4 => Wv prog w φ dn un' (setAttr ov a nw) m4 G4 (fun xx9 m5 G5 => Ws prog w φ dn un' rest m5 G5 QF Z) Z) Z) Z) Z) Z) : Ws prog w φ dn un' (.AugAssign (.Attribute o a pa) op e pos :: rest) m G QF Z := cons (by
  intro p loose mean mg mb dp un gd outer A₀ base h₀ L s Q' E' B F X N T hd hu ret exc
  refine wpAny_AugAssign_AttributeAny (h p loose mean mg mb dp un gd outer A₀ base h₀ L s _ E' B F X N T hd hu (fun ov m1 G1 h1 t1 F1 N1 q => ?_) exc)
  refine q p loose mean mg mb dp un gd outer A₀ base h₀ L { s with heap := h1, toks := t1 } _ E' B F1 X N1 T hd hu (fun old m2 G2 h2 t2 F2 N2 q => ?_) exc
  refine q p loose mean mg mb dp un gd outer A₀ base h₀ L { s with heap := h2, toks := t2 } _ E' B F2 X N2 T hd hu (fun v m3 G3 h3 t3 F3 N3 q => ?_) exc
  refine q p loose mean mg mb dp un gd outer A₀ base h₀ L { s with heap := h3, toks := t3 } _ E' B F3 X N3 T hd hu (fun nw m4 G4 h4 t4 F4 N4 q => ?_) exc
  exact q p loose mean mg mb dp un gd outer A₀ base h₀ L { s with heap := h4, toks := t4 } _ E' B F4 X N4 T hd hu (fun xx9 m5 G5 h5 t5 F5 N5 q => ret .next m5 G5 h5 t5 F5 N5 q) exc)
theorem putL_new {a : Str} {k v : Value} {h : Int} {es : List DictEntry} (hl : getL a es = some Option.none) (n : Nat) : (putL a h k v es, putN a es n) = (es ++ [⟨h, k, v⟩], n + 1) := by
  have hf : es.find? (·.key.isStr a) = Option.none := by
    unfold getL at hl
    split at hl
    · cases hl
    · assumption
  have hn : ∀ e ∈ es, e.key.isStr a = false := fun e he => by simpa using List.find?_eq_none.mp hf e he
  have h1 : es.any (·.key.isStr a) = false := List.any_eq_false.mpr fun e he => by simp [hn e he]
  have h2 : ∀ es : List DictEntry, (∀ e ∈ es, e.key.isStr a = false) → putL a h k v es = es ++ [⟨h, k, v⟩] := by
    intro es
    induction es with
    | nil => intro _; rfl
    | cons e r ih =>
      intro hn
      rw [putL, if_neg (by simp [hn e (.head _)]), ih fun x hx => hn x (.tail _ hx)]; rfl
  unfold putN
  rw [h1, h2 es hn]; rfl
theorem setNew {x C dx : Addr} {es : List DictEntry} {n : Nat} {a : Str} {v : Value} {G0 : Led} {QU : Unit → (Str → Option Value) → Led → Prop} (hx : x ≠ dx) (hr : ∀ p ∈ G0, p.1 ≠ dx) (g : SA w C a) (hl : getL a es = some Option.none) (hz : es.length ≤ 900) (h : ∀ hs tk, QU () m ((x, instObj C dx) :: (dx, dictOf (es ++ [⟨hs, .str a tk, v⟩]) (n + 1)) :: G0)) : Wv prog w φ dn un' (setAttr (.ref x) a v) m ((x, instObj C dx) :: (dx, dictOf es n) :: G0) QU Z := by
  intro p loose mean mg mb dp un gd outer A₀ base h₀ L s Q' E' B F X N T hd hu ret exc
  obtain ⟨g1, g2, g3, g4⟩ := g
  exact set_dict F X N (InstAt.of_news N (.head _) (.tail _ (.head _))) rfl g1 g2 g3 g4 (by rw [hl]; rfl) (putL_new hl n) (.tail hx (.head hr)) (by rw [List.length_append]; exact Nat.le_trans (Nat.add_le_add_right hz 1) (by decide)) fun h' F' N' => ret () m _ h' _ F' N' (h _ _)
end R
end
end
section
section
variable {prog : Program} {w : World} {φ : Fn} {dn un' : Nat} {α : Type} {m : Str → Option Value} {G : Led} {Z : Led → Prop}
namespace R
variable {Q : Value → (Str → Option Value) → Led → Prop} {QF : Flow → (Str → Option Value) → Led → Prop} {QB : Bool → (Str → Option Value) → Led → Prop}
theorem methG {o : PySem.Expr} {nm : Str} {ap pos : Pos} {args : List PySem.Expr} {pl : Env → Sem Bool} (h : We prog w φ dn un' o m G (fun ov m1 G1 => Wt prog w φ dn un' (fun env => getMethod ov nm (pl env)) m1 G1 (fun fx m2 G2 => Wt prog w φ dn un' (fun env => callWith pos fx.1 fx.2 (backTo pos (starEach args env)) []) m2 G2 Q Z) Z) Z)
    (he : ∀ L, eval (.Call (.Attribute o nm ap) args [] pos) (φ.env L) = (do let ov ← eval o (φ.env L); standAt ap.atName; let (f, first) ← holding [ov] (getMethod ov nm (pl (φ.env L))); callWith pos f first (backTo pos (starEach args (φ.env L))) [])) : We prog w φ dn un' (.Call (.Attribute o nm ap) args [] pos) m G Q Z := by
  intro p loose mean mg mb dp un gd outer A₀ base h₀ L s Q' E' B F X N T hd hu ret exc
  refine MethodCall_ (h p loose mean mg mb dp un gd outer A₀ base h₀ L s _ E' B F X N T hd hu (fun ov m1 G1 h1 t1 F1 N1 q => ?_) exc) (he L)
  refine q p loose mean mg mb dp un gd outer A₀ base h₀ L { s with heap := h1, toks := t1 } _ E' B F1 X N1 T hd hu (fun fx m2 G2 h2 t2 F2 N2 q => ?_) exc
  exact q p loose mean mg mb dp un gd outer A₀ base h₀ L { s with heap := h2, toks := t2 } _ E' B F2 X N2 T hd hu ret exc
theorem andC {x : PySem.Expr} {rest : List PySem.Expr} {pos : Pos} (h : Wc prog w φ dn un' x m G (fun b m1 G1 => match b with | true => Wc prog w φ dn un' (.BoolOp .And rest pos) m1 G1 QB Z | false => QB false m1 G1) Z) : Wc prog w φ dn un' (.BoolOp .And (x :: rest) pos) m G QB Z := by
  intro p loose mean mg mb dp un gd outer A₀ base h₀ L s Q' E' B F X N T hd hu ret exc
  refine isTrue_and (h p loose mean mg mb dp un gd outer A₀ base h₀ L s _ E' B F X N T hd hu (fun b m1 G1 h1 t1 F1 N1 q => ?_) exc)
  cases b with
  | true => exact q p loose mean mg mb dp un gd outer A₀ base h₀ L { s with heap := h1, toks := t1 } _ E' B F1 X N1 T hd hu ret exc
  | false => exact ret _ _ _ _ _ F1 N1 q
theorem orC {x : PySem.Expr} {rest : List PySem.Expr} {pos : Pos} (h : Wc prog w φ dn un' x m G (fun b m1 G1 => match b with | true => QB true m1 G1 | false => Wc prog w φ dn un' (.BoolOp .Or rest pos) m1 G1 QB Z) Z) : Wc prog w φ dn un' (.BoolOp .Or (x :: rest) pos) m G QB Z := by
  intro p loose mean mg mb dp un gd outer A₀ base h₀ L s Q' E' B F X N T hd hu ret exc
  refine isTrue_or (h p loose mean mg mb dp un gd outer A₀ base h₀ L s _ E' B F X N T hd hu (fun b m1 G1 h1 t1 F1 N1 q => ?_) exc)
  cases b with
  | false => exact q p loose mean mg mb dp un gd outer A₀ base h₀ L { s with heap := h1, toks := t1 } _ E' B F1 X N1 T hd hu ret exc
  | true => exact ret _ _ _ _ _ F1 N1 q
theorem andN {pos : Pos} (h : QB true m G) : Wc prog w φ dn un' (.BoolOp .And [] pos) m G QB Z := Wt.val h fun h => isTrue_and_nil h
theorem orN {pos : Pos} (h : QB false m G) : Wc prog w φ dn un' (.BoolOp .Or [] pos) m G QB Z := Wt.val h fun h => isTrue_or_nil h
theorem ifExp {t a b : PySem.Expr} {pos : Pos} (h : Wc prog w φ dn un' t m G (fun c m1 G1 => We prog w φ dn un' (if c then a else b) m1 G1 Q Z) Z) : We prog w φ dn un' (.IfExp t a b pos) m G Q Z := by
  intro p loose mean mg mb dp un gd outer A₀ base h₀ L s Q' E' B F X N T hd hu ret exc
  refine IfExp_ (h p loose mean mg mb dp un gd outer A₀ base h₀ L s _ E' B F X N T hd hu (fun c m1 G1 h1 t1 F1 N1 q => ?_) exc)
  cases c <;> exact q p loose mean mg mb dp un gd outer A₀ base h₀ L { s with heap := h1, toks := t1 } _ E' B F1 X N1 T hd hu ret exc
theorem subscript {e sl : PySem.Expr} {pos : Pos} (h : We prog w φ dn un' e m G (fun o m1 G1 => We prog w φ dn un' sl m1 G1 (fun i m2 G2 => Wv prog w φ dn un' (subscriptTail e sl o i) m2 G2 Q Z) Z) Z) : We prog w φ dn un' (.Subscript e sl pos) m G Q Z := by
  intro p loose mean mg mb dp un gd outer A₀ base h₀ L s Q' E' B F X N T hd hu ret exc
  refine Subscript_ (h p loose mean mg mb dp un gd outer A₀ base h₀ L s _ E' B F X N T hd hu (fun o m1 G1 h1 t1 F1 N1 q => ?_) exc)
  refine q p loose mean mg mb dp un gd outer A₀ base h₀ L { s with heap := h1, toks := t1 } _ E' B F1 X N1 T hd hu (fun i m2 G2 h2 t2 F2 N2 q => ?_) exc
  exact q p loose mean mg mb dp un gd outer A₀ base h₀ L { s with heap := h2, toks := t2 } _ E' B F2 X N2 T hd hu ret exc
theorem unary {op : UnaryOp} {e : PySem.Expr} {pos : Pos} (h : We prog w φ dn un' e m G (fun v m1 G1 => Wv prog w φ dn un' (unaryOp op v) m1 G1 Q Z) Z) : We prog w φ dn un' (.UnaryOp op e pos) m G Q Z := by
  intro p loose mean mg mb dp un gd outer A₀ base h₀ L s Q' E' B F X N T hd hu ret exc
  refine UnaryOp_ (h p loose mean mg mb dp un gd outer A₀ base h₀ L s _ E' B F X N T hd hu (fun o m1 G1 h1 t1 F1 N1 q => ?_) exc)
  exact q p loose mean mg mb dp un gd outer A₀ base h₀ L { s with heap := h1, toks := t1 } _ E' B F1 X N1 T hd hu ret exc
theorem cmpV {l r : PySem.Expr} {op : CmpOp} {pos : Pos} (h : We prog w φ dn un' l m G (fun a m1 G1 => We prog w φ dn un' r m1 G1 (fun b m2 G2 => Wv prog w φ dn un' (compareOp op a b) m2 G2 Q Z) Z) Z) (hm : behindInMarks op r = false) : We prog w φ dn un' (.Compare l [op] [r] pos) m G Q Z := by
  intro p loose mean mg mb dp un gd outer A₀ base h₀ L s Q' E' B F X N T hd hu ret exc
  refine wpAny_Compare1 (h p loose mean mg mb dp un gd outer A₀ base h₀ L s _ E' B F X N T hd hu (fun o m1 G1 h1 t1 F1 N1 q => ?_) exc) hm
  refine q p loose mean mg mb dp un gd outer A₀ base h₀ L { s with heap := h1, toks := t1 } _ E' B F1 X N1 T hd hu (fun i m2 G2 h2 t2 F2 N2 q => ?_) exc
  exact q p loose mean mg mb dp un gd outer A₀ base h₀ L { s with heap := h2, toks := t2 } _ E' B F2 X N2 T hd hu ret exc
theorem chain2 {l r1 r2 : PySem.Expr} {o1 o2 : CmpOp} {pos : Pos} (h : We prog w φ dn un' l m G (fun a m1 G1 => We prog w φ dn un' r1 m1 G1 (fun b m2 G2 => Wv prog w φ dn un' (compareOp o1 a b) m2 G2 (fun c m3 G3 => ∃ z, c = .bool z ∧ (match z with | true => We prog w φ dn un' r2 m3 G3 (fun d m4 G4 => Wv prog w φ dn un' (compareOp o2 b d) m4 G4 (fun c m5 G5 => ∃ z, c = .bool z ∧ QB z m5 G5) Z) Z | false => QB false m3 G3)) Z) Z) Z) (hm : lastMarks [o1, o2] [r1, r2] = false) : Wc prog w φ dn un' (.Compare l [o1, o2] [r1, r2] pos) m G QB Z := by
  intro p loose mean mg mb dp un gd outer A₀ base h₀ L s Q' E' B F X N T hd hu ret exc
  refine isTrue_chain (h p loose mean mg mb dp un gd outer A₀ base h₀ L s _ E' B F X N T hd hu (fun a m1 G1 h1 t1 F1 N1 q => ?_) exc) hm
  refine test_link (q p loose mean mg mb dp un gd outer A₀ base h₀ L _ _ E' B F1 X N1 T hd hu (fun b m2 G2 h2 t2 F2 N2 q => ?_) exc)
  refine q p loose mean mg mb dp un gd outer A₀ base h₀ L _ _ E' B F2 X N2 T hd hu (fun c m3 G3 h3 t3 F3 N3 q => ?_) exc
  obtain ⟨z, rfl, q⟩ := q
  refine wpAny_truthy_bool ?_
  cases z with
  | false => exact ret _ _ _ _ _ F3 N3 q
  | true =>
    refine test_last (q p loose mean mg mb dp un gd outer A₀ base h₀ L _ _ E' B F3 X N3 T hd hu (fun d m4 G4 h4 t4 F4 N4 q => ?_) exc)
    refine q p loose mean mg mb dp un gd outer A₀ base h₀ L _ _ E' B F4 X N4 T hd hu (fun c m5 G5 h5 t5 F5 N5 q => ?_) exc
    obtain ⟨z, rfl, q⟩ := q
    exact wpAny_truthy_bool (ret _ _ _ _ _ F5 N5 q)
theorem assignSub {o i e : PySem.Expr} {pa pos : Pos} {rest : List Stmt} (h : We prog w φ dn un' e m G (fun v m1 G1 => We prog w φ dn un' o m1 G1 (fun ov m2 G2 => We prog w φ dn un' i m2 G2 (fun iv m3 G3 => Wv prog w φ dn un' (setItem ov iv v) m3 G3 (fun xx9 m4 G4 => Ws prog w φ dn un' rest m4 G4 QF Z) Z) Z) Z) Z) (hw : ∀ L, swapsWith e (some (.Subscript o i pa)) pos.line (φ.env L) = pure false) : Ws prog w φ dn un' (.Assign [.Subscript o i pa] e pos :: rest) m G QF Z := cons (by
  intro p loose mean mg mb dp un gd outer A₀ base h₀ L s Q' E' B F X N T hd hu ret exc
  refine wpAny_Assign_Subscript (h p loose mean mg mb dp un gd outer A₀ base h₀ L s _ E' B F X N T hd hu (fun v m1 G1 h1 t1 F1 N1 q => ?_) exc) (hw L)
  refine q p loose mean mg mb dp un gd outer A₀ base h₀ L _ _ E' B F1 X N1 T hd hu (fun ov m2 G2 h2 t2 F2 N2 q => ?_) exc
  refine q p loose mean mg mb dp un gd outer A₀ base h₀ L _ _ E' B F2 X N2 T hd hu (fun iv m3 G3 h3 t3 F3 N3 q => ?_) exc
  exact q p loose mean mg mb dp un gd outer A₀ base h₀ L _ _ E' B F3 X N3 T hd hu (fun xx9 m4 G4 h4 t4 F4 N4 q => ret .next m4 G4 h4 t4 F4 N4 q) exc)
theorem augName {x : Str} {op : Operator} {e : PySem.Expr} {px pos : Pos} {old : Value} {rest : List Stmt} (hv : m x = some old) (h : We prog w φ dn un' e m G (fun v m1 G1 => Wv prog w φ dn un' (inplaceOp op old v) m1 G1 (fun r m2 G2 => Ws prog w φ dn un' rest (upd m2 x r) G2 QF Z) Z) Z) (hk : (φ.env 0).kindOf x = some .local) (hs : φ.ok) : Ws prog w φ dn un' (.AugAssign (.Name x px) op e pos :: rest) m G QF Z := cons (by
  intro p loose mean mg mb dp un gd outer A₀ base h₀ L s Q' E' B F X N T hd hu ret exc
  rw [hs.e]
  refine wpAny_AugAssign_Name (wpAny_loadName_local (env := φ.env0 L) hs.fn (hs.k L hk) F.ns hv ?_)
  rw [← hs.e]
  refine h p loose mean mg mb dp un gd outer A₀ base h₀ L s _ E' B F X N T hd hu (fun v m1 G1 h1 t1 F1 N1 q => ?_) exc
  refine q p loose mean mg mb dp un gd outer A₀ base h₀ L _ _ E' B F1 X N1 T hd hu (fun r m2 G2 h2 t2 F2 N2 q => ?_) exc
  rw [hs.e]
  exact storeX_L (cl := φ.cl) F2 N2 (fun h' F' N' => ret .next (upd m2 x r) G2 h' _ F' N' q) hs.fn (hs.k L hk))
theorem assignT {elts : List PySem.Expr} {k : Nat} {tp pos : Pos} {e : PySem.Expr} {rest : List Stmt} (h : We prog w φ dn un' e m G (fun v m1 G1 => Wt prog w φ dn un' (fun env => PySem.assign (.Tuple elts k tp) env v) m1 G1 (fun xx9 m2 G2 => Ws prog w φ dn un' rest m2 G2 QF Z) Z) Z) (hs : ∀ L, swapsWithSole [.Tuple elts k tp] e pos.line (φ.env L) = pure false) (hw : ∀ L, swappedStores [.Tuple elts k tp] e (φ.env L) = pure Option.none) : Ws prog w φ dn un' (.Assign [.Tuple elts k tp] e pos :: rest) m G QF Z := cons (by
  intro p loose mean mg mb dp un gd outer A₀ base h₀ L s Q' E' B F X N T hd hu ret exc
  refine Assign_Tuple (h p loose mean mg mb dp un gd outer A₀ base h₀ L s _ E' B F X N T hd hu (fun v m1 G1 h1 t1 F1 N1 q => ?_) exc) (hs L) (hw L)
  exact q p loose mean mg mb dp un gd outer A₀ base h₀ L _ _ E' B F1 X N1 T hd hu (fun xx9 m2 G2 h2 t2 F2 N2 q => ret .next m2 G2 h2 t2 F2 N2 q) exc)
theorem raise {x : PySem.Expr} {pos : Pos} {rest : List Stmt} (h : We prog w φ dn un' x m G (fun v m1 G1 => ∃ e d t G2, v = .ref e ∧ G1 = (e, excO d t) :: G2 ∧ (∀ q ∈ G2, q.1 ≠ e) ∧ Z G2) Z) (ht : φ.top = false) : Ws prog w φ dn un' (.Raise (some x) Option.none pos :: rest) m G QF Z := cons (by
  intro p loose mean mg mb dp un gd outer A₀ base h₀ L s Q' E' B F X N T hd hu ret exc
  refine raise_die rfl (h p loose mean mg mb dp un gd outer A₀ base h₀ L s _ E' B F X N T hd hu (fun v m1 G1 h1 t1 F1 N1 q => ?_) exc)
  obtain ⟨e, d, t, G2, rfl, rfl, hne, z⟩ := q
  exact ⟨e, d, t, rfl, X.keeps F1.keep, (N1 _ (.head _)).1, (hu.2.2.1.resolve_left (by rw [ht]; exact Bool.false_ne_true)) e d t m1 G2 h1 t1 F1 N1 hne z⟩)
theorem pass {pos : Pos} {rest : List Stmt} (h : Ws prog w φ dn un' rest m G QF Z) : Ws prog w φ dn un' (.Pass pos :: rest) m G QF Z := cons (Wt.val h fun h => wpAny_Pass h)
end R
end
structure Cx where
  prog : Program
  w : World
  φ : Fn
  dn : Nat
  un : Nat
  Q : Flow → (Str → Option Value) → Led → Prop
  Z : Led → Prop
  hk : φ.sc.kind = .function
noncomputable abbrev Cx.wQ (Γ : Cx) (Q : Flow → (Str → Option Value) → Led → Prop) : Cx := ⟨Γ.prog, Γ.w, Γ.φ, Γ.dn, Γ.un, Q, Γ.Z, Γ.hk⟩
structure Ml where
  l : List (Str × Value)
  b : Str → Option Value
noncomputable def Ml.add (ml : Ml) (x : Str) (v : Value) : Ml := ⟨(x, v) :: ml.l, ml.b⟩
noncomputable def look (ml : Ml) : Str → Option Value := fun y => match ml.l.lookup y with | some v => some v | Option.none => ml.b y
theorem look_add {ml : Ml} {x : Str} {v : Value} : look (ml.add x v) = upd (look ml) x v := by
  funext y
  unfold look upd Ml.add
  dsimp only
  rw [List.lookup_cons]
  by_cases h : y = x
  · subst h; rw [if_pos rfl, beq_self_eq_true]
  · rw [if_neg h, show (y == x) = false from beq_eq_false_iff_ne.mpr h]
theorem look_at {ml : Ml} {x : Str} {v : Value} (h : ml.l.lookup x = some v) : look ml x = some v := by
  unfold look; rw [h]
theorem look_fn {l : List (Str × Value)} : look ⟨l, fun xx9 => Option.none⟩ = fun y => l.lookup y := by
  funext y
  unfold look
  dsimp only
  cases l.lookup y <;> rfl
theorem look_base {m : Str → Option Value} : look ⟨[], m⟩ = m := rfl
set_option tactic.hygienic true in
theorem look_add1 {m : Str → Option Value} {x : Str} {v : Value} {l : List (Str × Value)} (h : look ⟨l, m⟩ = m) (hx : m x = some v) : look ⟨(x, v) :: l, m⟩ = m := by
  have e := look_add (ml := ⟨l, m⟩) (x := x) (v := v)
  unfold Ml.add at e
  rw [e, h]
  funext y
  unfold upd
  split
  · rename_i k; rw [k, hx]
  · rfl
set_option genInjectivity false
set_option genSizeOfSpec false
inductive Sg where
  | v (x : Value) | f (x : Flow) | b (x : Bool) | u
inductive Tgt where
  | cal (f : Value) | lst | tup
noncomputable def Tgt.sem : Tgt → List Value → Sem Value
  | .cal f, vs => PySem.call f vs
  | .lst, vs => PySem.newList vs
  | .tup, vs => PySem.newTuple vs
inductive Fm where
  | ret | seq (rest : List Stmt) | ex (rest : List Stmt) | asg (x : Str) (rest : List Stmt)
  | asgO (o : PySem.Expr) (a : Str) (rest : List Stmt) | asgA (v : Value) (a : Str) (rest : List Stmt) | un (rest : List Stmt)
  | asS1 (o i : PySem.Expr) (rest : List Stmt) | asS2 (v : Value) (i : PySem.Expr) (rest : List Stmt) | asS3 (v ov : Value) (rest : List Stmt)
  | auN (x : Str) (op : Operator) (old : Value) (rest : List Stmt)
  | bL (op : Operator) (r : PySem.Expr) | bR (op : Operator) (a : Value) | cL (op : CmpOp) (r : PySem.Expr) | cR (op : CmpOp) (a : Value)
  | ch1 (o1 : CmpOp) (r1 : PySem.Expr) (o2 : CmpOp) (r2 : PySem.Expr) | ch2 (o1 : CmpOp) (a : Value) (o2 : CmpOp) (r2 : PySem.Expr) | ch3 (b : Value) (o2 : CmpOp) (r2 : PySem.Expr)
  | uo (op : UnaryOp) | sb1 (e sl : PySem.Expr) | sb2 (e sl : PySem.Expr) (o : Value) | ife (a b : PySem.Expr)
  | tru | not | ite (b1 b2 : List Stmt) | attr (a : Str) | arg (pos : Pos) (rest : List PySem.Expr) (t : Tgt) (acc : List Value) | mo (o : PySem.Expr) (nm : Str) (pos : Pos) (args : List PySem.Expr)
  | auO (a : Str) (op : Operator) (e : PySem.Expr) (rest : List Stmt) | auG (ov : Value) (a : Str) (op : Operator) (e : PySem.Expr) (rest : List Stmt) | auE (ov : Value) (a : Str) (op : Operator) (old : Value) (rest : List Stmt) | auS (ov : Value) (a : Str) (rest : List Stmt)
  | and (rest : List PySem.Expr) (pos : Pos) | or (rest : List PySem.Expr) (pos : Pos) | rs | asT (tgt : PySem.Expr) (rest : List Stmt) | sw (x y : Str) (rest : List Stmt)
inductive Mc where
  | ev (e : PySem.Expr) | st (l : List Stmt) | cd (e : PySem.Expr) | sg (s : Sg) | me (o : PySem.Expr) (ov : Value) (nm : Str) (pos : Pos) (args : List PySem.Expr) | ar (pos : Pos) (t : Tgt) (acc : List Value) (args : List PySem.Expr) | cl (t : Tgt) (vs : List Value)
  | ga (o : Value) (a : Str) | sa (o : Value) (a : Str) (v : Value) | bo (op : Operator) (a b : Value) | co (op : CmpOp) (a b : Value) | ip (op : Operator) (a b : Value)
  | gi (e sl : PySem.Expr) (o i : Value) | si (o i v : Value) | uo (op : UnaryOp) (v : Value) | tg (tgt : PySem.Expr) (v : Value)
namespace Cx
variable (Γ : Cx)
noncomputable abbrev T {α : Type} (t : Env → Sem α) (m : Str → Option Value) (G : Led) (Q : α → (Str → Option Value) → Led → Prop) : Prop := Wt Γ.prog Γ.w Γ.φ Γ.dn Γ.un t m G Q Γ.Z
noncomputable abbrev Lc := Str → Option Value
noncomputable def run1 (k : Sg → Lc → Led → Prop) : Fm → Sg → Lc → Led → Prop
  | .ret, .v x, m, G => k (.f (.ret x)) m G
  | .seq rest, .f .next, m, G => Γ.T (execs rest) m G (fun f => k (.f f))
  | .seq _, .f fl, m, G => k (.f fl) m G
  | .ex rest, .v x, m, G => (∀ a, x ≠ .ref a) ∧ Γ.T (execs rest) m G (fun f => k (.f f))
  | .asg x rest, .v v, m, G => Γ.T (execs rest) (upd m x v) G (fun f => k (.f f))
  | .asgO o a rest, .v v, m, G => Γ.T (eval o) m G (fun ov m2 G2 => Γ.T (fun xx9 => setAttr ov a v) m2 G2 (fun xx9 m3 G3 => Γ.T (execs rest) m3 G3 (fun f => k (.f f))))
  | .asgA v a rest, .v ov, m, G => Γ.T (fun xx9 => setAttr ov a v) m G (fun xx9 m3 G3 => Γ.T (execs rest) m3 G3 (fun f => k (.f f)))
  | .un rest, .u, m, G => Γ.T (execs rest) m G (fun f => k (.f f))
  | .asS1 o i rest, .v v, m, G => Γ.T (eval o) m G (fun ov m2 G2 => Γ.T (eval i) m2 G2 (fun iv m3 G3 => Γ.T (fun xx9 => setItem ov iv v) m3 G3 (fun xx9 m4 G4 => Γ.T (execs rest) m4 G4 (fun f => k (.f f)))))
  | .asS2 v i rest, .v ov, m, G => Γ.T (eval i) m G (fun iv m3 G3 => Γ.T (fun xx9 => setItem ov iv v) m3 G3 (fun xx9 m4 G4 => Γ.T (execs rest) m4 G4 (fun f => k (.f f))))
  | .asS3 v ov rest, .v iv, m, G => Γ.T (fun xx9 => setItem ov iv v) m G (fun xx9 m4 G4 => Γ.T (execs rest) m4 G4 (fun f => k (.f f)))
  | .auN x op old rest, .v v, m, G => Γ.T (fun xx9 => inplaceOp op old v) m G (fun r m2 G2 => Γ.T (execs rest) (upd m2 x r) G2 (fun f => k (.f f)))
  | .bL op r, .v a, m, G => Γ.T (eval r) m G (fun b m2 G2 => Γ.T (fun xx9 => binaryOp op a b) m2 G2 (fun v => k (.v v)))
  | .bR op a, .v b, m, G => Γ.T (fun xx9 => binaryOp op a b) m G (fun v => k (.v v))
  | .cL op r, .v a, m, G => Γ.T (eval r) m G (fun b m2 G2 => Γ.T (fun xx9 => compareOp op a b) m2 G2 (fun v => k (.v v)))
  | .cR op a, .v b, m, G => Γ.T (fun xx9 => compareOp op a b) m G (fun v => k (.v v))
  | .ch1 o1 r1 o2 r2, .v a, m, G => Γ.T (eval r1) m G (fun b m2 G2 => Γ.T (fun xx9 => compareOp o1 a b) m2 G2 (fun c m3 G3 => ∃ z, c = .bool z ∧ (match z with | true => Γ.T (eval r2) m3 G3 (fun d m4 G4 => Γ.T (fun xx9 => compareOp o2 b d) m4 G4 (fun c m5 G5 => ∃ z, c = .bool z ∧ k (.b z) m5 G5)) | false => k (.b false) m3 G3)))
  | .ch2 o1 a o2 r2, .v b, m, G => Γ.T (fun xx9 => compareOp o1 a b) m G (fun c m3 G3 => ∃ z, c = .bool z ∧ (match z with | true => Γ.T (eval r2) m3 G3 (fun d m4 G4 => Γ.T (fun xx9 => compareOp o2 b d) m4 G4 (fun c m5 G5 => ∃ z, c = .bool z ∧ k (.b z) m5 G5)) | false => k (.b false) m3 G3))
  | .ch3 b o2 r2, .v c, m, G => ∃ z, c = .bool z ∧ (match z with | true => Γ.T (eval r2) m G (fun d m4 G4 => Γ.T (fun xx9 => compareOp o2 b d) m4 G4 (fun c m5 G5 => ∃ z, c = .bool z ∧ k (.b z) m5 G5)) | false => k (.b false) m G)
  | .uo op, .v v, m, G => Γ.T (fun xx9 => unaryOp op v) m G (fun v => k (.v v))
  | .sb1 e sl, .v o, m, G => Γ.T (eval sl) m G (fun i m2 G2 => Γ.T (fun xx9 => subscriptTail e sl o i) m2 G2 (fun v => k (.v v)))
  | .sb2 e sl o, .v i, m, G => Γ.T (fun xx9 => subscriptTail e sl o i) m G (fun v => k (.v v))
  | .ife a b, .b z, m, G => Γ.T (eval (if z then a else b)) m G (fun v => k (.v v))
  | .tru, .v c, m, G => ∃ z, c = .bool z ∧ k (.b z) m G
  | .not, .b z, m, G => k (.b !z) m G
  | .ite b1 b2, .b z, m, G => Γ.T (execs (if z then b1 else b2)) m G (fun f => k (.f f))
  | .attr a, .v o, m, G => Γ.T (fun xx9 => getAttr o a true) m G (fun v => k (.v v))
  | .arg pos rest t acc, .v v, m, G => Γ.T (fun env => spliced (backTo pos (starEach rest env))) m G (fun vs m2 G2 => Γ.T (fun xx9 => t.sem (acc ++ v :: vs)) m2 G2 (fun v => k (.v v)))
  | .mo o nm pos args, .v ov, m, G => Γ.T (fun env => getMethod ov nm (do return (← importBound o env).getD true)) m G (fun fx m2 G2 => Γ.T (fun env => callWith pos fx.1 fx.2 (backTo pos (starEach args env)) []) m2 G2 (fun v => k (.v v)))
  | .auO a op e rest, .v ov, m, G => Γ.T (fun xx9 => getAttr ov a true) m G (fun old m2 G2 => Γ.T (eval e) m2 G2 (fun v m3 G3 => Γ.T (fun xx9 => inplaceOp op old v) m3 G3 (fun nw m4 G4 => Γ.T (fun xx9 => setAttr ov a nw) m4 G4 (fun xx9 m5 G5 => Γ.T (execs rest) m5 G5 (fun f => k (.f f))))))
  | .auG ov a op e rest, .v old, m, G => Γ.T (eval e) m G (fun v m3 G3 => Γ.T (fun xx9 => inplaceOp op old v) m3 G3 (fun nw m4 G4 => Γ.T (fun xx9 => setAttr ov a nw) m4 G4 (fun xx9 m5 G5 => Γ.T (execs rest) m5 G5 (fun f => k (.f f)))))
  | .auE ov a op old rest, .v v, m, G => Γ.T (fun xx9 => inplaceOp op old v) m G (fun nw m4 G4 => Γ.T (fun xx9 => setAttr ov a nw) m4 G4 (fun xx9 m5 G5 => Γ.T (execs rest) m5 G5 (fun f => k (.f f))))
  | .auS ov a rest, .v nw, m, G => Γ.T (fun xx9 => setAttr ov a nw) m G (fun xx9 m5 G5 => Γ.T (execs rest) m5 G5 (fun f => k (.f f)))
  | .and rest pos, .b true, m, G => Γ.T (fun env => isTrue (.BoolOp .And rest pos) env (eval (.BoolOp .And rest pos) env)) m G (fun b => k (.b b))
  | .and _ _, .b false, m, G => k (.b false) m G
  | .or _ _, .b true, m, G => k (.b true) m G
  | .or rest pos, .b false, m, G => Γ.T (fun env => isTrue (.BoolOp .Or rest pos) env (eval (.BoolOp .Or rest pos) env)) m G (fun b => k (.b b))
  | .asT tgt rest, .v v, m, G => Γ.T (fun env => PySem.assign tgt env v) m G (fun xx9 m2 G2 => Γ.T (execs rest) m2 G2 (fun f => k (.f f)))
  | .sw x y rest, .v v, m, G => ∃ T n a b, v = .ref T ∧ (T, ({ cls := .type "tuple", data := .seq #[a, b] n } : Obj)) ∈ G ∧ Γ.T (execs rest) (upd (upd m y b) x a) G (fun f => k (.f f))
  | .rs, .v v, _, G => ∃ e d t G2, v = .ref e ∧ G = (e, excO d t) :: G2 ∧ (∀ q ∈ G2, q.1 ≠ e) ∧ Γ.Z G2
  | _, _, _, _ => False
noncomputable def run : List Fm → Sg → Lc → Led → Prop
  | [] => fun s m G => match s with | .f fl => Γ.Q fl m G | _ => False
  | k :: K => run1 Γ (run K) k
noncomputable def W (c : Mc) (K : List Fm) (ml : Ml) (G : Led) : Prop :=
  match c with
  | .ev e => Γ.T (eval e) (look ml) G (fun v => Γ.run K (.v v))
  | .st l => Γ.T (execs l) (look ml) G (fun f => Γ.run K (.f f))
  | .cd e => Γ.T (fun env => isTrue e env (eval e env)) (look ml) G (fun b => Γ.run K (.b b))
  | .sg s => Γ.run K s (look ml) G
  | .me o ov nm pos args => Γ.T (fun env => getMethod ov nm (do return (← importBound o env).getD true)) (look ml) G (fun fx m2 G2 => Γ.T (fun env => callWith pos fx.1 fx.2 (backTo pos (starEach args env)) []) m2 G2 (fun v => Γ.run K (.v v)))
  | .ar pos t acc args => Γ.T (fun env => spliced (backTo pos (starEach args env))) (look ml) G (fun vs m2 G2 => Γ.T (fun xx9 => t.sem (acc ++ vs)) m2 G2 (fun v => Γ.run K (.v v)))
  | .cl t vs => Γ.T (fun xx9 => t.sem vs) (look ml) G (fun v => Γ.run K (.v v))
  | .ip op a b => Γ.T (fun xx9 => inplaceOp op a b) (look ml) G (fun v => Γ.run K (.v v))
  | .ga o a => Γ.T (fun xx9 => getAttr o a true) (look ml) G (fun v => Γ.run K (.v v))
  | .sa o a v => Γ.T (fun xx9 => setAttr o a v) (look ml) G (fun xx9 => Γ.run K .u)
  | .bo op a b => Γ.T (fun xx9 => binaryOp op a b) (look ml) G (fun v => Γ.run K (.v v))
  | .co op a b => Γ.T (fun xx9 => compareOp op a b) (look ml) G (fun v => Γ.run K (.v v))
  | .gi e sl o i => Γ.T (fun xx9 => subscriptTail e sl o i) (look ml) G (fun v => Γ.run K (.v v))
  | .si o i v => Γ.T (fun xx9 => setItem o i v) (look ml) G (fun xx9 => Γ.run K .u)
  | .uo op v => Γ.T (fun xx9 => unaryOp op v) (look ml) G (fun v => Γ.run K (.v v))
  | .tg tgt v => Γ.T (fun env => PySem.assign tgt env v) (look ml) G (fun xx9 => Γ.run K .u)
end Cx
noncomputable def plainBase : PySem.Expr → Bool
  | .Name .. => true
  | .Attribute .. => true
  | .Subscript .. => true
  | .Call _ (_ :: _) _ _ => true
  | _ => false
noncomputable def noSw : PySem.Expr → Bool
  | .ListComp .. | .SetComp .. | .DictComp .. => false
  | _ => true
noncomputable def noStar : List PySem.Expr → Bool
  | [] => true
  | .Starred .. :: _ => false
  | _ :: r => noStar r
set_option tactic.hygienic true in
theorem attr_he {e : PySem.Expr} {a : Str} {pos : Pos} {env : Env} (h : plainBase e = true) : eval (.Attribute e a pos) env = (do let o ← eval e env; standAt pos.atName; let r ← holding [o] (getAttr o a true); letTemporaryGo e o r; pure r) := by
  cases e <;> first | (exact absurd h Bool.false_ne_true) | (with_unfolding_all rfl) | skip
  rename_i f as ks p
  cases as with
  | nil => exact absurd h Bool.false_ne_true
  | cons _ _ => cases f <;> with_unfolding_all rfl
theorem sw_he {e : PySem.Expr} {t : Option PySem.Expr} {l : Nat} {env : Env} (h : noSw e = true) : swapsWith e t l env = pure false := by
  cases e <;> first | (exact absurd h Bool.false_ne_true) | rfl
theorem star_he {e : PySem.Expr} {r : List PySem.Expr} {env : Env} (h : noStar (e :: r) = true) : starEach (e :: r) env = (false, eval e env) :: starEach r env := by
  cases e <;> first | (exact absurd h Bool.false_ne_true) | rfl
theorem star_tl {e : PySem.Expr} {r : List PySem.Expr} (h : noStar (e :: r) = true) : noStar r = true := by
  cases e <;> first | (exact absurd h Bool.false_ne_true) | exact h
theorem star_any {r : List PySem.Expr} {env : Env} {pos : Pos} (h : noStar r = true) : (backTo pos (starEach r env)).any (·.1) = false := by
  induction r with
  | nil => rfl
  | cons e r ih =>
    have i := ih (star_tl h)
    rw [star_he h]
    exact i
theorem form_he {args : List PySem.Expr} {env : Env} {pos : Pos} (h : noStar args = true) (h2 : args.length < 30) : methodCallForm (args.length + 0) (backTo pos (starEach args env)) [] = true := by
  unfold methodCallForm
  have : (backTo pos (starEach args env)).all (!·.1) = true := by
    have := star_any (env := env) (pos := pos) h
    rw [List.all_eq_not_any_not]
    simp only [Bool.not_not]
    rw [this]; rfl
  rw [this]
  simp [h2]
set_option tactic.hygienic true in
theorem meth_he {o : PySem.Expr} {nm : Str} {ap pos : Pos} {args : List PySem.Expr} {env : Env} (h : plainBase o = true) (h1 : (ap.endLine == pos.line) = true) (h2 : noStar args = true) (h3 : args.length < 30) : eval (.Call (.Attribute o nm ap) args [] pos) env = (do let ov ← eval o env; standAt ap.atName; let (f, first) ← holding [ov] (getMethod ov nm (do return (← importBound o env).getD true)); callWith pos f first (backTo pos (starEach args env)) []) := by
  have b : attributeBase o nm env (eval o env) = eval o env := by
    cases o <;> first | (exact absurd h Bool.false_ne_true) | (with_unfolding_all rfl) | skip
    rename_i f as ks p
    cases as with
    | nil => exact absurd h Bool.false_ne_true
    | cons _ _ => cases f <;> with_unfolding_all rfl
  have a : eval (.Call (.Attribute o nm ap) args [] pos) env = (do let ov ← attributeBase o nm env (eval o env); standAt ap.atName; methodCall o nm ap pos env ov (args.length + 0) (backTo pos (starEach args env)) []) := by with_unfolding_all rfl
  rw [a, b]
  unfold methodCall methodCallPos calleeOf
  rw [form_he h2 h3, h1]
  with_unfolding_all rfl
end
section
noncomputable def Glob (w : World) : List (Str × Value) → Prop
  | [] => True
  | p :: r => (nsIn (hp0.heap_1_39 w.params) mainGlobals p.1 = some (some p.2) ∧ keepIn (hp0.heap_1_39 w.params) p.2 = true) ∧ Glob w r
noncomputable def Blt (w : World) : List (Str × Value) → Prop
  | [] => True
  | p :: r => (nsIn (hp0.heap_1_39 w.params) mainGlobals p.1 = some Option.none ∧ bootBuiltins p.1 = some p.2 ∧ (p.1 == ("__name__" : Str)) = false) ∧ Blt w r
noncomputable def gtab : List (Str × Value) := ("value_of", .ref 257) :: ("to_text", .ref 264) :: ("key_scalar", .ref 310) :: ("element_place", .ref 329) :: ("element_scalar", .ref 336) :: ("resize_array", .ref 343) :: ("kind_words", .ref 350) :: ("is_of_kind", .ref 357) :: ("shown_text", .ref 364) :: ("refuse_deref", .ref 371) :: ("deref_kind", .ref 378) :: ("deref_array", .ref 385) :: ("deref_hash", .ref 392) :: ("deref_scalar", .ref 399) :: ("deref_code", .ref 406) :: ("made_thing", .ref 413) :: ("vivified", .ref 420) :: ("elem_lv", .ref 427) :: ("helem_lv", .ref 434) :: ("elem_of", .ref 441) :: ("helem_of", .ref 448) :: ("walk_path", .ref 455) :: ("Thing", .ref 45) :: ("Scalar", .ref 66) :: ("Array", .ref 85) :: ("Hash", .ref 104) :: ("Code", .ref 123) :: ("Glob", .ref 142) :: ("Ref", .ref 162) :: ("Heap", .ref 225) :: ("Counter", .ref 547) :: ("Run", .ref 568) :: ("Limits", .ref 590) :: ("Die", .ref 301) :: ("number_text", .ref 28) :: ("_law_told", .ref 600) :: ("_law_own", .ref 605) :: ("_law_path", .ref 612) :: ("_law_walk", .ref 619) :: ("_law_looked", .ref 626) :: ("_law_derefs", .ref 633) :: []
noncomputable def btab : List (Str × Value) := [("isinstance", .builtin "isinstance"), ("len", .builtin "len"), ("max", .builtin "max"), ("tuple", .type "tuple"), ("abs", .builtin "abs"), ("int", .type "int")]
theorem gtab_ok (w : World) : Glob w gtab := ⟨⟨by k_is, by k_is⟩, ⟨by k_is, by k_is⟩, ⟨by k_is, by k_is⟩, ⟨by k_is, by k_is⟩, ⟨by k_is, by k_is⟩, ⟨by k_is, by k_is⟩, ⟨by k_is, by k_is⟩, ⟨by k_is, by k_is⟩, ⟨by k_is, by k_is⟩, ⟨by k_is, by k_is⟩, ⟨by k_is, by k_is⟩, ⟨by k_is, by k_is⟩, ⟨by k_is, by k_is⟩, ⟨by k_is, by k_is⟩, ⟨by k_is, by k_is⟩, ⟨by k_is, by k_is⟩, ⟨by k_is, by k_is⟩, ⟨by k_is, by k_is⟩, ⟨by k_is, by k_is⟩, ⟨by k_is, by k_is⟩, ⟨by k_is, by k_is⟩, ⟨by k_is, by k_is⟩, ⟨by k_is, by k_is⟩, ⟨by k_is, by k_is⟩, ⟨by k_is, by k_is⟩, ⟨by k_is, by k_is⟩, ⟨by k_is, by k_is⟩, ⟨by k_is, by k_is⟩, ⟨by k_is, by k_is⟩, ⟨by k_is, by k_is⟩, ⟨by k_is, by k_is⟩, ⟨by k_is, by k_is⟩, ⟨by k_is, by k_is⟩, ⟨by k_is, by k_is⟩, ⟨by k_is, by k_is⟩, ⟨by k_is, by k_is⟩, ⟨by k_is, by k_is⟩, ⟨by k_is, by k_is⟩, ⟨by k_is, by k_is⟩, ⟨by k_is, by k_is⟩, ⟨by k_is, by k_is⟩, trivial⟩
theorem btab_ok (w : World) : Blt w btab := ⟨⟨by k_is, by decide +kernel, by decide +kernel⟩, ⟨by k_is, by decide +kernel, by decide +kernel⟩, ⟨by k_is, by decide +kernel, by decide +kernel⟩, ⟨by k_is, by decide +kernel, by decide +kernel⟩, ⟨by k_is, by decide +kernel, by decide +kernel⟩, ⟨by k_is, by decide +kernel, by decide +kernel⟩, trivial⟩
theorem Glob.at {w : World} {l : List (Str × Value)} {x : Str} {v : Value} (h : Glob w l) (e : l.lookup x = some v) : nsIn (hp0.heap_1_39 w.params) mainGlobals x = some (some v) ∧ keepIn (hp0.heap_1_39 w.params) v = true := by
  induction l with
  | nil => cases e
  | cons p r ih =>
    rw [List.lookup_cons] at e
    split at e
    · rename_i k; cases e; rw [eq_of_beq k]; exact h.1
    · exact ih h.2 e
theorem Blt.at {w : World} {l : List (Str × Value)} {x : Str} {v : Value} (h : Blt w l) (e : l.lookup x = some v) : nsIn (hp0.heap_1_39 w.params) mainGlobals x = some Option.none ∧ bootBuiltins x = some v ∧ (x == ("__name__" : Str)) = false := by
  induction l with
  | nil => cases e
  | cons p r ih =>
    rw [List.lookup_cons] at e
    split at e
    · rename_i k; cases e; rw [eq_of_beq k]; exact h.1
    · exact ih h.2 e
namespace Cx
variable (Γ : Cx)
set_option genInjectivity false
set_option genSizeOfSpec false
inductive Nx (c : Mc) (K : List Fm) (ml : Ml) where
  | stop
  | go (c' : Mc) (K' : List Fm) (ml' : Ml) (ok : ∀ G, Γ.W c' K' ml' G → Γ.W c K ml G)
  | tok (f : Tok → Mc) (ok : ∀ G, (∀ t, Γ.W (f t) K ml G) → Γ.W c K ml G)
variable {Γ}
theorem W_asg {rest : List Stmt} {K : List Fm} {ml : Ml} {x : Str} {v : Value} {G : Led} (h : Γ.W (.st rest) K (ml.add x v) G) : Γ.T (execs rest) (upd (look ml) x v) G (fun f => Γ.run K (.f f)) := by
  have h : Γ.T (execs rest) (look (ml.add x v)) G (fun f => Γ.run K (.f f)) := h
  rwa [look_add] at h
theorem W_arg {K : List Fm} {ml : Ml} {x : Value} {G : Led} {t : Tgt} {acc : List Value} {pos : Pos} {rest : List PySem.Expr} (h : Γ.W (.ar pos t (acc ++ [x]) rest) K ml G) : Γ.W (.sg (.v x)) (.arg pos rest t acc :: K) ml G :=
  Wt.mono (show Γ.T (fun env => spliced (backTo pos (starEach rest env))) (look ml) G (fun vs m2 G2 => Γ.T (fun xx9 => t.sem ((acc ++ [x]) ++ vs)) m2 G2 (fun v => Γ.run K (.v v))) from h) (fun v m1 G1 q => by rwa [List.append_assoc] at q) fun xx9 => id
variable (Γ)
noncomputable def stepV (x : Value) (K : List Fm) (ml : Ml) : Nx Γ (.sg (.v x)) K ml :=
  match K with
  | [] => .stop
  | k :: K => match k with
    | .ret => .go (.sg (.f (.ret x))) K ml fun xx9 h => h
    | .ex rest => match x with | .none => .go (.st rest) K ml fun xx9 h => ⟨fun xx9 => nofun, h⟩ | _ => .stop
    | .asg y rest => .go (.st rest) K (ml.add y x) fun xx9 h => W_asg h
    | .asgO o a rest => .go (.ev o) (.asgA x a rest :: K) ml fun xx9 h => h
    | .asgA v a rest => .go (.sa x a v) (.un rest :: K) ml fun xx9 h => h
    | .asS1 o i rest => .go (.ev o) (.asS2 x i rest :: K) ml fun xx9 h => h
    | .asS2 v i rest => .go (.ev i) (.asS3 v x rest :: K) ml fun xx9 h => h
    | .asS3 v ov rest => .go (.si ov x v) (.un rest :: K) ml fun xx9 h => h
    | .auN y op old rest => .go (.ip op old x) (.asg y rest :: K) ml fun xx9 h => h
    | .bL op r => .go (.ev r) (.bR op x :: K) ml fun xx9 h => h
    | .bR op a => .go (.bo op a x) K ml fun xx9 h => h
    | .cL op r => .go (.ev r) (.cR op x :: K) ml fun xx9 h => h
    | .cR op a => .go (.co op a x) K ml fun xx9 h => h
    | .ch1 o1 r1 o2 r2 => .go (.ev r1) (.ch2 o1 x o2 r2 :: K) ml fun xx9 h => h
    | .ch2 o1 a o2 r2 => .go (.co o1 a x) (.ch3 x o2 r2 :: K) ml fun xx9 h => h
    | .ch3 b o2 r2 => match x with
      | .bool true => .go (.ev r2) (.cR o2 b :: .tru :: K) ml fun xx9 h => ⟨true, rfl, h⟩
      | .bool false => .go (.sg (.b false)) K ml fun xx9 h => ⟨false, rfl, h⟩
      | _ => .stop
    | .uo op => .go (.uo op x) K ml fun xx9 h => h
    | .asT tgt rest => .go (.tg tgt x) (.un rest :: K) ml fun xx9 h => h
    | .sb1 e sl => .go (.ev sl) (.sb2 e sl x :: K) ml fun xx9 h => h
    | .sb2 e sl o => .go (.gi e sl o x) K ml fun xx9 h => h
    | .tru => match x with | .bool z => .go (.sg (.b z)) K ml fun xx9 h => ⟨z, rfl, h⟩ | _ => .stop
    | .attr a => .go (.ga x a) K ml fun xx9 h => h
    | .arg pos rest t acc => .go (.ar pos t (acc ++ [x]) rest) K ml fun xx9 h => W_arg h
    | .mo o nm pos args => .go (.me o x nm pos args) K ml fun xx9 h => h
    | .auO a op e rest => .go (.ga x a) (.auG x a op e rest :: K) ml fun xx9 h => h
    | .auG ov a op e rest => .go (.ev e) (.auE ov a op x rest :: K) ml fun xx9 h => h
    | .auE ov a op old rest => .go (.ip op old x) (.auS ov a rest :: K) ml fun xx9 h => h
    | .auS ov a rest => .go (.sa ov a x) (.un rest :: K) ml fun xx9 h => h
    | _ => .stop
theorem ok {Γ : Cx} (ht : Γ.φ.tr = Option.none) : Γ.φ.ok := ⟨ht, Γ.hk⟩
theorem inter_he {Γ : Cx} (ht : Γ.φ.tr = Option.none) (L : Addr) : interactive (Γ.φ.env L) = false := by unfold interactive; rw [(Cx.ok ht).e]; show (Γ.φ.sc.kind == _ && _) = false; rw [Γ.hk]; rfl
theorem ite_he {Γ : Cx} {t : PySem.Expr} {b1 b2 rest : List Stmt} {pos : Pos} {K : List Fm} {ml : Ml} {G : Led} (h : Γ.W (.cd t) (.ite b1 b2 :: .seq rest :: K) ml G) : Γ.W (.st (.If t b1 b2 pos :: rest)) K ml G :=
  R.ite (Wt.mono (show R.Wc _ _ _ _ _ _ _ _ _ _ from h) (fun xx9 xx9 xx9 q => Wt.mono (show Γ.T _ _ _ _ from q) (fun f m2 G2 q => by cases f <;> exact q) fun xx9 => id) fun xx9 => id)
noncomputable def stepS (s : Stmt) (rest : List Stmt) (K : List Fm) (ml : Ml) : Nx Γ (.st (s :: rest)) K ml :=
  match ht : Γ.φ.tr with
  | some _ => .stop
  | Option.none => match s with
  | .Return (some e) _ => .go (.ev e) (.ret :: K) ml fun xx9 h => R.ret h
  | .Return Option.none _ => .go (.sg (.f (.ret .none))) K ml fun xx9 h => R.retn h
  | .Expr e _ => if hn : noSw e = true then .go (.ev e) (.ex rest :: K) ml fun xx9 h => R.expr h (inter_he ht) fun xx9 => sw_he hn else .stop
  | .Assign [.Name x _] e _ => if hn : noSw e = true ∧ (Γ.φ.env 0).kindOf x = some .local then .go (.ev e) (.asg x rest :: K) ml fun xx9 h => R.assign h hn.2 (Cx.ok ht) fun xx9 => sw_he hn.1 else .stop
  | .Assign [.Attribute o a _] e _ => if hn : noSw e = true then .go (.ev e) (.asgO o a rest :: K) ml fun xx9 h => R.assignAttr h fun xx9 => sw_he hn else .stop
  | .Assign [.Subscript o i _] e _ => if hn : noSw e = true then .go (.ev e) (.asS1 o i rest :: K) ml fun xx9 h => R.assignSub h fun xx9 => sw_he hn else .stop
  | .Assign [.Tuple elts k tp] (.Call f a kw cp) _ => .go (.ev (.Call f a kw cp)) (.asT (.Tuple elts k tp) rest :: K) ml fun xx9 h => R.assignT h (fun xx9 => rfl) fun xx9 => rfl
  | .AugAssign (.Attribute o a _) op e _ => .go (.ev o) (.auO a op e rest :: K) ml fun xx9 h => R.augAttr h
  | .AugAssign (.Name x _) op e _ => if hk : (Γ.φ.env 0).kindOf x = some .local then match hv : ml.l.lookup x with | some v => .go (.ev e) (.auN x op v rest :: K) ml fun xx9 h => R.augName (look_at hv) h hk (Cx.ok ht) | Option.none => .stop else .stop
  | .If t b1 b2 _ => .go (.cd t) (.ite b1 b2 :: .seq rest :: K) ml fun xx9 h => ite_he h
  | .Raise (some e) Option.none _ => if hp : Γ.φ.top = false then .go (.ev e) (.rs :: K) ml fun xx9 h => R.raise h hp else .stop
  | .Pass _ => .go (.st rest) K ml fun xx9 h => R.pass h
  | _ => .stop
theorem and_he {Γ : Cx} {x : PySem.Expr} {r : List PySem.Expr} {pos : Pos} {K : List Fm} {ml : Ml} {G : Led} (h : Γ.W (.cd x) (.and r pos :: K) ml G) : Γ.W (.cd (.BoolOp .And (x :: r) pos)) K ml G :=
  R.andC (Wt.mono (show R.Wc _ _ _ _ _ _ _ _ _ _ from h) (fun b xx9 xx9 q => by cases b <;> exact q) fun xx9 => id)
theorem or_he {Γ : Cx} {x : PySem.Expr} {r : List PySem.Expr} {pos : Pos} {K : List Fm} {ml : Ml} {G : Led} (h : Γ.W (.cd x) (.or r pos :: K) ml G) : Γ.W (.cd (.BoolOp .Or (x :: r) pos)) K ml G :=
  R.orC (Wt.mono (show R.Wc _ _ _ _ _ _ _ _ _ _ from h) (fun b xx9 xx9 q => by cases b <;> exact q) fun xx9 => id)
noncomputable def stepC (e : PySem.Expr) (K : List Fm) (ml : Ml) : Nx Γ (.cd e) K ml :=
  match e with
  | .UnaryOp .Not x _ => .go (.cd x) (.not :: K) ml fun xx9 h => R.not h
  | .Compare l [op] [r] _ => if hn : behindInMarks op r = false then .go (.ev l) (.cL op r :: .tru :: K) ml fun xx9 h => R.cmp h hn else .stop
  | .Compare l [o1, o2] [r1, r2] _ => if hn : lastMarks [o1, o2] [r1, r2] = false then .go (.ev l) (.ch1 o1 r1 o2 r2 :: K) ml fun xx9 h => R.chain2 h hn else .stop
  | .BoolOp .And (x :: r) pos => .go (.cd x) (.and r pos :: K) ml fun xx9 h => and_he h
  | .BoolOp .Or (x :: r) pos => .go (.cd x) (.or r pos :: K) ml fun xx9 h => or_he h
  | .BoolOp .And [] _ => .go (.sg (.b true)) K ml fun xx9 h => R.andN h
  | .BoolOp .Or [] _ => .go (.sg (.b false)) K ml fun xx9 h => R.orN h
  | .Call f a k p => .go (.ev (.Call f a k p)) (.tru :: K) ml fun xx9 h => R.cond h fun xx9 => rfl
  | .Name x p => .go (.ev (.Name x p)) (.tru :: K) ml fun xx9 h => R.cond h fun xx9 => rfl
  | .Attribute o a p => .go (.ev (.Attribute o a p)) (.tru :: K) ml fun xx9 h => R.cond h fun xx9 => rfl
  | _ => .stop
theorem nameK_he {Γ : Cx} {x : Str} {pos : Pos} {v : Value} {K : List Fm} {ml : Ml} {G : Led} (ht : Γ.φ.tr = Option.none) (hd : (x == ("__debug__" : Str)) = false) (hk : (Γ.φ.env 0).kindOf x = some .globalImplicit) (hv : gtab.lookup x = some v) (h : Γ.W (.sg (.v v)) K ml G) : Γ.W (.ev (.Name x pos)) K ml G := R.nameK ((gtab_ok _).at hv).1 hk (Cx.ok ht) hd h
theorem nameB_he {Γ : Cx} {x : Str} {pos : Pos} {v : Value} {K : List Fm} {ml : Ml} {G : Led} (ht : Γ.φ.tr = Option.none) (hd : (x == ("__debug__" : Str)) = false) (hk : (Γ.φ.env 0).kindOf x = some .globalImplicit) (hv : btab.lookup x = some v) (h : Γ.W (.sg (.v v)) K ml G) : Γ.W (.ev (.Name x pos)) K ml G :=
  have q := (btab_ok Γ.w).at hv
  R.nameB q.1 q.2.1 (fun k => by rw [k] at q; exact absurd q.2.2 (by decide +kernel)) hk (Cx.ok ht) hd h
noncomputable def stepN (x : Str) (pos : Pos) (K : List Fm) (ml : Ml) : Nx Γ (.ev (.Name x pos)) K ml :=
  match ht : Γ.φ.tr with
  | some _ => .stop
  | Option.none =>
  if hd : (x == ("__debug__" : Str)) = false then
    match hk : (Γ.φ.env 0).kindOf x with
    | some .local => match hv : ml.l.lookup x with | some v => .go (.sg (.v v)) K ml fun xx9 h => R.name (look_at hv) hk (Cx.ok ht) hd h | Option.none => .stop
    | some .globalImplicit => match hv : gtab.lookup x with
      | some v => .go (.sg (.v v)) K ml fun xx9 h => nameK_he ht hd hk hv h
      | Option.none => match hb : btab.lookup x with | some v => .go (.sg (.v v)) K ml fun xx9 h => nameB_he ht hd hk hb h | Option.none => .stop
    | _ => .stop
  else .stop
theorem call_he0 {Γ : Cx} {x : Str} {p pos : Pos} {v : Value} {K : List Fm} {ml : Ml} {G : Led} (ht : Γ.φ.tr = Option.none) (hd : (x == ("__debug__" : Str)) = false) (hk : (Γ.φ.env 0).kindOf x = some .globalImplicit) (hv : gtab.lookup x = some v) (h : Γ.W (.cl (.cal v) []) K ml G) : Γ.W (.ev (.Call (.Name x p) [] [] pos)) K ml G :=
  R.call (R.nameK ((gtab_ok _).at hv).1 hk (Cx.ok ht) hd (R.callw0 ((gtab_ok _).at hv).2 h)) fun xx9 => rfl
theorem call_he1 {Γ : Cx} {x : Str} {p pos : Pos} {v : Value} {e : PySem.Expr} {r : List PySem.Expr} {K : List Fm} {ml : Ml} {G : Led} (ht : Γ.φ.tr = Option.none) (hd : (x == ("__debug__" : Str)) = false) (hs : noStar (e :: r) = true) (hk : (Γ.φ.env 0).kindOf x = some .globalImplicit) (hv : gtab.lookup x = some v) (h : Γ.W (.ar pos (.cal v) [] (e :: r)) K ml G) : Γ.W (.ev (.Call (.Name x p) (e :: r) [] pos)) K ml G :=
  R.call (R.nameK ((gtab_ok _).at hv).1 hk (Cx.ok ht) hd (R.callw ((gtab_ok _).at hv).2 h (fun L => star_he hs) fun L => star_any (star_tl hs))) fun xx9 => rfl
theorem call_heB {Γ : Cx} {x : Str} {p pos : Pos} {v : String} {e : PySem.Expr} {r : List PySem.Expr} {K : List Fm} {ml : Ml} {G : Led} (ht : Γ.φ.tr = Option.none) (hd : (x == ("__debug__" : Str)) = false) (hs : noStar (e :: r) = true) (hk : (Γ.φ.env 0).kindOf x = some .globalImplicit) (hv : btab.lookup x = some (.builtin v)) (h : Γ.W (.ar pos (.cal (.builtin v)) [] (e :: r)) K ml G) : Γ.W (.ev (.Call (.Name x p) (e :: r) [] pos)) K ml G :=
  R.call (nameB_he_c ht hd hk hv (R.callwB h (fun L => star_he hs) fun L => star_any (star_tl hs))) fun xx9 => rfl
where nameB_he_c {Γ : Cx} {x : Str} {pos : Pos} {v : String} {Q : Value → (Str → Option Value) → Led → Prop} {m : Str → Option Value} {G : Led} (ht : Γ.φ.tr = Option.none) (hd : (x == ("__debug__" : Str)) = false) (hk : (Γ.φ.env 0).kindOf x = some .globalImplicit) (hv : btab.lookup x = some (.builtin v)) (h : Q (.builtin v) m G) : R.We Γ.prog Γ.w Γ.φ Γ.dn Γ.un (.Name x pos) m G Q Γ.Z :=
  have q := (btab_ok Γ.w).at hv
  R.nameB q.1 q.2.1 (fun k => by rw [k] at q; exact absurd q.2.2 (by decide +kernel)) hk (Cx.ok ht) hd h
noncomputable def stepF (x : Str) (p pos : Pos) (args : List PySem.Expr) (K : List Fm) (ml : Ml) : Nx Γ (.ev (.Call (.Name x p) args [] pos)) K ml :=
  match ht : Γ.φ.tr with
  | some _ => .stop
  | Option.none =>
  if hd : (x == ("__debug__" : Str)) = false then
    match hk : (Γ.φ.env 0).kindOf x with
    | some .globalImplicit => match args with
      | [] => match hv : gtab.lookup x with | some v => .go (.cl (.cal v) []) K ml fun xx9 h => call_he0 ht hd hk hv h | Option.none => .stop
      | e :: r => if hs : noStar (e :: r) = true then
          match hv : gtab.lookup x with
          | some v => .go (.ar pos (.cal v) [] (e :: r)) K ml fun xx9 h => call_he1 ht hd hs hk hv h
          | Option.none => match hb : btab.lookup x with
            | some (.builtin v) => .go (.ar pos (.cal (.builtin v)) [] (e :: r)) K ml fun xx9 h => call_heB ht hd hs hk hb h
            | some _ => .stop
            | Option.none => .stop
        else .stop
    | _ => .stop
  else .stop
noncomputable def stepE (e : PySem.Expr) (K : List Fm) (ml : Ml) : Nx Γ (.ev e) K ml :=
  match e with
  | .Name x pos => stepN Γ x pos K ml
  | .Constant .none _ _ => .go (.sg (.v .none)) K ml fun xx9 h => R.none h
  | .Constant (.bool b) _ _ => .go (.sg (.v (.bool b))) K ml fun xx9 h => R.bool h
  | .Constant (.int i) _ _ => .tok (fun t => .sg (.v (.int i t))) fun xx9 h => R.int h
  | .Constant (.str i) _ _ => .tok (fun t => .sg (.v (.str i t))) fun xx9 h => R.str h
  | .Attribute o a _ => if hn : plainBase o = true then .go (.ev o) (.attr a :: K) ml fun xx9 h => R.attr h fun xx9 => attr_he hn else .stop
  | .Subscript o i _ => .go (.ev o) (.sb1 o i :: K) ml fun xx9 h => R.subscript h
  | .BinOp l op r _ => .go (.ev l) (.bL op r :: K) ml fun xx9 h => R.binop h
  | .UnaryOp .USub x _ => .go (.ev x) (.uo .USub :: K) ml fun xx9 h => R.unary h
  | .IfExp t a b _ => .go (.cd t) (.ife a b :: K) ml fun xx9 h => R.ifExp h
  | .Compare l [op] [r] _ => if hn : behindInMarks op r = false then .go (.ev l) (.cL op r :: K) ml fun xx9 h => R.cmpV h hn else .stop
  | .Call (.Name f p) args [] pos => stepF Γ f p pos args K ml
  | .Call (.Attribute o nm ap) args [] pos => if hn : plainBase o = true ∧ (ap.endLine == pos.line) = true ∧ noStar args = true ∧ args.length < 30 then .go (.ev o) (.mo o nm pos args :: K) ml fun xx9 h => R.methG (pl := fun env => do return (← importBound _ env).getD true) h fun xx9 => meth_he hn.1 hn.2.1 hn.2.2.1 hn.2.2.2 else .stop
  | .List elts pos => .go (.ar pos .lst [] elts) K ml fun xx9 h => R.list h
  | .Tuple elts _ pos => .go (.ar pos .tup [] elts) K ml fun xx9 h => R.tuple h
  | _ => .stop
theorem ar_nil {Γ : Cx} {pos : Pos} {t : Tgt} {acc : List Value} {K : List Fm} {ml : Ml} {G : Led} (h : Γ.W (.cl t acc) K ml G) : Γ.W (.ar pos t acc []) K ml G := R.anil (by rw [List.append_nil]; exact h)
noncomputable def step (c : Mc) (K : List Fm) (ml : Ml) : Nx Γ c K ml :=
  match c with
  | .sg s => match s with
    | .v x => stepV Γ x K ml
    | .f fl => match K with
      | .seq rest :: K => match fl with
        | .next => .go (.st rest) K ml fun xx9 h => h
        | .ret v => .go (.sg (.f (.ret v))) K ml fun xx9 h => h
        | .brk => .go (.sg (.f .brk)) K ml fun xx9 h => h
        | .cont => .go (.sg (.f .cont)) K ml fun xx9 h => h
      | _ => .stop
    | .b z => match K with
      | [] => .stop
      | k :: K => match k with
        | .not => .go (.sg (.b !z)) K ml fun xx9 h => h
        | .and r pos => match z with | true => .go (.cd (.BoolOp .And r pos)) K ml fun xx9 h => h | false => .go (.sg (.b false)) K ml fun xx9 h => h
        | .or r pos => match z with | true => .go (.sg (.b true)) K ml fun xx9 h => h | false => .go (.cd (.BoolOp .Or r pos)) K ml fun xx9 h => h
        | .ite b1 b2 => match z with | true => .go (.st b1) K ml fun xx9 h => h | false => .go (.st b2) K ml fun xx9 h => h
        | .ife a b => match z with | true => .go (.ev a) K ml fun xx9 h => h | false => .go (.ev b) K ml fun xx9 h => h
        | _ => .stop
    | .u => match K with | .un rest :: K => .go (.st rest) K ml fun xx9 h => h | _ => .stop
  | .st l => match l with | [] => .go (.sg (.f .next)) K ml fun xx9 h => R.nil h | s :: rest => stepS Γ s rest K ml
  | .cd e => stepC Γ e K ml
  | .ev e => stepE Γ e K ml
  | .ar pos t acc l => match l with
    | [] => .go (.cl t acc) K ml fun xx9 h => ar_nil h
    | e :: r => if hn : noStar (e :: r) = true then .go (.ev e) (.arg pos r t acc :: K) ml fun xx9 h => R.acons h fun xx9 => star_he hn else .stop
  | _ => .stop
noncomputable def N : Nat → Mc → List Fm → Ml → Led → Prop
  | 0, c, K, ml, G => Γ.W c K ml G
  | n + 1, c, K, ml, G => match Γ.step c K ml with
    | .stop => Γ.W c K ml G
    | .go c' K' ml' _ => N n c' K' ml' G
    | .tok f _ => ∀ t, N n (f t) K ml G
variable {Γ}
theorem N_ok : ∀ {n : Nat} {c : Mc} {K : List Fm} {ml : Ml} {G : Led}, N Γ n c K ml G → Γ.W c K ml G
  | 0, _, _, _, _, h => h
  | n + 1, c, K, ml, G, h => by
    unfold N at h
    generalize Γ.step c K ml = x at h
    cases x with
    | stop => exact h
    | go c' K' ml' ok => exact ok _ (N_ok h)
    | tok f ok => exact ok _ fun t => N_ok (h t)
end Cx
end
section
section
variable {prog : Program} {w : World} {A : Around} {E : Value → Shared → Prop} {s : Shared} {h₀ : Heap} {L : Addr} {m : Str → Option Value} {l e : Nat} {vs : Array Value} {news news' : Led}
theorem isList_L (N : News h₀ L s.heap news) (hm : (l, listOf vs e) ∈ news) : s.heap.IsList l vs := ⟨_, (N _ hm).1, rfl, e, rfl⟩
theorem len_L {Q : Value → Shared → Prop} (N : News h₀ L s.heap news) (hm : (l, listOf vs e) ∈ news) (hz : vs.size ≤ 1000) (h : Q (.int vs.size (s.toks + 1)) { s with toks := s.toks + 1 + 1 }) :
    wpAny (model prog w) A (call (.builtin "len") [.ref l]) Q E s := call_len_list (isList_L N hm) (by omega) h
theorem item_L {value slice : PySem.Expr} {k : Int} {u : Tok} {Q : Value → Shared → Prop} (N : News h₀ L s.heap news) (hm : (l, listOf vs e) ∈ news) (h0 : 0 ≤ k) (hz : vs.size ≤ 1000) (hk : k < vs.size)
    (h : ∀ v, vs[k.toNat]? = some v → Q v s) (hs : subscripted slice false (.ref l) (.int k u) = operate [.ref l, .int k u] (getItem (.ref l) (.int k u))) :
    wpAny (model prog w) A (subscriptTail value slice (.ref l) (.int k u)) Q E s := by
  have hx : vs[k.toNat]? = some vs[k.toNat] := Array.getElem?_eq_getElem (by omega)
  exact tail_any (isList_L N hm).typeIs slot_list_getitem.lookup (wpAny_getItem_list (isList_L N hm) h0 (by omega) hx (h _ hx)) hs
theorem itemR_L {value slice : PySem.Expr} {k : Int} {u : Tok} {Q : Value → Shared → Prop} (N : News h₀ L s.heap news) (hm : (l, listOf vs e) ∈ news) (h0 : 0 ≤ k) (hz : vs.size ≤ 1000) (hk : k < vs.size) (hv : ∀ v ∈ vs, v = .none ∨ ∃ y : Nat, v = .ref y)
    (h1 : vs[k.toNat]? = some .none → Q .none s) (h2 : ∀ y : Nat, vs[k.toNat]? = some (.ref y) → Q (.ref y) s) (hs : subscripted slice false (.ref l) (.int k u) = operate [.ref l, .int k u] (getItem (.ref l) (.int k u))) :
    wpAny (model prog w) A (subscriptTail value slice (.ref l) (.int k u)) Q E s := by
  refine item_L N hm h0 hz hk (fun v hx => ?_) hs
  rcases hv v (Array.mem_of_getElem? hx) with rfl | ⟨y, rfl⟩
  · exact h1 hx
  · exact h2 y hx
theorem set_L {k : Int} {u : Tok} {v : Value} {Q : Unit → Shared → Prop} (F : Fr h₀ L s.heap m) (N : News h₀ L s.heap news) (U : Upd l (listOf vs e) (listOf (vs.setIfInBounds k.toNat v) e) news news') (h0 : 0 ≤ k) (hz : vs.size ≤ 1000) (hk : k < vs.size)
    (h : ∀ h', Fr h₀ L h' m → News h₀ L h' news' → Q () { s with heap := h' }) : wpAny (model prog w) A (setItem (.ref l) (.int k u) v) Q E s := by
  obtain ⟨pre, post, rfl, rfl, a, c⟩ := U.split
  have hm : (l, listOf vs e) ∈ pre ++ (l, listOf vs e) :: post := List.mem_append_right _ (.head _)
  have hl := isList_L N hm
  have ho := (N _ hm).1
  obtain ⟨F1, N1⟩ := news_upd (f := Obj.mapSeq (·.setIfInBounds k.toNat v)) (o' := listOf (vs.setIfInBounds k.toNat v) e) F N a c (by simp [Obj.mapSeq]) rfl
  have hfit : k < 2 ^ 63 := by omega
  unfold setItem
  try with_reducible refine wpAny_holding ?_
  first | refine wpAny_bind (wpAny_pure ?_) | skip
  refine wpAny_bind (wpAny_sequenceKey hl.typeIs (by decide) ?_)
  refine wpAny_bind (wpAny_callSpecial?_slot (name := Str.ofString "__setitem__") hl.typeIs slot_list_setitem
    (wpAny_call_entry slot_list_setitem hl.typeIs entry_list_setitem ?_ (args_list_setitem _ _ _)))
  show wpAny _ _ (Builtin.List.listSubscript? (.int k u) >>= _) _ _ s
  refine wpAny_bind (wpAny_listSubscript_int (fitsIndex_of h0 hfit) ?_)
  clear hfit
  obtain ⟨j, rfl⟩ := Int.eq_ofNat_of_zero_le h0
  have hj : j < vs.size := by omega
  have hx' : vs[j]? = some vs[j] := Array.getElem?_eq_getElem hj
  show wpAny _ _ ((seqItemAt l j >>= fun r => pure (r.map (j, ·))) >>= _) _ _ s
  refine wpAny_bind (wpAny_bind (wpAny_seqItemAt ho rfl (wpAny_pure ?_)))
  rw [hx']
  show wpAny _ _ (setSeqItemAt l j v >>= _) _ _ s
  refine wpAny_bind (wpAny_setSeqItemAt ho rfl ?_)
  first
    | exact wpAny_bind (wpAny_pure (wpAny_pure ⟨.none, rfl, wpAny_pure (h _ F1 N1)⟩))
    | exact wpAny_pure ⟨.none, rfl, wpAny_pure (h _ F1 N1)⟩
theorem ext_L {b n2 : Nat} {ws : Array Value} {Q : Value → Shared → Prop} (F : Fr h₀ L s.heap m) (N : News h₀ L s.heap news) (hb : (b, listOf ws n2) ∈ news) (U : Upd l (listOf vs e) (listOf (vs ++ ws) (if (vs ++ ws).size == vs.size then e else e + 1)) news news') (hz : vs.size + ws.size ≤ 1000)
    (h : ∀ h', Fr h₀ L h' m → News h₀ L h' news' → Q .none { s with heap := h' }) : wpAny (model prog w) A (call (.builtin "list.extend") [.ref l, .ref b]) Q E s := by
  obtain ⟨pre, post, rfl, rfl, a, c⟩ := U.split
  have z := N (l, listOf vs e) (List.mem_append_right _ (.head _))
  have hl : Builtin.List.listTooLong (vs.size + ws.size) = false := by
    unfold Builtin.List.listTooLong
    simp only [decide_eq_false_iff_not, sizeLine_eq]
    omega
  obtain ⟨F1, N1⟩ := news_upd (f := Obj.mapSeq (· ++ ws)) (o' := listOf (vs ++ ws) (if (vs ++ ws).size == vs.size then e else e + 1)) F N a c (by simp only [Obj.mapSeq]) rfl
  exact call_meets PySem.F.slot_list_extend ⟨_, z.1, rfl⟩ PySem.F.entry_list_extend (PySem.F.args_list_extend_2 _ _) (PySem.AutoSeq1.list_extend_list_list_0 l vs e b ws n2 (by rw [hl]; simp) (by rw [sizeLine_eq]; omega) (by rw [sizeLine_eq]; omega)) ⟨z.1, (N _ hb).1, h _ F1 N1⟩
end
section
variable {prog : Program} {w : World} {A : Around} {E : Value → Shared → Prop} {s : Shared} {h₀ : Heap} {L : Addr} {m : Str → Option Value} {news : Led}
theorem isList_M {l e : Nat} {vs : List Value} (N : News h₀ L s.heap news) (hm : (l, listOf vs.toArray e) ∈ news) : s.heap.IsList l vs.toArray := ⟨_, (N _ hm).1, rfl, e, rfl⟩
theorem mul_L {b n : Nat} {x : Int} {u : Tok} {Q : Value → Shared → Prop} (F : Fr h₀ L s.heap m) (N : News h₀ L s.heap news) (hb : (b, listOf #[.none] n) ∈ news) (h1 : x ≤ 100) (h2 : -100 ≤ x)
    (h : ∀ (D : Nat) h', Fr h₀ L h' m → News h₀ L h' ((D, listOf (Array.replicate x.toNat .none) 0) :: news) → Above D news → Q (.ref D) { s with heap := h' }) : wpAny (model prog w) A (binaryOp .Mult (.ref b) (.int x u)) Q E s := by
  refine KMa.mul (vs := [Value.none]) (ws := List.replicate x.toNat Value.none) F N (isList_M N hb) (by omega) (by omega) (by simp only [List.length_cons, List.length_nil]; omega) ?_ (fun D h' F' N' hl => h D h' F' ?_ hl)
  · induction x.toNat with
    | zero => rfl
    | succ k ih => rw [List.replicate_succ, List.flatten_cons, ih, List.replicate_succ]; rfl
  · have e : (List.replicate x.toNat Value.none).toArray = Array.replicate x.toNat .none := by simp
    rw [e] at N'
    exact N'
end
section
variable {prog : Program} {w : World} {A : Around} {E : Value → Shared → Prop} {s : Shared} {h₀ : Heap} {L : Addr} {m : Str → Option Value} {news : Led}
theorem item_is {l e : Nat} {vs : Array Value} {v : Value} {value slice : PySem.Expr} {k : Int} {u : Tok} {Q : Value → Shared → Prop} (N : News h₀ L s.heap news) (hm : (l, listOf vs e) ∈ news) (h0 : 0 ≤ k) (hz : vs.size ≤ 1000) (hx : vs[k.toNat]? = some v)
    (h : Q v s) (hs : subscripted slice false (.ref l) (.int k u) = operate [.ref l, .int k u] (getItem (.ref l) (.int k u))) :
    wpAny (model prog w) A (subscriptTail value slice (.ref l) (.int k u)) Q E s := by
  have hk : k < vs.size := by
    obtain ⟨hk, -⟩ := Array.getElem?_eq_some_iff.mp hx
    omega
  exact item_L N hm h0 hz hk (fun v' hx' => by rw [hx] at hx'; cases hx'; exact h) hs
theorem grown_at {vs : Array Value} {q : Int} (h0 : vs.size ≤ q) : (vs ++ Array.replicate (q + 1 - vs.size).toNat .none)[q.toNat]? = some Value.none := by
  rw [Array.getElem?_append_right (by omega), Array.getElem?_replicate, if_pos (by omega)]
theorem grown_size {vs : Array Value} {q : Int} (h0 : vs.size ≤ q) : ((vs ++ Array.replicate (q + 1 - vs.size).toNat Value.none).size : Int) = q + 1 := by
  rw [Array.size_append, Array.size_replicate]; omega
theorem set_at {vs : Array Value} {q : Nat} {v v' : Value} (h : vs[q]? = some v') : (vs.setIfInBounds q v)[q]? = some v := by
  obtain ⟨hk, -⟩ := Array.getElem?_eq_some_iff.mp h
  simp [hk]
theorem app_at {vs ws : Array Value} {q : Nat} {v : Value} (h : vs[q]? = some v) : (vs ++ ws)[q]? = some v := by
  obtain ⟨hk, -⟩ := Array.getElem?_eq_some_iff.mp h
  rw [Array.getElem?_append_left hk]; exact h
theorem at_lt {vs : Array Value} {q : Int} {v : Value} (h0 : 0 ≤ q) (h : vs[q.toNat]? = some v) : q < vs.size := by
  obtain ⟨hk, -⟩ := Array.getElem?_eq_some_iff.mp h
  omega
end
end
section
section
variable {prog : Program} {w : World} {A : Around} {E : Value → Shared → Prop} {s : Shared} {h₀ : Heap} {L : Addr} {m : Str → Option Value} {news : Led} {d : Nat} {o : Obj} {kvs : List (Str × Value)} {k : Str} {u : Tok} {v : Value} {g : Obj → Led}
theorem loN {d : Nat} (h : 1 < d) : (d == sysModules) = false := beq_eq_false_iff_ne.mpr (Nat.ne_of_gt h)
theorem notin_old {Q : Value → Shared → Prop} (N : News h₀ L s.heap news) (hp : (d, o) ∈ news) (hd : o.IsDictOf (strKind prog w) kvs) (lo : 1 < d) (hv : valueAt kvs k = some v) (h : Q (.bool false) { s with toks := s.toks + 1 }) :
    wpAny (model prog w) A (compareOp .NotIn (.str k u) (.ref d)) Q E s := kdg_notin N hp hd (loN lo) (strKind_is _ _ _ _) true (by rw [hv]; rfl) h
theorem notin_new {Q : Value → Shared → Prop} (N : News h₀ L s.heap news) (hp : (d, o) ∈ news) (hd : o.IsDictOf (strKind prog w) kvs) (lo : 1 < d) (hv : valueAt kvs k = none) (h : Q (.bool true) { s with toks := s.toks + 1 }) :
    wpAny (model prog w) A (compareOp .NotIn (.str k u) (.ref d)) Q E s := kdg_notin N hp hd (loN lo) (strKind_is _ _ _ _) false (by rw [hv]; rfl) h
theorem item_D {value slice : PySem.Expr} {Q : Value → Shared → Prop} (N : News h₀ L s.heap news) (hp : (d, o) ∈ news) (hd : o.IsDictOf (strKind prog w) kvs) (hv : valueAt kvs k = some v) (h : Q v { s with toks := s.toks + 1 })
    (hs : subscripted slice false (.ref d) (.str k u) = operate [.ref d, .str k u] (getItem (.ref d) (.str k u))) :
    wpAny (model prog w) A (subscriptTail value slice (.ref d) (.str k u)) Q E s := kdt_tail N hp hd (kdt_getItem N hp hd (strKind_is _ _ _ _) hv h) hs
theorem set_D {Q : Unit → Shared → Prop} (F : Fr h₀ L s.heap m) (N : News h₀ L s.heap news) (U : UpdF d o news g) (hd : o.IsDictOf (strKind prog w) kvs) (hn : valueAt kvs k = none) (hsz : kvs.length ≤ 1000)
    (h : ∀ h' o', Fr h₀ L h' m → News h₀ L h' (g o') → o'.IsDictOf (strKind prog w) (kvs ++ [(k, v)]) → Q () { s with heap := h', toks := s.toks + 1 }) : wpAny (model prog w) A (setItem (.ref d) (.str k u) v) Q E s :=
  kda_set F N U hd (strKind_is _ _ _ _) (Nat.le_trans hsz (by decide)) fun h' o' F' N' hd' => h h' o' F' N' (stored_absent hn v ▸ hd')
theorem get_D {Q : Value → Shared → Prop} (N : News h₀ L s.heap news) (hp : (d, o) ∈ news) (hd : o.IsDictOf (strKind prog w) kvs) (lo : 1 < d) {x : Option Value} (hl : valueAt kvs k = x) (h : Q (x.getD .none) { s with toks := s.toks + 1 }) :
    wpAny (model prog w) A (call (.builtin "dict.get") [.ref d, .str k u]) Q E s := kdg_get1 N hp hd (loN lo) (strKind_is _ _ _ _) x hl h
theorem valueAt_snoc (hn : valueAt kvs k = none) : valueAt (kvs ++ [(k, v)]) k = some v := by
  unfold valueAt at *
  rw [List.find?_append]
  rw [Option.map_eq_none_iff] at hn
  rw [hn]
  simp
end
end
section
noncomputable def nth : Led → Nat → Option (Addr × Obj)
  | [], _ => Option.none
  | p :: _, 0 => some p
  | _ :: r, k + 1 => nth r k
theorem at_ (k : Nat) {G : Led} {p : Addr × Obj} (h : nth G k = some p) : p ∈ G := by
  induction G generalizing k with
  | nil => cases h
  | cons q r ih =>
    cases k with
    | zero => cases h; exact .head _
    | succ k => exact .tail _ (ih k h)
noncomputable def pick (G : Led) : List Nat → Led → Led
  | [], R => R
  | k :: ks, R => match nth G k with | some p => p :: pick G ks R | Option.none => pick G ks R
theorem has_pick {G : Led} (ks : List Nat) (d : Nat) : Has (pick G ks (G.drop d)) G := by
  induction ks with
  | nil => exact fun p hp => List.mem_of_mem_drop hp
  | cons k ks ih =>
    unfold pick
    cases e : nth G k with
    | none => exact ih
    | some p => exact has_cons (at_ k e) ih
theorem perm (ks : List Nat) (d : Nat) {G G0 : Led} (h : pick G ks (G.drop d) = G0) : Has G0 G := h ▸ has_pick ks d
theorem Tel.ofM {prog : Program} {w : World} {f : Addr} {args : List Value} {dn un' : Nat} {news : Led} {post : Value → Led → Prop} {exc : Led → Prop} {name qual : Str} {params : Arguments} {body : List Stmt} {scope : Scope} {dV kV doc pm cdv ct oc : Value} {an od : Option Addr} {osl : Array (Option Value)} {binds : List (Str × Value)}
    (ho : (hp0.heap_1_39 w.params).lookup f = some ⟨oc, od, .func (fnOf name qual params body scope dV kV doc pm an cdv ct), osl⟩) (hcd : codeIn (hp0.heap_1_39 w.params) cdv qual = true)
    (hbind : ∀ s, (hp0.heap_1_39 w.params).In s.heap → BindsTo s (fnOf name qual params body scope dV kV doc pm an cdv ct) ⟨args, []⟩ binds) (hloc : ∀ y ∈ binds, scope.names.lookup y.1 = some .local)
    (hco : scope.isCoroutine = false) (hgen : scope.isGenerator = false) (hk : scope.kind = .function) (hcell : ∀ x ∈ scope.names, x.2 ≠ .cell)
    (h : ∀ (Q : Flow → (Str → Option Value) → Led → Prop) (Z : Led → Prop), (∀ v m G', post v G' → Q (.ret v) m G') → (∀ m G', post .none G' → Q .next m G') → (∀ G', exc G' → Z G') → let Γ : Cx := ⟨prog, w, ⟨qual, scope, f, cdv, [], Option.none, Option.none, false⟩, dn, un', Q, Z, hk⟩; Cx.N Γ 90 (.st body) [] ⟨binds.reverse, fun xx9 => Option.none⟩ news) :
    Tel prog w f args (dn + 1) (un' + 3) news post exc :=
  Tel.ofW ho hcd hbind hloc hco hgen hk hcell (look_fn ▸ Cx.N_ok (h (fun fl xx9 G' => post (match fl with | .ret v => v | _ => .none) G') _ (fun xx9 xx9 xx9 q => q) (fun xx9 xx9 q => q) fun xx9 q => q))
theorem TelC.ofM {prog : Program} {w : World} {f : Addr} {args : Args} {dn un' : Nat} {news : Led} {post : Value → Led → Prop} {exc : Led → Prop} {name qual : Str} {params : Arguments} {body : List Stmt} {scope : Scope} {dV kV doc pm cdv ct oc : Value} {an od : Option Addr} {osl : Array (Option Value)} {binds : List (Str × Value)}
    (ho : (hp0.heap_1_39 w.params).lookup f = some ⟨oc, od, .func (fnOf name qual params body scope dV kV doc pm an cdv ct), osl⟩) (hcd : codeIn (hp0.heap_1_39 w.params) cdv qual = true)
    (hbind : ∀ s, (hp0.heap_1_39 w.params).In s.heap → BindsTo s (fnOf name qual params body scope dV kV doc pm an cdv ct) args binds) (hloc : ∀ y ∈ binds, scope.names.lookup y.1 = some .local)
    (hco : scope.isCoroutine = false) (hgen : scope.isGenerator = false) (hk : scope.kind = .function) (hcell : ∀ x ∈ scope.names, x.2 ≠ .cell)
    (h : ∀ (Q : Flow → (Str → Option Value) → Led → Prop) (Z : Led → Prop), (∀ v m G', post v G' → Q (.ret v) m G') → (∀ m G', post .none G' → Q .next m G') → (∀ G', exc G' → Z G') → let Γ : Cx := ⟨prog, w, ⟨qual, scope, f, cdv, [], Option.none, Option.none, false⟩, dn, un', Q, Z, hk⟩; Cx.N Γ 90 (.st body) [] ⟨binds.reverse, fun xx9 => Option.none⟩ news) :
    TelC prog w f args (dn + 1) (un' + 3) news post exc :=
  TelC.ofW ho hcd hbind hloc hco hgen hk hcell (look_fn ▸ Cx.N_ok (h (fun fl xx9 G' => post (match fl with | .ret v => v | _ => .none) G') _ (fun xx9 xx9 xx9 q => q) (fun xx9 xx9 q => q) fun xx9 q => q))
namespace M
variable {Γ : Cx} {K : List Fm} {ml : Ml} {G : Led}
open Cx
noncomputable def sem : Mc → Option (Sem Value)
  | .cl t vs => some (t.sem vs)
  | .ip op a b => some (inplaceOp op a b)
  | .ga o a => some (getAttr o a true)
  | .bo op a b => some (binaryOp op a b)
  | .co op a b => some (compareOp op a b)
  | .gi e sl o i => some (subscriptTail e sl o i)
  | .uo op v => some (unaryOp op v)
  | _ => Option.none
theorem sem_W {c : Mc} {t : Sem Value} (hc : sem c = some t) (h : Γ.T (fun xx9 => t) (look ml) G (fun v => Γ.run K (.v v))) : Γ.W c K ml G := by
  cases c <;> first | (cases hc; exact h) | cases hc
theorem leaf {c : Mc} {t : Sem Value} (hc : sem c = some t) (v : Value) (rule : ∀ {A : Around} {s : Shared} {Q' : Value → Shared → Prop} {E' : Value → Shared → Prop}, Q' v s → wpAny (model Γ.prog Γ.w) A t Q' E' s) (h : Γ.N 90 (.sg (.v v)) K ml G) : Γ.W c K ml G :=
  sem_W hc (Wt.val (v := v) (N_ok h) fun h => rule h)
theorem leaft {c : Mc} {t : Sem Value} (hc : sem c = some t) {f : Tok → Value} (rule : ∀ {A : Around} {s : Shared} {Q' : Value → Shared → Prop} {E' : Value → Shared → Prop}, Q' (f s.toks) { s with toks := s.toks + 1 } → wpAny (model Γ.prog Γ.w) A t Q' E' s) (h : ∀ tk, Γ.N 90 (.sg (.v (f tk))) K ml G) : Γ.W c K ml G :=
  sem_W hc (Wt.valt (f := f) (fun tk => N_ok (h tk)) fun h => rule h)
theorem leafN {c : Mc} {t : Sem Value} (hc : sem c = some t) (v : Value) (rule : ∀ {A : Around} {s : Shared} {h₀ : Heap} {L : Addr} {m : Str → Option Value} {Q' : Value → Shared → Prop} {E' : Value → Shared → Prop}, Fr h₀ L s.heap m → (hp0.heap_1_39 Γ.w.params).In h₀ → News h₀ L s.heap G → (∀ tk, Q' v { s with toks := tk }) → wpAny (model Γ.prog Γ.w) A t Q' E' s) (h : Γ.N 90 (.sg (.v v)) K ml G) : Γ.W c K ml G := by
  refine sem_W hc ?_
  intro p loose mean mg mb dp un gd outer A₀ base h₀ L s Q' E' B F X N T hd hu ret exc
  exact rule F X N fun tk => ret v _ G s.heap tk F N (N_ok h)
theorem leafC {c : Mc} {t : Sem Value} {P : Value → Led → Prop} (hc : sem c = some t) (rule : ∀ {A : Around} {s : Shared} {h₀ : Heap} {L : Addr} {m : Str → Option Value} {Q' : Value → Shared → Prop} {E' : Value → Shared → Prop}, Fr h₀ L s.heap m → (hp0.heap_1_39 Γ.w.params).In h₀ → News h₀ L s.heap G → (∀ v G' h' tk, P v G' → Fr h₀ L h' m → News h₀ L h' G' → Q' v { s with heap := h', toks := tk }) → wpAny (model Γ.prog Γ.w) A t Q' E' s) (h : ∀ v G', P v G' → Γ.N 90 (.sg (.v v)) K ml G') : Γ.W c K ml G := by
  refine sem_W hc ?_
  intro p loose mean mg mb dp un gd outer A₀ base h₀ L s Q' E' B F X N T hd hu ret exc
  exact rule F X N fun v G' h' tk hp F' N' => ret v _ G' h' tk F' N' (N_ok (h v G' hp))
theorem led {c : Mc} (G0 : Led) (hc : match c with | .sg _ => False | _ => True) (hs : Has G0 G) (h : Γ.W c K ml G0) : Γ.W c K ml G := by
  unfold Cx.W at h ⊢
  cases c with
  | sg s => exact hc.elim
  | _ => exact Wt.led h hs
theorem tel {f : Addr} {args : List Value} {dn1 un1 : Nat} {G0 : Led} {post : Value → Led → Prop} {exc : Led → Prop} (C : Tel Γ.prog Γ.w f args dn1 un1 G0 post exc) (hs : Has G0 G) (h1 : dn1 ≤ Γ.dn) (h2 : un1 ≤ Γ.un) (z : ∀ G', exc G' → Γ.Z G') (k : ∀ r G', post r G' → Γ.N 90 (.sg (.v r)) K ml G') : Γ.W (.cl (.cal (.ref f)) args) K ml G := Wt.tel C hs Γ.hk h1 h2 (fun r G' q => N_ok (k r G' q)) z
theorem raised {e : Addr} {d : Option Addr} {t : Addr} {G2 : Led} (hne : ∀ q ∈ G2, q.1 ≠ e) (z : Γ.Z G2) : Γ.W (.sg (.v (.ref e))) (.rs :: K) ml ((e, excO d t) :: G2) := ⟨e, d, t, G2, rfl, rfl, hne, z⟩
theorem new {C fI : Addr} {args : List Value} {dn1 un1 : Nat} {post : Nat → Nat → Led → Prop} (hm : makesIn (hp0.heap_1_39 Γ.w.params) C = true) (hi : findIn (hp0.heap_1_39 Γ.w.params) (.ref C) "__init__" = some (some (.ref fI))) (hf : isFn (hp0.heap_1_39 Γ.w.params) (.ref fI) = true) (h1 : dn1 + 2 ≤ Γ.dn) (h2 : un1 + 8 ≤ Γ.un)
    (c : ∀ x dx, Above dx G → @LT.lt Nat _ dx x → TelC Γ.prog Γ.w fI ⟨.ref x :: args, []⟩ dn1 un1 ((x, instObj C dx) :: (dx, dictOf [] 0) :: G) (fun r G' => r = .none ∧ post x dx G') (fun xx9 => False))
    (h : ∀ x dx G', Above dx G → @LT.lt Nat _ dx x → post x dx G' → Γ.N 90 (.sg (.v (.ref x))) K ml G') : Γ.W (.cl (.cal (.ref C)) args) K ml G := by
  refine R.new hm hi hf Γ.hk h1 h2 fun x dx a1 a2 => ?_
  have C1 := c x dx a1 a2
  intro p loose mean mg mb dp un gd cn cs a ccd cl outer A₀ base h₀ L m s R B F X N T hk hd hu ret exc
  exact C1 p loose mean mg mb dp un gd cn cs a ccd cl outer A₀ base h₀ L m s R B F X N T hk hd hu (fun r G' h' tk' F' N' q => ret r G' h' tk' F' N' ⟨q.1, N_ok (h x dx G' a1 a2 q.2)⟩) exc
theorem methW {o : PySem.Expr} {ov : Value} {nm : Str} {pos : Pos} {args : List PySem.Expr} {f : Value} {first : List Value}
    (rule : ∀ {A : Around} {s : Shared} {h₀ : Heap} {L : Addr} {m : Str → Option Value} {pl : Sem Bool} {Q' : Value × List Value → Shared → Prop} {E' : Value → Shared → Prop}, Fr h₀ L s.heap m → (hp0.heap_1_39 Γ.w.params).In h₀ → News h₀ L s.heap G → (∀ tk, Q' (f, first) { s with toks := tk }) → wpAny (model Γ.prog Γ.w) A (getMethod ov nm pl) Q' E' s)
    (h : Γ.T (fun env => callWith pos f first (backTo pos (starEach args env)) []) (look ml) G (fun v => Γ.run K (.v v))) : Γ.W (.me o ov nm pos args) K ml G := by
  intro p loose mean mg mb dp un gd outer A₀ base h₀ L s Q' E' B F X N T hd hu ret exc
  exact rule F X N fun tk => ret _ _ _ _ _ F N h
theorem fnArgs {f : Value} {first : List Value} {pos : Pos} {args : List PySem.Expr} (hk : keepIn (hp0.heap_1_39 Γ.w.params) f = true) (hs : noStar args = true) (h : Γ.N 90 (match args with | [] => .cl (.cal f) (first ++ []) | _ :: _ => .ar pos (.cal f) first args) K ml G) : Γ.T (fun env => callWith pos f first (backTo pos (starEach args env)) []) (look ml) G (fun v => Γ.run K (.v v)) := by
  cases args with
  | nil => exact R.callw0 hk (N_ok h)
  | cons e r => exact R.callw hk (N_ok h) (fun L => star_he hs) fun L => star_any (star_tl hs)
theorem biArgs {id : String} {first : List Value} {pos : Pos} {e : PySem.Expr} {r : List PySem.Expr} (hs : noStar (e :: r) = true) (h : Γ.N 90 (.ar pos (.cal (.builtin id)) first (e :: r)) K ml G) : Γ.T (fun env => callWith pos (.builtin id) first (backTo pos (starEach (e :: r) env)) []) (look ml) G (fun v => Γ.run K (.v v)) := by
  have h := N_ok h
  unfold Cx.W at h
  intro p loose mean mg mb dp un gd outer A₀ base h₀ L s Q' E' B F X N T hd hu ret exc
  have k := h p loose mean mg mb dp un gd outer A₀ base h₀ L s (fun vs s1 => wpAny (model Γ.prog Γ.w) _ (PySem.call (.builtin id) (first ++ vs)) Q' E' s1) E' B F X N T hd hu (fun vs m1 G1 h1 t1 F1 N1 q => q p loose mean mg mb dp un gd outer A₀ base h₀ L { s with heap := h1, toks := t1 } _ E' B F1 X N1 T hd hu ret exc) exc
  dsimp only at k ⊢
  rw [star_he hs] at k ⊢
  exact callWith_builtin (by show (false || (backTo pos (starEach r (Γ.φ.env L))).any (·.1)) = false; rw [star_any (star_tl hs)]; rfl) (evalArgs_plain k)
theorem meth {o : PySem.Expr} {nm : Str} {pos : Pos} {args : List PySem.Expr} {x C dx f : Addr} {es : List DictEntry} {n : Nat} (h1 : (x, instObj C dx) ∈ G) (h2 : (dx, dictOf es n) ∈ G) (g : ME Γ.w C nm f) (hl : getL nm es = some Option.none) (hs : noStar args = true) (h : Γ.N 90 (match args with | [] => .cl (.cal (.ref f)) [.ref x] | _ :: _ => .ar pos (.cal (.ref f)) [.ref x] args) K ml G) : Γ.W (.me o (.ref x) nm pos args) K ml G :=
  methW (fun F X N q => method_inst F X (InstAt.of_news N h1 h2) g.1 g.2.1 g.2.2.1 hl (q _)) (fnArgs (first := [.ref x]) g.2.2.2 hs (by cases args <;> exact h))
theorem methC {o : PySem.Expr} {nm : Str} {pos : Pos} {args : List PySem.Expr} {C f : Addr} {mc : Value} (g1 : specialIn (hp0.heap_1_39 Γ.w.params) (.ref C) "__getattribute__" = some (some (.builtin "type.__getattribute__"))) (g2 : typeIn (hp0.heap_1_39 Γ.w.params) (.ref C) = some mc) (g3 : readsIn (hp0.heap_1_39 Γ.w.params) C mc = true) (g4 : findCls (hp0.heap_1_39 Γ.w.params) (.ref C) mc nm = some (.val (.ref f))) (g5 : keepIn (hp0.heap_1_39 Γ.w.params) (.ref f) = true) (hs : noStar args = true) (h : Γ.N 90 (match args with | [] => .cl (.cal (.ref f)) [] | _ :: _ => .ar pos (.cal (.ref f)) [] args) K ml G) : Γ.W (.me o (.ref C) nm pos args) K ml G :=
  methW (fun F X N q => method_of_cls F X g1 (cls_val F X g2 g3 g4 rfl (q _))) (fnArgs (first := []) g5 hs (by cases args <;> exact h))
theorem methL {o : PySem.Expr} {nm : Str} {id : String} {pos : Pos} {e : PySem.Expr} {r : List PySem.Expr} {l n : Nat} {vs : Array Value} (h1 : (l, listOf vs n) ∈ G) (slot : Slot "list" nm id) (hty : typeOf (.builtin id) = pure (.type "method_descriptor")) (hs : noStar (e :: r) = true) (h : Γ.N 90 (.ar pos (.cal (.builtin id)) [.ref l] (e :: r)) K ml G) : Γ.W (.me o (.ref l) nm pos (e :: r)) K ml G :=
  methW (fun xx9 xx9 N q => kl_method N h1 slot hty (q _)) (biArgs hs h)
theorem methD {α : Type} [DecidableEq α] {knd : KeyKind Γ.prog Γ.w α} {kvs : List (α × Value)} {o : PySem.Expr} {nm : Str} {id : String} {pos : Pos} {e : PySem.Expr} {r : List PySem.Expr} {d : Nat} {od : Obj} (h1 : (d, od) ∈ G) (hd : od.IsDictOf knd kvs) (slot : Slot "dict" nm id) (ty : typeOf (.builtin id) = pure (.type "method_descriptor")) (hs : noStar (e :: r) = true) (h : Γ.N 90 (.ar pos (.cal (.builtin id)) [.ref d] (e :: r)) K ml G) : Γ.W (.me o (.ref d) nm pos (e :: r)) K ml G :=
  methW (fun xx9 xx9 N q => kob_method slot ty N h1 hd (q _)) (biArgs hs h)
theorem getOwn {x C dx : Addr} {es : List DictEntry} {n : Nat} {a : Str} {v : Value} (h1 : (x, instObj C dx) ∈ G) (h2 : (dx, dictOf es n) ∈ G) (g : GA Γ.w C a) (hl : getL a es = some (some v)) (hv : handedIn v = true) (h : Γ.N 90 (.sg (.v v)) K ml G) : Γ.W (.ga (.ref x) a) K ml G := R.getOwn h1 h2 g hl hv (N_ok h)
theorem setOwn {x C dx : Addr} {es es' : List DictEntry} {n n' : Nat} {a : Str} {v : Value} {G' : Led} (h1 : (x, instObj C dx) ∈ G) (h2 : (dx, dictOf es n) ∈ G) (g : SA Γ.w C a) (hl : (getL a es).isSome = true) (e : ∀ tk, (putL a (PyData.keyHash Γ.w.params a) (.str a tk) v es, putN a es n) = (es', n')) (U : Upd dx (dictOf es n) (dictOf es' n') G G') (hz : es'.length ≤ 1000) (h : Γ.N 90 (.sg .u) K ml G') : Γ.W (.sa (.ref x) a v) K ml G := R.setOwn h1 h2 g hl e U hz (N_ok h)
theorem setNew {x C dx : Addr} {es : List DictEntry} {n : Nat} {a : Str} {v : Value} {G0 : Led} (hx : x ≠ dx) (hr : ∀ p ∈ G0, p.1 ≠ dx) (g : SA Γ.w C a) (hl : getL a es = some Option.none) (hz : es.length ≤ 900) (h : ∀ hs tk, Γ.N 90 (.sg .u) K ml ((x, instObj C dx) :: (dx, dictOf (es ++ [⟨hs, .str a tk, v⟩]) (n + 1)) :: G0)) : Γ.W (.sa (.ref x) a v) K ml ((x, instObj C dx) :: (dx, dictOf es n) :: G0) := R.setNew hx hr g hl hz fun hs tk => N_ok (h hs tk)
theorem glob {x : Str} {pos : Pos} {v : Value} (e : nsIn (hp0.heap_1_39 Γ.w.params) mainGlobals x = some (some v)) (hk : (Γ.φ.env 0).kindOf x = some .globalImplicit) (hd : (x == ("__debug__" : Str)) = false) (h : Γ.N 90 (.sg (.v v)) K ml G) (ht : Γ.φ.tr = Option.none := by rfl) : Γ.W (.ev (.Name x pos)) K ml G := R.nameK e hk (Cx.ok ht) hd (N_ok h)
theorem max {a b : Int} {t u : Tok} (h : ∀ tk, Γ.N 90 (.sg (.v (.int (if b > a then b else a) tk))) K ml G) : Γ.W (.cl (.cal (.builtin "max")) [.int a t, .int b u]) K ml G := by
  intro p loose mean mg mb dp un gd outer A₀ base h₀ L s Q' E' B F X N T hd hu ret exc
  exact max_two_N rfl F N fun h' tk F' N' => ret _ _ _ _ _ F' N' (N_ok (h _))
theorem newList {vs : List Value} (hz : vs.length ≤ 100) (h : ∀ l, Above l G → Γ.N 90 (.sg (.v (.ref l))) K ml ((l, listOf vs.toArray 0) :: G)) : Γ.W (.cl .lst vs) K ml G := R.newList hz fun l a => N_ok (h l a)
theorem newTuple {vs : List Value} (hz : vs.length ≤ 100) (h : ∀ D, Above D G → Γ.N 90 (.sg (.v (.ref D))) K ml ((D, ({ cls := .type "tuple", data := .seq vs.toArray } : Obj)) :: G)) : Γ.W (.cl .tup vs) K ml G := R.newTuple hz fun l a => N_ok (h l a)
theorem newDict {pos : Pos} (h : ∀ d o, Above d G → o.IsDictOf (strKind Γ.prog Γ.w) [] → o.IsDictOf (intKind Γ.prog Γ.w) [] → Γ.N 90 (.sg (.v (.ref d))) K ml ((d, o) :: G)) : Γ.W (.ev (.Dict [] [] pos)) K ml G := R.newDict fun d o a b c => N_ok (h d o a b c)
theorem iadd {a b : Int} {t u : Tok} (h : ∀ tk, Γ.N 90 (.sg (.v (.int (a + b) tk))) K ml G) : Γ.W (.ip .Add (.int a t) (.int b u)) K ml G := R.iadd fun tk => N_ok (h tk)
theorem isub {a b : Int} {t u : Tok} (h : ∀ tk, Γ.N 90 (.sg (.v (.int (a - b) tk))) K ml G) : Γ.W (.ip .Sub (.int a t) (.int b u)) K ml G := R.isub fun tk => N_ok (h tk)
theorem add {a b : Int} {t u : Tok} (h : ∀ tk, Γ.N 90 (.sg (.v (.int (a + b) tk))) K ml G) : Γ.W (.bo .Add (.int a t) (.int b u)) K ml G := leaft (f := .int (a + b)) rfl (fun h => add_int h) h
theorem sub {a b : Int} {t u : Tok} (h : ∀ tk, Γ.N 90 (.sg (.v (.int (a - b) tk))) K ml G) : Γ.W (.bo .Sub (.int a t) (.int b u)) K ml G := leaft (f := .int (a - b)) rfl (fun h => sub_int h) h
theorem neg {a : Int} {t : Tok} (h : ∀ tk, Γ.N 90 (.sg (.v (.int (-a) tk))) K ml G) : Γ.W (.uo .USub (.int a t)) K ml G := leaft (f := .int (-a)) rfl (fun h => neg_int h) h
theorem lt {a b : Int} {t u : Tok} (z : Bool) (hz : decide (a < b) = z) (h : Γ.N 90 (.sg (.v (.bool z))) K ml G) : Γ.W (.co .Lt (.int a t) (.int b u)) K ml G := leaf rfl (.bool z) (fun h => lt_int (by rw [hz]; exact h)) h
theorem le {a b : Int} {t u : Tok} (z : Bool) (hz : decide (a ≤ b) = z) (h : Γ.N 90 (.sg (.v (.bool z))) K ml G) : Γ.W (.co .LtE (.int a t) (.int b u)) K ml G := leaf rfl (.bool z) (fun h => le_int (by rw [hz]; exact h)) h
theorem gt {a b : Int} {t u : Tok} (z : Bool) (hz : decide (b < a) = z) (h : Γ.N 90 (.sg (.v (.bool z))) K ml G) : Γ.W (.co .Gt (.int a t) (.int b u)) K ml G := leaf rfl (.bool z) (fun h => gt_int (by rw [hz]; exact h)) h
theorem ge {a b : Int} {t u : Tok} (z : Bool) (hz : decide (b ≤ a) = z) (h : Γ.N 90 (.sg (.v (.bool z))) K ml G) : Γ.W (.co .GtE (.int a t) (.int b u)) K ml G := leaf rfl (.bool z) (fun h => ge_int (by rw [hz]; exact h)) h
theorem eqI {a b : Int} {t u : Tok} (z : Bool) (hz : (a == b) = z) (h : Γ.N 90 (.sg (.v (.bool z))) K ml G) : Γ.W (.co .Eq (.int a t) (.int b u)) K ml G := leaf rfl (.bool z) (fun h => eq_int (by rw [hz]; exact h)) h
theorem neI {a b : Int} {t u : Tok} (z : Bool) (hz : (a != b) = z) (h : Γ.N 90 (.sg (.v (.bool z))) K ml G) : Γ.W (.co .NotEq (.int a t) (.int b u)) K ml G := leaf rfl (.bool z) (fun h => ne_int (by rw [hz]; exact h)) h
theorem eqS {a b : Str} {t u : Tok} (z : Bool) (hz : (a == b) = z) (h : Γ.N 90 (.sg (.v (.bool z))) K ml G) : Γ.W (.co .Eq (.str a t) (.str b u)) K ml G := leaf rfl (.bool z) (fun h => eq_str (by rw [hz]; exact h)) h
theorem eqSW {a b : Str} {t u : Tok} (z : Bool) (hz : (a == b) = z) (h : Γ.W (.sg (.v (.bool z))) K ml G) : Γ.W (.co .Eq (.str a t) (.str b u)) K ml G := sem_W (t := compareOp .Eq (.str a t) (.str b u)) rfl (Wt.val (v := .bool z) h fun h => eq_str (by rw [hz]; exact h))
theorem neS {a b : Str} {t u : Tok} (z : Bool) (hz : (a != b) = z) (h : Γ.N 90 (.sg (.v (.bool z))) K ml G) : Γ.W (.co .NotEq (.str a t) (.str b u)) K ml G := leaf rfl (.bool z) (fun h => ne_str (by rw [hz]; exact h)) h
theorem isN {v : Value} (z : Bool) (hz : (v == .none) = z) (h : Γ.N 90 (.sg (.v (.bool z))) K ml G) : Γ.W (.co .Is v .none) K ml G := leaf rfl (.bool z) (fun h => is_none_gen (by rw [hz]; exact h)) h
theorem isNot {v : Value} (z : Bool) (hz : (!(v == .none)) = z) (h : Γ.N 90 (.sg (.v (.bool z))) K ml G) : Γ.W (.co .IsNot v .none) K ml G := leaf rfl (.bool z) (fun h => isnot_none_gen (by rw [hz]; exact h)) h
theorem isiObj {c D x dx : Nat} {od : Obj} (b : Bool) (h1 : (x, instObj c dx) ∈ G) (h2 : (dx, od) ∈ G) (hc : c = 66 ∨ c = 85 ∨ c = 104 ∨ c = 162) (hD : D = 66 ∨ D = 85 ∨ D = 104 ∨ D = 123 ∨ D = 142 ∨ D = 162) (hb : (c == D) = b) (h : Γ.N 90 (.sg (.v (.bool b))) K ml G) : Γ.W (.cl (.cal (.builtin "isinstance")) [.ref x, .ref D]) K ml G :=
  leafN (t := PySem.call (.builtin "isinstance") [.ref x, .ref D]) rfl (.bool b) (fun F X N q => isi_objB b F X N h1 h2 hc hD hb fun tk => q tk) h
theorem isiPlain {v : Value} (hv : Plain v) (h : Γ.N 90 (.sg (.v (.bool false))) K ml G) : Γ.W (.cl (.cal (.builtin "isinstance")) [v, .ref 162]) K ml G :=
  leafN (t := PySem.call (.builtin "isinstance") [v, .ref 162]) rfl (.bool false) (fun F X xx9 q => isi_plain hv F X fun tk => q tk) h
theorem isiScal {v : Value} (hv : Plain v) (h : Γ.N 90 (.sg (.v (.bool false))) K ml G) : Γ.W (.cl (.cal (.builtin "isinstance")) [v, .ref 66]) K ml G :=
  leafN (t := PySem.call (.builtin "isinstance") [v, .ref 66]) rfl (.bool false) (fun F X xx9 q => by
    rcases hv with rfl | ⟨_, _, rfl⟩ | ⟨_, _, rfl⟩
    · exact isi_none (by decide) F X fun tk => q tk
    · exact isi_int (by decide) F X fun tk => q tk
    · exact isi_str (by decide) F X fun tk => q tk) h
theorem len {l e : Nat} {vs : Array Value} (hm : (l, listOf vs e) ∈ G) (hz : vs.size ≤ 1000) (h : ∀ tk, Γ.N 90 (.sg (.v (.int vs.size tk))) K ml G) : Γ.W (.cl (.cal (.builtin "len")) [.ref l]) K ml G :=
  leafC (t := PySem.call (.builtin "len") [.ref l]) (P := fun v G' => G' = G ∧ ∃ tk, v = .int vs.size tk) rfl (fun F xx9 N q => len_L N hm hz (q _ _ _ _ ⟨rfl, _, rfl⟩ F N)) fun v G' hp => by obtain ⟨rfl, tk, rfl⟩ := hp; exact h tk
theorem item {l e : Nat} {vs : Array Value} {v : Value} {ex sl : PySem.Expr} {k : Int} {u : Tok} (hm : (l, listOf vs e) ∈ G) (h0 : 0 ≤ k) (hz : vs.size ≤ 1000) (hx : vs[k.toNat]? = some v) (hs : subscripted sl false (.ref l) (.int k u) = operate [.ref l, .int k u] (getItem (.ref l) (.int k u))) (h : Γ.N 90 (.sg (.v v)) K ml G) : Γ.W (.gi ex sl (.ref l) (.int k u)) K ml G :=
  leafN rfl v (fun xx9 xx9 N q => item_is N hm h0 hz hx (q _) hs) h
theorem setItem {l e : Nat} {vs : Array Value} {v : Value} {k : Int} {u : Tok} {G' : Led} (U : Upd l (listOf vs e) (listOf (vs.setIfInBounds k.toNat v) e) G G') (h0 : 0 ≤ k) (hz : vs.size ≤ 1000) (hk : k < vs.size) (h : Γ.N 90 (.sg .u) K ml G') : Γ.W (.si (.ref l) (.int k u) v) K ml G := by
  intro p loose mean mg mb dp un gd outer A₀ base h₀ L s Q' E' B F X N T hd hu ret exc
  exact set_L F N U h0 hz hk fun h' F' N' => ret () _ G' h' _ F' N' (N_ok h)
theorem append {l n : Nat} {its : Array Value} {x : Value} {G' : Led} (U : Upd l (listOf its n) (listOf (its.push x) (n + 1)) G G') (hz : its.size ≤ 2000) (h : Γ.N 90 (.sg (.v .none)) K ml G') : Γ.W (.cl (.cal (.builtin "list.append")) [.ref l, x]) K ml G :=
  leafC (t := PySem.call (.builtin "list.append") [.ref l, x]) (P := fun v G2 => v = .none ∧ G2 = G') rfl (fun F xx9 N q => append_K F N U (fun h' F' N' => q _ _ _ _ ⟨rfl, rfl⟩ F' N') (Nat.le_trans hz (by decide))) fun v G2 hp => by obtain ⟨rfl, rfl⟩ := hp; exact h
theorem extend {l e b n2 : Nat} {vs ws : Array Value} {G' : Led} (hb : (b, listOf ws n2) ∈ G) (U : Upd l (listOf vs e) (listOf (vs ++ ws) (if (vs ++ ws).size == vs.size then e else e + 1)) G G') (hz : vs.size + ws.size ≤ 1000) (h : Γ.N 90 (.sg (.v .none)) K ml G') : Γ.W (.cl (.cal (.builtin "list.extend")) [.ref l, .ref b]) K ml G :=
  leafC (t := PySem.call (.builtin "list.extend") [.ref l, .ref b]) (P := fun v G2 => v = .none ∧ G2 = G') rfl (fun F xx9 N q => ext_L F N hb U hz fun h' F' N' => q _ _ _ _ ⟨rfl, rfl⟩ F' N') fun v G2 hp => by obtain ⟨rfl, rfl⟩ := hp; exact h
theorem mul {b n : Nat} {x : Int} {u : Tok} (hb : (b, listOf #[.none] n) ∈ G) (h1 : x ≤ 100) (h2 : -100 ≤ x) (h : ∀ D, Above D G → Γ.N 90 (.sg (.v (.ref D))) K ml ((D, listOf (Array.replicate x.toNat .none) 0) :: G)) : Γ.W (.bo .Mult (.ref b) (.int x u)) K ml G :=
  leafC (t := binaryOp .Mult (.ref b) (.int x u)) (P := fun v G2 => ∃ D, Above D G ∧ v = .ref D ∧ G2 = (D, listOf (Array.replicate x.toNat .none) 0) :: G) rfl (fun F xx9 N q => mul_L F N hb h1 h2 fun D h' F' N' a => q _ _ _ _ ⟨D, a, rfl, rfl⟩ F' N') fun v G2 hp => by obtain ⟨D, a, rfl, rfl⟩ := hp; exact h D a
section
variable {d : Nat} {o : Obj} {kvs : List (Str × Value)} {k : Str} {u : Tok} {v : Value}
theorem notIn (z : Bool) (hp : (d, o) ∈ G) (hd : o.IsDictOf (strKind Γ.prog Γ.w) kvs) (lo : 1 < d) (hv : (valueAt kvs k).isNone = z) (h : Γ.N 90 (.sg (.v (.bool z))) K ml G) : Γ.W (.co .NotIn (.str k u) (.ref d)) K ml G :=
  leafN rfl (.bool z) (fun xx9 xx9 N q => by
    cases z with
    | true => exact notin_new N hp hd lo (Option.isNone_iff_eq_none.mp hv) (q _)
    | false =>
      cases e : valueAt kvs k with
      | none => rw [e] at hv; cases hv
      | some y => exact notin_old N hp hd lo e (q _)) h
theorem dItem {ex sl : PySem.Expr} (hp : (d, o) ∈ G) (hd : o.IsDictOf (strKind Γ.prog Γ.w) kvs) (hv : valueAt kvs k = some v) (hs : subscripted sl false (.ref d) (.str k u) = operate [.ref d, .str k u] (getItem (.ref d) (.str k u))) (h : Γ.N 90 (.sg (.v v)) K ml G) : Γ.W (.gi ex sl (.ref d) (.str k u)) K ml G :=
  leafN rfl v (fun xx9 xx9 N q => item_D N hp hd hv (q _) hs) h
theorem dGet (hp : (d, o) ∈ G) (hd : o.IsDictOf (strKind Γ.prog Γ.w) kvs) (lo : 1 < d) {x : Option Value} (hv : valueAt kvs k = x) (h : Γ.N 90 (.sg (.v (x.getD .none))) K ml G) : Γ.W (.cl (.cal (.builtin "dict.get")) [.ref d, .str k u]) K ml G :=
  leafN (t := PySem.call (.builtin "dict.get") [.ref d, .str k u]) rfl (x.getD .none) (fun xx9 xx9 N q => get_D N hp hd lo hv (q _)) h
theorem dSet {g : Obj → Led} (U : UpdF d o G g) (hd : o.IsDictOf (strKind Γ.prog Γ.w) kvs) (hn : valueAt kvs k = Option.none) (hsz : kvs.length ≤ 1000) (h : ∀ o', o'.IsDictOf (strKind Γ.prog Γ.w) (kvs ++ [(k, v)]) → Γ.N 90 (.sg .u) K ml (g o')) : Γ.W (.si (.ref d) (.str k u) v) K ml G := by
  intro p loose mean mg mb dp un gd outer A₀ base h₀ L s Q' E' B F X N T hd' hu ret exc
  exact set_D F N U hd hn hsz fun h' o' F' N' hd2 => ret () _ _ h' _ F' N' (N_ok (h o' hd2))
theorem pop {pl : Nat} {k : Int} (hp : (pl, o) ∈ G) (hd : o.IsDictOf (intKind Γ.prog Γ.w) []) (h1 : 1 < pl) (h : Γ.N 90 (.sg (.v v)) K ml G) : Γ.W (.cl (.cal (.builtin "dict.pop")) [.ref pl, .int k u, v]) K ml G :=
  leafN (t := PySem.call (.builtin "dict.pop") [.ref pl, .int k u, v]) rfl v (fun xx9 xx9 N q => pop_places N hp hd h1 (q _)) h
end
end M
end
section
theorem sa_th {w : World} : SA w 66 "number" ∧ SA w 66 "count" ∧ SA w 66 "blessed" ∧ SA w 66 "weak" ∧ SA w 66 "is_destroyed" ∧ SA w 66 "is_freed" := ⟨⟨by k_is, by k_is, by k_is, by k_is⟩, ⟨by k_is, by k_is, by k_is, by k_is⟩, ⟨by k_is, by k_is, by k_is, by k_is⟩, ⟨by k_is, by k_is, by k_is, by k_is⟩, ⟨by k_is, by k_is, by k_is, by k_is⟩, ⟨by k_is, by k_is, by k_is, by k_is⟩⟩
noncomputable def thE (hh : Nat → Int) (tt : Nat → Tok) (v : Value) (tc : Tok) (l : Addr) : List DictEntry :=
  [⟨hh 1, .str "number" (tt 1), v⟩, ⟨hh 2, .str "count" (tt 2), .int 0 tc⟩, ⟨hh 3, .str "blessed" (tt 3), .none⟩, ⟨hh 4, .str "weak" (tt 4), .ref l⟩, ⟨hh 5, .str "is_destroyed" (tt 5), .bool false⟩, ⟨hh 6, .str "is_freed" (tt 6), .bool false⟩]
noncomputable def f6 {α : Type} (a b c d e f : α) : Nat → α | 1 => a | 2 => b | 3 => c | 4 => d | 5 => e | _ => f
theorem thing_init {prog : Program} {w : World} {x C dx : Nat} {v : Value} {G : Led} (hx : x ≠ dx) (ha : Above dx G) (hv : True)
    (g1 : SA w C "number") (g2 : SA w C "count") (g3 : SA w C "blessed") (g4 : SA w C "weak") (g5 : SA w C "is_destroyed") (g6 : SA w C "is_freed") :
    Tel prog w 42 [.ref x, v] 5 20 ((x, instObj C dx) :: (dx, dictOf [] 0) :: G) (fun r n => r = .none ∧ ∃ hh tt tc l, x < l ∧ dx < l ∧ Has ((x, instObj C dx) :: (dx, dictOf (thE hh tt v tc l) 6) :: (l, listOf #[] 0) :: G) n) (fun xx9 => False) := by
  k_dflt (refine' Tel.ofM (dn := 4) (un' := 17) ?k6 ?k7 ?k9 ?kB ?c2 ?c3 ?c4 ?c5 ?_; (case k6 => k_is); (case k7 => k_is); (case k9 => exact fun s X => BindsTo.of_eq rfl); (case kB => exact locs rfl); (case c5 => decide); (case c2 => exact rfl); (case c3 => exact rfl); (case c4 => exact rfl))
  intro Q Z _ q1 _ Γ
  have hr : ∀ p ∈ G, p.1 ≠ dx := ha.ne
  refine M.setNew hx hr g1 rfl (Nat.le_of_ble_eq_true rfl) fun h1 t1 => ?_
  intro tc
  refine M.setNew hx hr g2 rfl (Nat.le_of_ble_eq_true rfl) fun h2 t2 => ?_
  refine M.setNew hx hr g3 rfl (Nat.le_of_ble_eq_true rfl) fun h3 t3 => ?_
  refine M.newList (by decide) fun l hl => ?_
  refine M.led (c := .sa _ _ _) ((x, instObj C dx) :: (dx, _) :: (l, listOf #[] 0) :: G) (by exact trivial) (has_cons (.tail _ (.head _)) (has_cons (.tail _ (.tail _ (.head _))) (has_cons (.head _) fun xx9 h => .tail _ (.tail _ (.tail _ h))))) ?_
  have hr : ∀ p ∈ (l, listOf #[] 0) :: G, p.1 ≠ dx := fun p hp => (List.mem_cons.mp hp).elim (fun e => e ▸ Nat.ne_of_gt (hl _ (.tail _ (.head _)))) (ha.ne p)
  refine M.setNew hx hr g4 rfl (Nat.le_of_ble_eq_true rfl) fun h4 t4 => ?_
  refine M.setNew hx hr g5 rfl (Nat.le_of_ble_eq_true rfl) fun h5 t5 => ?_
  refine M.setNew hx hr g6 rfl (Nat.le_of_ble_eq_true rfl) fun h6 t6 => ?_
  exact q1 _ _ ⟨rfl, f6 h1 h2 h3 h4 h5 h6, f6 t1 t2 t3 t4 t5 t6, tc, l, hl _ (.head _), hl _ (.tail _ (.head _)), fun xx9 h => h⟩
theorem mc_init {w : World} : specialIn (hp0.heap_1_39 w.params) (.ref 45) "__getattribute__" = some (some (.builtin "type.__getattribute__")) := by k_is
theorem sa66 {w : World} {a : Str} (h : a = "number" ∨ a = "count" ∨ a = "blessed" ∨ a = "weak" ∨ a = "is_destroyed" ∨ a = "is_freed" ∨ a = "value" ∨ a = "magic") : SA w 66 a := by
  rcases h with h | h | h | h | h | h | h | h <;> (subst h; exact ⟨by k_is, by k_is, by k_is, by k_is⟩)
theorem scalar_init {prog : Program} {w : World} {x dx : Nat} {k : Int} {tk : Tok} {v : Value} {G : Led} (hx : x ≠ dx) (ha : Above dx G) :
    TelC prog w 63 ⟨[.ref x, .int k tk, v], []⟩ 6 23 ((x, instObj 66 dx) :: (dx, dictOf [] 0) :: G) (fun r n => r = .none ∧ ∃ d : TD, d.cnt = 0 ∧ Has ((x, instObj 66 dx) :: (dx, scD d v) :: G) n) (fun xx9 => False) := by
  k_dflt (refine' TelC.ofM (dn := 5) (un' := 20) ?k6 ?k7 ?k9 ?kB ?c2 ?c3 ?c4 ?c5 ?_; (case k6 => k_is); (case k7 => k_is); (case k9 => exact fun s X => BindsTo.of_eq rfl); (case kB => exact locs rfl); (case c5 => decide); (case c2 => exact rfl); (case c3 => exact rfl); (case c4 => exact rfl))
  intro Q Z _ q1 _ Γ
  refine M.methC mc_init (by k_is) (by k_is) (by k_is) (by k_is) rfl ?_
  refine M.tel (thing_init hx ha trivial (sa66 (by simp)) (sa66 (by simp)) (sa66 (by simp)) (sa66 (by simp)) (sa66 (by simp)) (sa66 (by simp))) (fun xx9 h => h) (Nat.le_of_ble_eq_true rfl) (Nat.le_of_ble_eq_true rfl) (fun xx9 h => h.elim) ?_
  rintro r G' ⟨rfl, hh, tt, tc, l, -, -, hs⟩
  refine M.led (c := .sa _ _ _) ((x, instObj 66 dx) :: (dx, _) :: G) (by exact trivial) (fun p hp => hs p (has_cons (.head _) (has_cons (.tail _ (.head _)) (fun xx9 h => .tail _ (.tail _ (.tail _ h)))) p hp)) ?_
  refine M.setNew hx ha.ne (sa66 (by simp)) rfl (Nat.le_of_ble_eq_true rfl) fun h7 t7 => ?_
  refine M.setNew hx ha.ne (sa66 (by simp)) rfl (Nat.le_of_ble_eq_true rfl) fun h8 t8 => ?_
  exact q1 _ _ ⟨rfl, ⟨hh 1, hh 2, hh 3, hh 4, hh 5, hh 6, h7, h8, 0, tt 1, tt 2, tt 3, tt 4, tt 5, tt 6, t7, t8, t8, k, tk, 0, tc, .ref l⟩, rfl, fun xx9 h => h⟩
theorem sa85 {w : World} {a : Str} (h : a = "number" ∨ a = "count" ∨ a = "blessed" ∨ a = "weak" ∨ a = "is_destroyed" ∨ a = "is_freed" ∨ a = "items" ∨ a = "tied") : SA w 85 a := by
  rcases h with h | h | h | h | h | h | h | h <;> (subst h; exact ⟨by k_is, by k_is, by k_is, by k_is⟩)
theorem sa104 {w : World} {a : Str} (h : a = "number" ∨ a = "count" ∨ a = "blessed" ∨ a = "weak" ∨ a = "is_destroyed" ∨ a = "is_freed" ∨ a = "table" ∨ a = "at" ∨ a = "tied") : SA w 104 a := by
  rcases h with h | h | h | h | h | h | h | h | h <;> (subst h; exact ⟨by k_is, by k_is, by k_is, by k_is⟩)
theorem array_init {prog : Program} {w : World} {x dx : Nat} {k : Int} {tk : Tok} {G : Led} (hx : x ≠ dx) (ha : Above dx G) :
    TelC prog w 82 ⟨[.ref x, .int k tk], []⟩ 6 23 ((x, instObj 85 dx) :: (dx, dictOf [] 0) :: G) (fun r n => r = .none ∧ ∃ (d : TD) (l : Nat), x < l ∧ Has ((x, instObj 85 dx) :: (dx, arD d l) :: (l, listOf #[] 0) :: G) n) (fun xx9 => False) := by
  k_dflt (refine' TelC.ofM (dn := 5) (un' := 20) ?k6 ?k7 ?k9 ?kB ?c2 ?c3 ?c4 ?c5 ?_; (case k6 => k_is); (case k7 => k_is); (case k9 => exact fun s X => BindsTo.of_eq rfl); (case kB => exact locs rfl); (case c5 => decide); (case c2 => exact rfl); (case c3 => exact rfl); (case c4 => exact rfl))
  intro Q Z _ q1 _ Γ
  refine M.methC mc_init (by k_is) (by k_is) (by k_is) (by k_is) rfl ?_
  refine M.tel (thing_init hx ha trivial (sa85 (by simp)) (sa85 (by simp)) (sa85 (by simp)) (sa85 (by simp)) (sa85 (by simp)) (sa85 (by simp))) (fun xx9 h => h) (Nat.le_of_ble_eq_true rfl) (Nat.le_of_ble_eq_true rfl) (fun xx9 h => h.elim) ?_
  rintro r G' ⟨rfl, hh, tt, tc, l0, -, -, hs⟩
  refine M.newList (by decide) fun l hl => ?_
  have m1 := hs _ (.head _)
  have m2 := hs _ (.tail _ (.head _))
  refine M.led (c := .sa _ _ _) ((x, instObj 85 dx) :: (dx, _) :: (l, listOf #[] 0) :: G) (by exact trivial) (has_cons (.tail _ m1) (has_cons (.tail _ m2) (has_cons (.head _) fun xx9 h => .tail _ (hs _ (.tail _ (.tail _ (.tail _ h))))))) ?_
  have hr : ∀ p ∈ (l, listOf #[] 0) :: G, p.1 ≠ dx := fun p hp => (List.mem_cons.mp hp).elim (fun e => e ▸ Nat.ne_of_gt (hl _ m2)) (ha.ne p)
  refine M.setNew hx hr (sa85 (by simp)) rfl (Nat.le_of_ble_eq_true rfl) fun h7 t7 => ?_
  refine M.setNew hx hr (sa85 (by simp)) rfl (Nat.le_of_ble_eq_true rfl) fun h8 t8 => ?_
  exact q1 _ _ ⟨rfl, ⟨hh 1, hh 2, hh 3, hh 4, hh 5, hh 6, h7, h8, 0, tt 1, tt 2, tt 3, tt 4, tt 5, tt 6, t7, t8, t8, k, tk, 0, tc, .ref l0⟩, l, hl _ m1, fun xx9 h => h⟩
theorem hash_init {prog : Program} {w : World} {x dx : Nat} {k : Int} {tk : Tok} {G : Led} (hx : x ≠ dx) (ha : Above dx G) :
    TelC prog w 101 ⟨[.ref x, .int k tk], []⟩ 6 23 ((x, instObj 104 dx) :: (dx, dictOf [] 0) :: G) (fun r n => r = .none ∧ ∃ (d : TD) (l : Nat) (t9 : Tok) (ot : Obj), x < l ∧ ot.IsDictOf (strKind prog w) [] ∧ Has ((x, instObj 104 dx) :: (dx, haD d l 0 t9) :: (l, ot) :: G) n) (fun xx9 => False) := by
  k_dflt (refine' TelC.ofM (dn := 5) (un' := 20) ?k6 ?k7 ?k9 ?kB ?c2 ?c3 ?c4 ?c5 ?_; (case k6 => k_is); (case k7 => k_is); (case k9 => exact fun s X => BindsTo.of_eq rfl); (case kB => exact locs rfl); (case c5 => decide); (case c2 => exact rfl); (case c3 => exact rfl); (case c4 => exact rfl))
  intro Q Z _ q1 _ Γ
  refine M.methC mc_init (by k_is) (by k_is) (by k_is) (by k_is) rfl ?_
  refine M.tel (thing_init hx ha trivial (sa104 (by simp)) (sa104 (by simp)) (sa104 (by simp)) (sa104 (by simp)) (sa104 (by simp)) (sa104 (by simp))) (fun xx9 h => h) (Nat.le_of_ble_eq_true rfl) (Nat.le_of_ble_eq_true rfl) (fun xx9 h => h.elim) ?_
  rintro r G' ⟨rfl, hh, tt, tc, l0, -, -, hs⟩
  refine M.newDict fun l ot hl o1 o2 => ?_
  have m1 := hs _ (.head _)
  have m2 := hs _ (.tail _ (.head _))
  refine M.led (c := .sa _ _ _) ((x, instObj 104 dx) :: (dx, _) :: (l, ot) :: G) (by exact trivial) (has_cons (.tail _ m1) (has_cons (.tail _ m2) (has_cons (.head _) fun xx9 h => .tail _ (hs _ (.tail _ (.tail _ (.tail _ h))))))) ?_
  have hr : ∀ p ∈ (l, ot) :: G, p.1 ≠ dx := fun p hp => (List.mem_cons.mp hp).elim (fun e => e ▸ Nat.ne_of_gt (hl _ m2)) (ha.ne p)
  refine M.setNew hx hr (sa104 (by simp)) rfl (Nat.le_of_ble_eq_true rfl) fun h7 t7 => ?_
  intro t9
  refine M.setNew hx hr (sa104 (by simp)) rfl (Nat.le_of_ble_eq_true rfl) fun h8 t8 => ?_
  refine M.setNew hx hr (sa104 (by simp)) rfl (Nat.le_of_ble_eq_true rfl) fun h9 t9 => ?_
  exact q1 _ _ ⟨rfl, ⟨hh 1, hh 2, hh 3, hh 4, hh 5, hh 6, h7, h8, h9, tt 1, tt 2, tt 3, tt 4, tt 5, tt 6, t7, t8, t9, k, tk, 0, tc, .ref l0⟩, l, _, ot, hl _ m1, o1, fun xx9 h => h⟩
theorem next_tel {prog : Program} {w : World} {f : Fix} {n : Int} {tn : Tok} {rest : Led} (e1 : f.hp ≠ f.dhp) (b2 : ∀ p ∈ rest, p.1 ≠ f.dhp) :
    Tel prog w 187 [.ref f.hp] 5 20 ((f.hp, heapO f) :: (f.dhp, heapD f n tn) :: rest) (fun r n' => ∃ tn', r = .int (n + 1) tn' ∧ n' = (f.hp, heapO f) :: (f.dhp, heapD f (n + 1) tn') :: rest) (fun xx9 => False) := by
  k_dflt (refine' Tel.ofM (dn := 4) (un' := 17) ?k6 ?k7 ?k9 ?kB ?c2 ?c3 ?c4 ?c5 ?_; (case k6 => k_is); (case k7 => k_is); (case k9 => exact fun s X => BindsTo.of_eq rfl); (case kB => exact locs rfl); (case c5 => decide); (case c2 => exact rfl); (case c3 => exact rfl); (case c4 => exact rfl))
  intro Q Z q1 _ _ Γ
  refine M.getOwn (.head _) (.tail _ (.head _)) ga_last rfl rfl ?_
  intro t1
  refine M.iadd fun t2 => ?_
  refine M.setOwn (G' := (f.hp, heapO f) :: (f.dhp, heapD f (n + 1) t2) :: rest) (.head _) (.tail _ (.head _)) sa_last rfl (fun xx9 => rfl) (.tail e1 (.head b2)) (by exact Nat.le_of_ble_eq_true rfl) ?_
  refine M.getOwn (.head _) (.tail _ (.head _)) ga_last rfl rfl ?_
  exact q1 _ _ _ ⟨t2, rfl, rfl⟩
end
section
theorem me_h {w : World} : ME w 225 "next_number" 187 ∧ ME w 225 "new_scalar" 194 ∧ ME w 225 "new_array" 201 ∧ ME w 225 "new_hash" 208 := ⟨⟨by k_is, by k_is, by k_is, by k_is⟩, ⟨by k_is, by k_is, by k_is, by k_is⟩, ⟨by k_is, by k_is, by k_is, by k_is⟩, ⟨by k_is, by k_is, by k_is, by k_is⟩⟩
section
variable {prog : Program} {w : World} {f : Fix} {n : Int} {tn : Tok} {rest : Led}
theorem new_s (v : Value) (e1 : f.hp ≠ f.dhp) (b2 : ∀ p ∈ rest, p.1 ≠ f.dhp) :
    Tel prog w 194 [.ref f.hp, v] 9 40 ((f.hp, heapO f) :: (f.dhp, heapD f n tn) :: rest) (fun r n' => ∃ (x dx : Nat) (d : TD) (tn' : Tok), r = .ref x ∧ d.cnt = 0 ∧ Above dx ((f.hp, heapO f) :: (f.dhp, heapD f (n + 1) tn') :: rest) ∧ dx < x ∧ Has ((x, instObj 66 dx) :: (dx, scD d v) :: (f.hp, heapO f) :: (f.dhp, heapD f (n + 1) tn') :: rest) n') (fun xx9 => False) := by
  k_dflt (refine' Tel.ofM (dn := 8) (un' := 37) ?k6 ?k7 ?k9 ?kB ?c2 ?c3 ?c4 ?c5 ?_; (case k6 => k_is); (case k7 => k_is); (case k9 => exact fun s X => BindsTo.of_eq rfl); (case kB => exact locs rfl); (case c5 => decide); (case c2 => exact rfl); (case c3 => exact rfl); (case c4 => exact rfl))
  intro Q Z q1 _ _ Γ
  refine M.meth (.head _) (.tail _ (.head _)) me_h.1 rfl rfl ?_
  refine M.tel (next_tel e1 b2) (fun xx9 h => h) (Nat.le_of_ble_eq_true rfl) (Nat.le_of_ble_eq_true rfl) (fun xx9 h => h.elim) ?_
  rintro r G' ⟨tn', rfl, rfl⟩
  refine M.new (by k_is) (by k_is) (by k_is) (Nat.le_of_ble_eq_true rfl) (Nat.le_of_ble_eq_true rfl) (fun x dx a b => scalar_init (Nat.ne_of_gt b) a) ?_
  rintro x dx G' a b ⟨d, hc, hs⟩
  exact q1 _ _ _ ⟨x, dx, d, tn', rfl, hc, a, b, hs⟩
theorem new_a (e1 : f.hp ≠ f.dhp) (b2 : ∀ p ∈ rest, p.1 ≠ f.dhp) :
    Tel prog w 201 [.ref f.hp] 9 40 ((f.hp, heapO f) :: (f.dhp, heapD f n tn) :: rest) (fun r n' => ∃ (x dx l : Nat) (d : TD) (tn' : Tok), r = .ref x ∧ Above dx ((f.hp, heapO f) :: (f.dhp, heapD f (n + 1) tn') :: rest) ∧ dx < x ∧ x < l ∧ Has ((x, instObj 85 dx) :: (dx, arD d l) :: (l, listOf #[] 0) :: (f.hp, heapO f) :: (f.dhp, heapD f (n + 1) tn') :: rest) n') (fun xx9 => False) := by
  k_dflt (refine' Tel.ofM (dn := 8) (un' := 37) ?k6 ?k7 ?k9 ?kB ?c2 ?c3 ?c4 ?c5 ?_; (case k6 => k_is); (case k7 => k_is); (case k9 => exact fun s X => BindsTo.of_eq rfl); (case kB => exact locs rfl); (case c5 => decide); (case c2 => exact rfl); (case c3 => exact rfl); (case c4 => exact rfl))
  intro Q Z q1 _ _ Γ
  refine M.meth (.head _) (.tail _ (.head _)) me_h.1 rfl rfl ?_
  refine M.tel (next_tel e1 b2) (fun xx9 h => h) (Nat.le_of_ble_eq_true rfl) (Nat.le_of_ble_eq_true rfl) (fun xx9 h => h.elim) ?_
  rintro r G' ⟨tn', rfl, rfl⟩
  refine M.new (by k_is) (by k_is) (by k_is) (Nat.le_of_ble_eq_true rfl) (Nat.le_of_ble_eq_true rfl) (fun x dx a b => array_init (Nat.ne_of_gt b) a) ?_
  rintro x dx G' a b ⟨d, l, hl, hs⟩
  exact q1 _ _ _ ⟨x, dx, l, d, tn', rfl, a, b, hl, hs⟩
theorem new_h (e1 : f.hp ≠ f.dhp) (b2 : ∀ p ∈ rest, p.1 ≠ f.dhp) :
    Tel prog w 208 [.ref f.hp] 9 40 ((f.hp, heapO f) :: (f.dhp, heapD f n tn) :: rest) (fun r n' => ∃ (x dx l : Nat) (d : TD) (tn' t9 : Tok) (ot : Obj), r = .ref x ∧ Above dx ((f.hp, heapO f) :: (f.dhp, heapD f (n + 1) tn') :: rest) ∧ dx < x ∧ x < l ∧ ot.IsDictOf (strKind prog w) [] ∧ Has ((x, instObj 104 dx) :: (dx, haD d l 0 t9) :: (l, ot) :: (f.hp, heapO f) :: (f.dhp, heapD f (n + 1) tn') :: rest) n') (fun xx9 => False) := by
  k_dflt (refine' Tel.ofM (dn := 8) (un' := 37) ?k6 ?k7 ?k9 ?kB ?c2 ?c3 ?c4 ?c5 ?_; (case k6 => k_is); (case k7 => k_is); (case k9 => exact fun s X => BindsTo.of_eq rfl); (case kB => exact locs rfl); (case c5 => decide); (case c2 => exact rfl); (case c3 => exact rfl); (case c4 => exact rfl))
  intro Q Z q1 _ _ Γ
  refine M.meth (.head _) (.tail _ (.head _)) me_h.1 rfl rfl ?_
  refine M.tel (next_tel e1 b2) (fun xx9 h => h) (Nat.le_of_ble_eq_true rfl) (Nat.le_of_ble_eq_true rfl) (fun xx9 h => h.elim) ?_
  rintro r G' ⟨tn', rfl, rfl⟩
  refine M.new (by k_is) (by k_is) (by k_is) (Nat.le_of_ble_eq_true rfl) (Nat.le_of_ble_eq_true rfl) (fun x dx a b => hash_init (Nat.ne_of_gt b) a) ?_
  rintro x dx G' a b ⟨d, l, t9, ot, hl, ho, hs⟩
  exact q1 _ _ _ ⟨x, dx, l, d, tn', t9, ot, rfl, a, b, hl, ho, hs⟩
end
end
section
section
variable {prog : Program} {w : World} {f : Fix} {n : Int} {tn tk : Tok} {rest : Led}
theorem made_A {prog : Program} {w : World} {f : Fix} {n : Int} {tn tk : Tok} {rest : Led} (e1 : f.hp ≠ f.dhp) (b2 : ∀ p ∈ rest, p.1 ≠ f.dhp) :
  Tel prog w 413 [.ref f.hp, .str "A" tk] 10 60 ((f.hp, heapO f) :: (f.dhp, heapD f n tn) :: rest)
    (fun r news' => ∃ (a da l : Nat) (d : TD) (n' : Int) (tn' : Tok), r = .ref a ∧ Has ((a, instObj 85 da) :: (da, arD d l) :: (l, listOf #[] 0) :: (f.hp, heapO f) :: (f.dhp, heapD f n' tn') :: rest) news' ∧ Above da rest ∧ f.hp < da ∧ f.dhp < da ∧ da < a ∧ a < l) (fun xx9 => False) := by
  k_dflt (refine' Tel.ofM (dn := 9) (un' := 57) ?k6 ?k7 ?k9 ?kB ?c2 ?c3 ?c4 ?c5 ?_; (case k6 => k_is); (case k7 => k_is); (case k9 => exact fun s X => BindsTo.of_eq rfl); (case kB => exact locs rfl); (case c5 => decide); (case c2 => exact rfl); (case c3 => exact rfl); (case c4 => exact rfl))
  intro Q Z q1 _ _ Γ
  intro t1
  refine M.eqS true (by decide +kernel) ?_
  refine M.meth (.head _) (.tail _ (.head _)) me_h.2.2.1 rfl rfl ?_
  refine M.tel (new_a e1 b2) (fun xx9 h => h) (Nat.le_of_ble_eq_true rfl) (Nat.le_of_ble_eq_true rfl) (fun xx9 h => h.elim) ?_
  rintro r G' ⟨x, dx, l, d, tn', rfl, ab, h1, h2, hs⟩
  exact q1 _ _ _ ⟨x, dx, l, d, _, tn', rfl, hs, fun p h => ab p (.tail _ (.tail _ h)), ab _ (.head _), ab _ (.tail _ (.head _)), h1, h2⟩
theorem made_H {prog : Program} {w : World} {f : Fix} {n : Int} {tn tk : Tok} {rest : Led} (e1 : f.hp ≠ f.dhp) (b2 : ∀ p ∈ rest, p.1 ≠ f.dhp) :
  Tel prog w 413 [.ref f.hp, .str "H" tk] 10 60 ((f.hp, heapO f) :: (f.dhp, heapD f n tn) :: rest)
    (fun r news' => ∃ (a da l : Nat) (d : TD) (n' : Int) (tn' t9 : Tok) (ot : Obj), r = .ref a ∧ Has ((a, instObj 104 da) :: (da, haD d l 0 t9) :: (l, ot) :: (f.hp, heapO f) :: (f.dhp, heapD f n' tn') :: rest) news' ∧ Above da rest ∧ f.hp < da ∧ f.dhp < da ∧ da < a ∧ a < l ∧ ot.IsDictOf (strKind prog w) []) (fun xx9 => False) := by
  k_dflt (refine' Tel.ofM (dn := 9) (un' := 57) ?k6 ?k7 ?k9 ?kB ?c2 ?c3 ?c4 ?c5 ?_; (case k6 => k_is); (case k7 => k_is); (case k9 => exact fun s X => BindsTo.of_eq rfl); (case kB => exact locs rfl); (case c5 => decide); (case c2 => exact rfl); (case c3 => exact rfl); (case c4 => exact rfl))
  intro Q Z q1 _ _ Γ
  intro t1
  refine M.eqS false (by decide +kernel) ?_
  intro t1
  refine M.eqS true (by decide +kernel) ?_
  refine M.meth (.head _) (.tail _ (.head _)) me_h.2.2.2 rfl rfl ?_
  refine M.tel (new_h e1 b2) (fun xx9 h => h) (Nat.le_of_ble_eq_true rfl) (Nat.le_of_ble_eq_true rfl) (fun xx9 h => h.elim) ?_
  rintro r G' ⟨x, dx, l, d, tn', t9, ot, rfl, ab, h1, h2, ho, hs⟩
  exact q1 _ _ _ ⟨x, dx, l, d, _, tn', t9, ot, rfl, hs, fun p h => ab p (.tail _ (.tail _ h)), ab _ (.head _), ab _ (.tail _ (.head _)), h1, h2, ho⟩
theorem made_S {prog : Program} {w : World} {f : Fix} {n : Int} {tn tk : Tok} {rest : Led} (e1 : f.hp ≠ f.dhp) (b2 : ∀ p ∈ rest, p.1 ≠ f.dhp) :
  Tel prog w 413 [.ref f.hp, .str "S" tk] 10 60 ((f.hp, heapO f) :: (f.dhp, heapD f n tn) :: rest)
    (fun r news' => ∃ (a da : Nat) (d : TD) (n' : Int) (tn' : Tok), r = .ref a ∧ Has ((a, instObj 66 da) :: (da, scD d .none) :: (f.hp, heapO f) :: (f.dhp, heapD f n' tn') :: rest) news' ∧ Above da rest ∧ f.hp < da ∧ f.dhp < da ∧ da < a) (fun xx9 => False) := by
  k_dflt (refine' Tel.ofM (dn := 9) (un' := 57) ?k6 ?k7 ?k9 ?kB ?c2 ?c3 ?c4 ?c5 ?_; (case k6 => k_is); (case k7 => k_is); (case k9 => exact fun s X => BindsTo.of_eq rfl); (case kB => exact locs rfl); (case c5 => decide); (case c2 => exact rfl); (case c3 => exact rfl); (case c4 => exact rfl))
  intro Q Z q1 _ _ Γ
  intro t1
  refine M.eqS false (by decide +kernel) ?_
  intro t1
  refine M.eqS false (by decide +kernel) ?_
  refine M.meth (.head _) (.tail _ (.head _)) me_h.2.1 rfl rfl ?_
  refine M.tel (new_s .none e1 b2) (fun xx9 h => h) (Nat.le_of_ble_eq_true rfl) (Nat.le_of_ble_eq_true rfl) (fun xx9 h => h.elim) ?_
  rintro r G' ⟨x, dx, d, tn', rfl, -, ab, h1, hs⟩
  exact q1 _ _ _ ⟨x, dx, d, _, tn', rfl, hs, fun p h => ab p (.tail _ (.tail _ h)), ab _ (.head _), ab _ (.tail _ (.head _)), h1⟩
theorem newarr_tel {prog : Program} {w : World} {f : Fix} {n : Int} {tn : Tok} {rest : Led} (e1 : f.hp ≠ f.dhp) (b2 : ∀ p ∈ rest, p.1 ≠ f.dhp) :
  Tel prog w 201 [.ref f.hp] 10 60 ((f.hp, heapO f) :: (f.dhp, heapD f n tn) :: rest)
    (fun r news' => ∃ (a da l : Nat) (d : TD) (n' : Int) (tn' : Tok), r = .ref a ∧ Has ((a, instObj 85 da) :: (da, arD d l) :: (l, listOf #[] 0) :: (f.hp, heapO f) :: (f.dhp, heapD f n' tn') :: rest) news' ∧ Above da rest ∧ f.hp < da ∧ f.dhp < da ∧ da < a ∧ a < l) (fun xx9 => False) := by
  have C := @new_a prog w f n tn rest e1 b2
  intro p loose mean mg mb dp un gd cn cs a ccd cl outer A₀ base h₀ L m s Q E B F X N T hk hd hu ret exc
  refine C p loose mean mg mb dp un gd cn cs a ccd cl outer A₀ base h₀ L m s Q E B F X N T hk (by omega) (by omega) (fun r n' h' tk' F' N' q => ret r n' h' tk' F' N' ?_) exc
  obtain ⟨x, dx, l, d, tn', rfl, ab, h1, h2, hs⟩ := q
  exact ⟨x, dx, l, d, _, tn', rfl, hs, fun p h => ab p (.tail _ (.tail _ h)), ab _ (.head _), ab _ (.tail _ (.head _)), h1, h2⟩
end
end
section
theorem ga_ct {w : World} : GA w 547 "heap" ∧ GA w 547 "places" := ⟨⟨by k_is, by k_is, _, by k_is, by k_is⟩, ⟨by k_is, by k_is, _, by k_is, by k_is⟩⟩
theorem me_c {w : World} : ME w 547 "take" 497 ∧ ME w 547 "hold" 476 ∧ ME w 547 "put_off" 502 ∧ ME w 547 "fresh" 516 ∧ ME w 547 "store" 509 := ⟨⟨by k_is, by k_is, by k_is, by k_is⟩, ⟨by k_is, by k_is, by k_is, by k_is⟩, ⟨by k_is, by k_is, by k_is, by k_is⟩, ⟨by k_is, by k_is, by k_is, by k_is⟩, ⟨by k_is, by k_is, by k_is, by k_is⟩⟩
theorem take_none {prog : Program} {w : World} {c : Value} {G : Led} : Tel prog w 497 [c, .none] 5 20 G (fun r n => r = .none ∧ n = G) (fun xx9 => False) := by
  k_dflt (refine' Tel.ofM (dn := 4) (un' := 17) ?k6 ?k7 ?k9 ?kB ?c2 ?c3 ?c4 ?c5 ?_; (case k6 => k_is); (case k7 => k_is); (case k9 => exact fun s X => BindsTo.of_eq rfl); (case kB => exact locs rfl); (case c5 => decide); (case c2 => exact rfl); (case c3 => exact rfl); (case c4 => exact rfl))
  intro Q Z q1 _ _ Γ
  refine M.isiPlain (.inl rfl) ?_
  exact q1 _ _ _ ⟨rfl, rfl⟩
theorem fresh_tel {prog : Program} {w : World} {f : Fix} {n : Int} {tn : Tok} {rest : Led} (e1 : f.hp ≠ f.dhp) (e2 : f.ct ≠ f.dhp) (e3 : f.dct ≠ f.dhp) (b2 : ∀ p ∈ rest, p.1 ≠ f.dhp) :
  Tel prog w 516 [.ref f.ct, .none] 10 60 ((f.ct, ctrO f) :: (f.dct, ctrD f) :: (f.hp, heapO f) :: (f.dhp, heapD f n tn) :: rest)
    (fun r news' => ∃ (x dx : Nat) (d : TD) (n' : Int) (tn' : Tok), r = .ref x ∧ Has ((x, instObj 66 dx) :: (dx, scD d .none) :: (f.ct, ctrO f) :: (f.dct, ctrD f) :: (f.hp, heapO f) :: (f.dhp, heapD f n' tn') :: rest) news' ∧ Above dx rest ∧ f.ct < dx ∧ f.dct < dx ∧ f.hp < dx ∧ f.dhp < dx ∧ dx < x) (fun xx9 => False) := by
  k_dflt (refine' Tel.ofM (dn := 9) (un' := 57) ?k6 ?k7 ?k9 ?kB ?c2 ?c3 ?c4 ?c5 ?_; (case k6 => k_is); (case k7 => k_is); (case k9 => exact fun s X => BindsTo.of_eq rfl); (case kB => exact locs rfl); (case c5 => decide); (case c2 => exact rfl); (case c3 => exact rfl); (case c4 => exact rfl))
  intro Q Z q1 _ _ Γ
  refine M.getOwn (.head _) (.tail _ (.head _)) ga_ct.1 rfl rfl ?_
  refine M.meth (.tail _ (.tail _ (.head _))) (.tail _ (.tail _ (.tail _ (.head _)))) me_h.2.1 rfl rfl ?_
  refine M.meth (.head _) (.tail _ (.head _)) me_c.1 rfl rfl ?_
  refine M.tel take_none (fun xx9 h => h) (Nat.le_of_ble_eq_true rfl) (Nat.le_of_ble_eq_true rfl) (fun xx9 h => h.elim) ?_
  rintro r G' ⟨rfl, rfl⟩
  refine M.tel (new_s (f := f) (rest := (f.ct, ctrO f) :: (f.dct, ctrD f) :: rest) .none e1 (fun p h => by rcases List.mem_cons.mp h with rfl | h; exact e2; rcases List.mem_cons.mp h with rfl | h; exact e3; exact b2 p h)) (has_cons (.tail _ (.tail _ (.head _))) (has_cons (.tail _ (.tail _ (.tail _ (.head _)))) (has_cons (.head _) (has_cons (.tail _ (.head _)) fun xx9 h => .tail _ (.tail _ (.tail _ (.tail _ h))))))) (Nat.le_of_ble_eq_true rfl) (Nat.le_of_ble_eq_true rfl) (fun xx9 h => h.elim) ?_
  rintro r G' ⟨x, dx, d, tn', rfl, hc, ab, h1, hs⟩
  intro t1
  have ab' : Above dx ((f.ct, ctrO f) :: (f.dct, ctrD f) :: (f.hp, heapO f) :: (f.dhp, heapD f (n + 1) tn') :: rest) := fun p h => by rcases List.mem_cons.mp h with rfl | h; exact ab _ (.tail _ (.tail _ (.head _))); rcases List.mem_cons.mp h with rfl | h; exact ab _ (.tail _ (.tail _ (.tail _ (.head _)))); rcases List.mem_cons.mp h with rfl | h; exact ab _ (.head _); rcases List.mem_cons.mp h with rfl | h; exact ab _ (.tail _ (.head _)); exact ab p (.tail _ (.tail _ (.tail _ (.tail _ h))))
  refine M.led (c := .sa _ _ _) ((x, instObj 66 dx) :: (dx, scD d .none) :: (f.ct, ctrO f) :: (f.dct, ctrD f) :: (f.hp, heapO f) :: (f.dhp, heapD f (n + 1) tn') :: rest) (by exact trivial) (fun p h => hs p (has_cons (.head _) (has_cons (.tail _ (.head _)) (has_cons (.tail _ (.tail _ (.tail _ (.tail _ (.head _))))) (has_cons (.tail _ (.tail _ (.tail _ (.tail _ (.tail _ (.head _)))))) (has_cons (.tail _ (.tail _ (.head _))) (has_cons (.tail _ (.tail _ (.tail _ (.head _)))) fun xx9 h => .tail _ (.tail _ (.tail _ (.tail _ (.tail _ (.tail _ h))))))))))  p h)) ?_
  refine M.setOwn (G' := (x, instObj 66 dx) :: (dx, scD { d with cnt := 1, tc := t1 } .none) :: (f.ct, ctrO f) :: (f.dct, ctrD f) :: (f.hp, heapO f) :: (f.dhp, heapD f (n + 1) tn') :: rest) (.head _) (.tail _ (.head _)) (sa66 (by simp)) rfl (fun xx9 => rfl) (.tail (Nat.ne_of_gt h1) (.head ab'.ne)) (by exact Nat.le_of_ble_eq_true rfl) ?_
  exact q1 _ _ _ ⟨x, dx, _, _, tn', rfl, fun xx9 h => h, fun p h => ab' p (.tail _ (.tail _ (.tail _ (.tail _ h)))), ab' _ (.head _), ab' _ (.tail _ (.head _)), ab' _ (.tail _ (.tail _ (.head _))), ab' _ (.tail _ (.tail _ (.tail _ (.head _)))), h1⟩
end
section
theorem Tel.get {prog : Program} {w : World} {f : Addr} {args : List Value} {dn un1 dn' un' : Nat} {l l' : Led} {post post' : Value → Led → Prop} {exc exc' : Led → Prop} (C : Tel prog w f args dn un1 l post exc) (hs : Has l l') (h1 : dn ≤ dn') (h2 : un1 ≤ un') (hp : ∀ v n, post v n → post' v n) (he : ∀ n, exc n → exc' n) : Tel prog w f args dn' un' l' post' exc' := by
  intro p loose mean mg mb dp un gd cn cs a ccd cl outer A₀ base h₀ L m s Q E B F X N T hk hd hu ret exc
  exact C p loose mean mg mb dp un gd cn cs a ccd cl outer A₀ base h₀ L m s Q E B F X (News.has N hs) T hk (Nat.lt_of_le_of_lt (Nat.add_le_add_left h1 dp) hd) (Nat.lt_of_le_of_lt (Nat.add_le_add_left h2 un) hu) (fun v n h' tk' F' N' q => ret v n h' tk' F' N' (hp v n q)) fun e n g h' tk' F' U R q => exc e n g h' tk' F' U R (he n q)
theorem ne_cons {p : Addr × Obj} {d : Nat} {l : Led} (h : p.1 ≠ d) (t : ∀ q ∈ l, q.1 ≠ d) : ∀ q ∈ p :: l, q.1 ≠ d := List.forall_mem_cons.mpr ⟨h, t⟩
theorem gaR {w : World} : GA w 162 "target" ∧ GA w 162 "is_weak" := ⟨⟨by k_is, by k_is, _, by k_is, by k_is⟩, ⟨by k_is, by k_is, _, by k_is, by k_is⟩⟩
theorem gaC {w : World} {c : Nat} (hc : c = 66 ∨ c = 85 ∨ c = 104) : GA w c "count" ∧ SA w c "count" := by
  rcases hc with rfl | rfl | rfl <;> exact ⟨⟨by k_is, by k_is, _, by k_is, by k_is⟩, ⟨by k_is, by k_is, by k_is, by k_is⟩⟩
theorem gaZ {w : World} : GA w 225 "zero" ∧ GA w 66 "number" := ⟨⟨by k_is, by k_is, _, by k_is, by k_is⟩, ⟨by k_is, by k_is, _, by k_is, by k_is⟩⟩
theorem me_l {w : World} : ME w 547 "let_go" 483 := ⟨by k_is, by k_is, by k_is, by k_is⟩
theorem cnt_len {g : TG} {i : Int} {t : Tok} {tl : List DictEntry} (h : tl.length ≤ 900) : (⟨g.h1, .str "number" g.t1, .int g.num g.tn⟩ :: ⟨g.h2, .str "count" g.t2, .int i t⟩ :: tl : List DictEntry).length ≤ 1000 := by simp only [List.length_cons]; omega
section
variable {prog : Program} {w : World} {f : Fix} {rest : Led}
theorem hold_tel {c : Value} {a da k : Nat} {ca : Nat} {g : TG} {cnt : Int} {tc : Tok} {tl : List DictEntry} (hc : ca = 66 ∨ ca = 85 ∨ ca = 104) (htl : tl.length ≤ 900) (ha : a ≠ da) (hr : ∀ p ∈ rest, p.1 ≠ da) :
    Tel prog w 476 [c, .ref a] 3 15 ((da, thG g cnt tc tl k) :: (a, instObj ca da) :: rest) (fun r n => r = .none ∧ ∃ tc', n = (da, thG g (cnt + 1) tc' tl k) :: (a, instObj ca da) :: rest) (fun xx9 => False) := by
  k_dflt (refine' Tel.ofM (dn := 2) (un' := 12) ?k6 ?k7 ?k9 ?kB ?c2 ?c3 ?c4 ?c5 ?_; (case k6 => k_is); (case k7 => k_is); (case k9 => exact fun s X => BindsTo.of_eq rfl); (case kB => exact locs rfl); (case c5 => decide); (case c2 => exact rfl); (case c3 => exact rfl); (case c4 => exact rfl))
  intro Q Z _ q1 _ Γ
  refine M.getOwn (at_ 1 rfl) (at_ 0 rfl) (gaC hc).1 rfl rfl ?_
  intro t1
  refine M.iadd fun t2 => ?_
  refine M.setOwn (at_ 1 rfl) (at_ 0 rfl) (gaC hc).2 rfl (fun xx9 => rfl) (.head (ne_cons ha hr)) (cnt_len htl) ?_
  exact q1 _ _ ⟨rfl, t2, rfl⟩
theorem let_tel {a da k ca : Nat} {g : TG} {cnt : Int} {tc : Tok} {tl : List DictEntry} {n : Int} {tn : Tok} {zs : Array Value} {ze : Nat} (hc : ca = 66 ∨ ca = 85 ∨ ca = 104) (htl : tl.length ≤ 900) (hzs : zs.size ≤ 1000) (hz : f.zr ≠ da)
    (ha : ∀ p ∈ (a, instObj ca da) :: (f.ct, ctrO f) :: (f.dct, ctrD f) :: (f.hp, heapO f) :: (f.dhp, heapD f n tn) :: rest, p.1 ≠ da) (hr : ∀ p ∈ (a, instObj ca da) :: (f.ct, ctrO f) :: (f.dct, ctrD f) :: (f.hp, heapO f) :: (f.dhp, heapD f n tn) :: rest, p.1 ≠ f.zr) :
    Tel prog w 483 [.ref f.ct, .ref a] 3 15 ((da, thG g cnt tc tl k) :: (f.zr, listOf zs ze) :: (a, instObj ca da) :: (f.ct, ctrO f) :: (f.dct, ctrD f) :: (f.hp, heapO f) :: (f.dhp, heapD f n tn) :: rest)
      (fun r n' => r = .none ∧ ∃ cnt' tc' zs' ze', zs'.size ≤ zs.size + 1 ∧ n' = (da, thG g cnt' tc' tl k) :: (f.zr, listOf zs' ze') :: (a, instObj ca da) :: (f.ct, ctrO f) :: (f.dct, ctrD f) :: (f.hp, heapO f) :: (f.dhp, heapD f n tn) :: rest) (fun xx9 => False) := by
  k_dflt (refine' Tel.ofM (dn := 2) (un' := 12) ?k6 ?k7 ?k9 ?kB ?c2 ?c3 ?c4 ?c5 ?_; (case k6 => k_is); (case k7 => k_is); (case k9 => exact fun s X => BindsTo.of_eq rfl); (case kB => exact locs rfl); (case c5 => decide); (case c2 => exact rfl); (case c3 => exact rfl); (case c4 => exact rfl))
  intro Q Z _ q1 _ Γ
  refine M.getOwn (at_ 2 rfl) (at_ 0 rfl) (gaC hc).1 rfl rfl ?_
  intro t1
  refine M.isub fun t2 => ?_
  refine M.setOwn (at_ 2 rfl) (at_ 0 rfl) (gaC hc).2 rfl (fun xx9 => rfl) (.head (ne_cons hz ha)) (cnt_len htl) ?_
  refine M.getOwn (at_ 2 rfl) (at_ 0 rfl) (gaC hc).1 rfl rfl ?_
  intro t3
  cases h0 : (cnt - 1 == 0) with
  | false =>
    refine M.eqI false h0 ?_
    exact q1 _ _ ⟨rfl, _, t2, zs, ze, Nat.le_succ _, rfl⟩
  | true =>
    refine M.eqI true h0 ?_
    refine M.getOwn (at_ 3 rfl) (at_ 4 rfl) ga_ct.1 rfl rfl ?_
    refine M.getOwn (at_ 5 rfl) (at_ 6 rfl) gaZ.1 rfl rfl ?_
    refine M.methL (at_ 1 rfl) PySem.F.slot_list_append PySem.F.type_list_append rfl ?_
    refine M.append (.tail (Ne.symm hz) (.head hr)) (Nat.le_trans hzs (by decide)) ?_
    exact q1 _ _ ⟨rfl, _, t2, _, _, Nat.le_of_eq (Array.size_push _), rfl⟩
theorem take_plain {c v : Value} {G : Led} (hv : Plain v) : Tel prog w 497 [c, v] 5 23 G (fun r n => r = v ∧ n = G) (fun xx9 => False) := by
  k_dflt (refine' Tel.ofM (dn := 4) (un' := 20) ?k6 ?k7 ?k9 ?kB ?c2 ?c3 ?c4 ?c5 ?_; (case k6 => k_is); (case k7 => k_is); (case k9 => exact fun s X => BindsTo.of_eq rfl); (case kB => exact locs rfl); (case c5 => decide); (case c2 => exact rfl); (case c3 => exact rfl); (case c4 => exact rfl))
  intro Q Z q1 _ _ Γ
  refine M.isiPlain hv ?_
  exact q1 _ _ _ ⟨rfl, rfl⟩
theorem take_ref {r dr a da k ca : Nat} {rd : RD} {g : TG} {cnt : Int} {tc : Tok} {tl : List DictEntry} (hc : ca = 66 ∨ ca = 85 ∨ ca = 104) (htl : tl.length ≤ 900) (ha : a ≠ da) (hr : ∀ p ∈ (r, instObj 162 dr) :: (dr, refD rd a) :: (f.ct, ctrO f) :: (f.dct, ctrD f) :: rest, p.1 ≠ da) :
    Tel prog w 497 [.ref f.ct, .ref r] 5 23 ((da, thG g cnt tc tl k) :: (a, instObj ca da) :: (r, instObj 162 dr) :: (dr, refD rd a) :: (f.ct, ctrO f) :: (f.dct, ctrD f) :: rest) (fun v n => v = .ref r ∧ ∃ tc', n = (da, thG g (cnt + 1) tc' tl k) :: (a, instObj ca da) :: (r, instObj 162 dr) :: (dr, refD rd a) :: (f.ct, ctrO f) :: (f.dct, ctrD f) :: rest) (fun xx9 => False) := by
  k_dflt (refine' Tel.ofM (dn := 4) (un' := 20) ?k6 ?k7 ?k9 ?kB ?c2 ?c3 ?c4 ?c5 ?_; (case k6 => k_is); (case k7 => k_is); (case k9 => exact fun s X => BindsTo.of_eq rfl); (case kB => exact locs rfl); (case c5 => decide); (case c2 => exact rfl); (case c3 => exact rfl); (case c4 => exact rfl))
  intro Q Z q1 _ _ Γ
  refine M.isiObj true (at_ 2 rfl) (at_ 3 rfl) (by decide) (by decide) rfl ?_
  refine M.meth (at_ 4 rfl) (at_ 5 rfl) me_c.2.1 rfl rfl ?_
  refine M.getOwn (at_ 2 rfl) (at_ 3 rfl) gaR.1 rfl rfl ?_
  refine M.tel (hold_tel hc htl ha hr) (fun xx9 h => h) (Nat.le_of_ble_eq_true rfl) (Nat.le_of_ble_eq_true rfl) (fun xx9 h => h.elim) ?_
  rintro _ _ ⟨rfl, tc', rfl⟩
  refine M.getOwn (at_ 2 rfl) (at_ 3 rfl) gaR.2 rfl rfl ?_
  exact q1 _ _ _ ⟨rfl, tc', rfl⟩
end
end
section
section
variable {prog : Program} {w : World} {A : Around} {E : Value → Shared → Prop} {s : Shared} {h₀ : Heap} {L : Addr} {m : Str → Option Value} {env : Env}
theorem CompEnd_mono {s₁ s₂ : Shared} {I C D : Addr} {oI oC oD : Obj} {S : Led → Prop} {r r' : Value → Led → Prop} {y : Value} (h : LCg.CompEnd h₀ L m s₁ I oI C oC D oD S r y s₂) (f : ∀ y n, S n → r y n → r' y n) : LCg.CompEnd h₀ L m s₁ I oI C oC D oD S r' y s₂ := by
  obtain ⟨h', tk, news', e, F, N, o, hS, q⟩ := h
  exact ⟨h', tk, news', e, F, N, o, hS, f _ _ hS q⟩
theorem comp_ind {elt : PySem.Expr} {x : Str} {scope : Scope} {cl : List (Str × Addr)} {S : Led → Prop} {P : Nat → Value → Prop} {Fin : List Value → Led → Prop} {n : Nat} (inv : Nat → List Value → Led → Prop)
    (h0 : ∀ ys news, S news → inv n ys news → Fin ys news)
    (hc : ∀ i ys news v I oI C oC D m₂ h tk (E' : Value → Shared → Prop), i < n → inv i ys news → S news → P i v → LCg.NsObj oC m₂ → m₂ x = some v → Fr h₀ L h m → News h₀ L h ((I, oI) :: (C, oC) :: (D, LCg.lst ys) :: news) → LCg.Off3 I C D news → ((@Ne Nat I C) ∧ (@Ne Nat I D) ∧ (@Ne Nat C D)) →
      wpAny (model prog w) A (eval elt (compEnvC scope cl C env)) (LCg.CompEnd h₀ L m { s with heap := h, toks := tk } I oI C oC D (LCg.lst ys) S (fun y news' => inv (i + 1) (ys ++ [y]) news')) E' { s with heap := h, toks := tk }) :
    ∀ k i ys news, i + k = n → S news → inv i ys news → LCg.CompRest prog w A h₀ L m env elt x scope cl s S P Fin k i ys news
  | 0, i, ys, news, e, hS, hi => LCg.CompRest.zero (h0 _ _ hS (by rw [Nat.add_zero] at e; exact e ▸ hi))
  | k + 1, i, ys, news, e, hS, hi => LCg.CompRest.succ fun v I oI C oC D m₂ h tk E' p1 p2 p3 p4 p5 p6 p7 =>
    wpAny_mono (hc i ys news v I oI C oC D m₂ h tk E' (by omega) hi hS p1 p2 p3 p4 p5 p6 p7) (fun xx9 xx9 q => CompEnd_mono q fun y nw hS' r => comp_ind inv h0 hc k (i + 1) _ _ (by omega) hS' r) fun xx9 xx9 e => e
noncomputable def DSrc (prog : Program) (w : World) (A : Around) (h₀ : Heap) (L : Addr) (m : Str → Option Value) (env : Env) (elt : PySem.Expr) (x : Str) (scope : Scope) (cl : List (Str × Addr)) (Q : Value → Shared → Prop) (xv : Value) (s₁ : Shared) : Prop := ∃ d o kvs news, xv = .ref d ∧ A.handled = none ∧ Fr h₀ L s₁.heap m ∧ News h₀ L s₁.heap news ∧ (d, o) ∈ news ∧ o.IsDictOf (strKind prog w) kvs ∧ (d == sysModules) = false ∧ kvs.length ≤ sizeLine ∧
      ∀ s₂ : Shared, (∃ h, s₂ = { s₁ with heap := h }) → LCg.CompRest prog w A h₀ L m env elt x scope cl s₂ (fun nl => (d, o) ∈ nl) (fun i v => ∃ k y, kvs[i]? = some (k, y) ∧ (strKind prog w).is k v = true) (LCg.FinE h₀ L m s₂ Q) kvs.length 0 [] news
theorem ListComp_D {elt iter : PySem.Expr} {x : Str} {px : Pos} {scope : Scope} {cl : List (Str × Addr)} {pos : Pos} {Q : Value → Shared → Prop} (F₀ : Fr h₀ L s.heap m)
    (hclos : closureFor scope env = pure cl) (hcell : ∀ y ∈ scope.names, y.2 ≠ .cell) (hkind : scope.kind = .function)
    (hnames : ∀ y ∈ scope.names, y.2 = .local → scope.names.lookup y.1 = some .local) (hx : scope.names.lookup x = some .local)
    (h : wpAny (model prog w) A (eval iter env) (DSrc prog w A h₀ L m env elt x scope cl Q) E s)
    (hs : ∀ x, foldedSetIterable iter env x = pure x) :
    wpAny (model prog w) A (eval (.ListComp elt [⟨.Name x px, iter, [], 0⟩] scope pos) env) Q E s := by
  rw [eval_ListComp]
  refine wpAny_comprehension_free (use := none) rfl hs hclos hkind hnames (wpAny_mono h (fun xv s₁ h₁ => ?_) fun xx9 xx9 e => e)
  obtain ⟨d, o, kvs, news, rfl, hh, F, N, hm, hd, lo, hsz, R⟩ := h₁
  obtain ⟨ep, ha⟩ := KdkAt.of hd
  have hl := ha.dictAt (N _ hm).1
  have hlt : d < s₁.heap.objs.size := Heap.lt_size (N _ hm).1
  refine wpAny_pyIter_dict lo hl ?_
  have up : ∀ (ob : Obj) b o, s₁.heap.get? b = some o → (s₁.heap.push ob).get? b = some o := fun ob b o e => Heap.get?_push_of_some _ e
  refine LCg.block_U (Walks.dictKeys (knd := strKind prog w) hh s₁.heap.objs.size d (Nat.ne_of_lt hlt) kvs ep) hsz (fun i h st => by obtain ⟨o, e, _⟩ := st.1; exact ⟨o, e⟩) (fun i h h' o9 nw st e e' k9 N9 S9 => ⟨by obtain ⟨o', q, r⟩ := st.1; rw [e] at q; cases q; exact ⟨o9, e', r⟩, ha.dictAt (N9 _ S9).1⟩) hcell hkind hx ⟨⟨_, Heap.get?_push_size _ rfl, rfl, rfl⟩, ha.dictAt (up _ _ _ (N _ hm).1)⟩ (fun b hb => ?_)
    (F.keeps (up _)) (N.grown (up _)) (Nat.ne_of_lt F.ns.lt) (next_is_new F) (fun p hp => Nat.ne_of_lt (Heap.lt_size (N p hp).1)) hm (R _ ⟨_, rfl⟩) ?_
  · show b < (s₁.heap.push _).objs.size
    rw [Heap.size_push]
    rcases List.mem_cons.mp hb with rfl | hb
    · exact Nat.lt_succ_self _
    · rw [List.mem_singleton.mp hb]; exact Nat.lt_succ_of_lt hlt
  · intro D C h tk m' ys news' F' N' o1 hn hC₀ hD₀ hCL hDL hCD offC fin
    refine ⟨m', hn, fun h'' hs'' => fin D h'' tk (F'.change hs'' hCL hC₀) (fun p hp => ?_) o1⟩
    refine ⟨hs''.extBut _ _ ?_ (N' p hp).1, (N' p hp).2⟩
    rcases List.mem_cons.mp hp with rfl | hp
    · exact Ne.symm hCD
    · exact offC p hp
end
theorem ne_up1 {d : Nat} {l : Led} (h : AllLt d l) : ∀ p ∈ l, p.1 ≠ d + 1 := fun p hp => Nat.ne_of_lt (Nat.lt_succ_of_lt (above_of h p hp))
end
section
theorem RaisesTo.no {h₀ : Heap} {L : Addr} {gn : Array GenState} {dr : Drawn} {os : OsState} {E' : Value → Shared → Prop} : RaisesTo h₀ L gn dr os (fun xx9 => False) E' := fun xx9 xx9 xx9 xx9 xx9 xx9 xx9 xx9 xx9 xx9 q => q.elim
theorem Tel.ofCell {prog : Program} {w : World} {f : Addr} {args : List Value} {dn un' : Nat} {news : Led} {post : Value → Led → Prop} {name qual : Str} {params : Arguments} {body : List Stmt} {scope : Scope} {dV kV doc pm cdv ct oc : Value} {an od : Option Addr} {osl : Array (Option Value)} {binds : List (Str × Value)} {xc : Str} {ov : Option Value} {l : List (Str × Value)}
    (ho : (hp0.heap_1_39 w.params).lookup f = some ⟨oc, od, .func (fnOf name qual params body scope dV kV doc pm an cdv ct), osl⟩) (hcd : codeIn (hp0.heap_1_39 w.params) cdv qual = true)
    (hbind : ∀ s, (hp0.heap_1_39 w.params).In s.heap → BindsTo s (fnOf name qual params body scope dV kV doc pm an cdv ct) ⟨args, []⟩ binds) (hkind : (binds.all fun y => scope.names.lookup y.1 == some .local || scope.names.lookup y.1 == some .cell) = true)
    (hc : ∀ n, cellsFrom n scope.names [] = [(xc, n)]) (hl : ∀ L', bindL (envOfC qual scope L' f cdv).kindOf binds (fun xx9 => Option.none) = look ⟨l, fun xx9 => Option.none⟩) (hv : ∀ L', bindC (envOfC qual scope L' f cdv).kindOf binds (fun xx9 => Option.none) xc = ov)
    (hco : scope.isCoroutine = false) (hgen : scope.isGenerator = false) (hk : scope.kind = .function)
    (h : ∀ (Q : Flow → (Str → Option Value) → Led → Prop) (L c : Addr) (o : Obj), o.data = .cell ov → Above c news → (∀ v m G', post v G' → Q (.ret v) m G') → (∀ m G', post .none G' → Q .next m G') → let Γ : Cx := ⟨prog, w, ⟨qual, scope, f, cdv, [(xc, c)], some L, Option.none, false⟩, dn, un', Q, fun xx9 => False, hk⟩; Cx.N Γ 90 (.st body) [] ⟨l, fun xx9 => Option.none⟩ ((c, o) :: news)) :
    Tel prog w f args (dn + 1) (un' + 3) news post (fun xx9 => False) := by
  intro p loose mean mg mb dp un gd cn cs a ccd cl outer A₀ base h₀ L m s Q E B F X N T hk2 hd hu ret exc
  refine wpAny_call (code_defC B F X N T rfl rfl hk2 ho hcd (by dsimp only [ktrTop]; omega) (hbind s (X.keeps F.keep)) hkind (by rw [hc]; simp) (fun g L' h₁ tk cells FG F' N' Y B' X' T' l1 => ?_) hco hgen hk)
  rw [hc] at Y
  obtain ⟨o, rfl, hoc⟩ := CellsAre.one Y
  rw [hv L'] at hoc
  rw [hl L'] at F'
  have e : envOfC qual scope L' f cdv = envX qual scope L' f cdv [(xc, L' + 1)] := by unfold envOfC; rw [hc]
  rw [e]
  have H := Cx.N_ok (h (fun fl xx9 G' => post (match fl with | .ret v => v | _ => .none) G') L' (L' + 1) o hoc (fun p hp => Nat.lt_succ_of_lt (l1 p hp)) (fun xx9 xx9 xx9 q => q) fun xx9 xx9 q => q)
  refine H p loose mean mg mb (dp + 1) (un + 3) gd (envX cn cs L a ccd cl :: outer) _ base g L' { s with heap := h₁, toks := tk } _ _ B' F' X' N' T' (by show dp + 1 + dn < recursionLimit; omega) ⟨by show un + 3 + un' < cLine; omega, by passes_own, .inr RaisesTo.no, ⟨fun a h => Option.some.inj h, fun h => nomatch h⟩⟩ ?_ fun xx9 xx9 xx9 xx9 xx9 xx9 xx9 xx9 xx9 q => q.elim
  intro fl m' G' h' tk' F2 N2 q
  exact leaveK_ F2 N2 fun F3 N3 => ret _ _ _ _ F3 N3 q
theorem bindL_add {kind : Str → Option NameKind} {n : Str} {v : Value} {r : List (Str × Value)} {ml : Ml} (h : kind n = some .local) : bindL kind ((n, v) :: r) (look ml) = bindL kind r (look (ml.add n v)) := by
  rw [bindL, if_pos h, look_add]; rfl
theorem bindL_skip {kind : Str → Option NameKind} {n : Str} {v : Value} {r : List (Str × Value)} {m : Str → Option Value} (h : kind n = some .cell) : bindL kind ((n, v) :: r) m = bindL kind r m := by
  rw [bindL, h]; rfl
noncomputable abbrev Cx.inC (Γ : Cx) (sc : Scope) (cl : List (Str × Addr)) (C : Addr) (Q : Flow → (Str → Option Value) → Led → Prop) : Cx := ⟨Γ.prog, Γ.w, ⟨Γ.φ.q, Γ.φ.sc, Γ.φ.fa, Γ.φ.cd, Γ.φ.cl, Γ.φ.fix, some (sc, cl, C), Γ.φ.top⟩, Γ.dn, Γ.un, Q, fun xx9 => False, Γ.hk⟩
namespace M
variable {Γ : Cx} {K : List Fm} {ml : Ml} {G : Led}
theorem cell {x : Str} {pos : Pos} {c : Addr} {o : Obj} {v : Value} (hk : (Γ.φ.env 0).kindOf x = some .cell) (hc : Γ.φ.cl.lookup x = some c) (hm : (c, o) ∈ G) (hd : o.data = .cell (some v)) (hb : (x == ("__debug__" : Str)) = false) (h : Γ.N 90 (.sg (.v v)) K ml G) (ht : Γ.φ.tr = Option.none := by rfl) : Γ.W (.ev (.Name x pos)) K ml G := by
  intro p loose mean mg mb dp un gd outer A₀ base h₀ L s Q' E' B F X N T hd2 hu ret exc
  rw [(Cx.ok ht).e]
  exact nameX_C N hc hm hd (ret v _ G s.heap s.toks F N (Cx.N_ok h)) Γ.hk ((Cx.ok ht).k L hk) hb
theorem assignC {x : Str} {px pos : Pos} {e : PySem.Expr} {rest : List Stmt} {c : Addr} {o : Obj} {v : Value} {v₀ : Option Value} {g : Obj → Led} (hk : (Γ.φ.env 0).kindOf x = some .cell) (hc : Γ.φ.cl.lookup x = some c) (hn : noSw e = true) (U : UpdF c o G g) (hd : o.data = .cell v₀)
    (he : ∀ Q2 : Flow → (Str → Option Value) → Led → Prop, Q2 (.ret v) (look ml) G → Cx.N (Γ.wQ Q2) 90 (.ev e) [.ret] ml G) (h : ∀ o', o'.data = .cell (some v) → Γ.N 90 (.st rest) K ml (g o')) (ht : Γ.φ.tr = Option.none := by rfl) : Γ.W (.st (.Assign [.Name x px] e pos :: rest)) K ml G := by
  have H := Cx.N_ok (he (fun fl m1 G1 => fl = .ret v ∧ m1 = look ml ∧ G1 = G) ⟨rfl, rfl, rfl⟩)
  refine R.cons ?_
  intro p loose mean mg mb dp un gd outer A₀ base h₀ L s Q' E' B F X N T hd2 hu ret exc
  refine wpAny_Assign_Name (H p loose mean mg mb dp un gd outer A₀ base h₀ L s _ E' B F X N T hd2 hu (fun v1 m1 G1 h1 t1 F1 N1 q => ?_) exc) (sw_he hn)
  obtain ⟨e1, rfl, rfl⟩ := q
  cases e1
  rw [(Cx.ok ht).e]
  exact storeX_C (cl := Γ.φ.cl) F1 N1 hc U hd (fun h' o' F' N' d' => ret .next _ _ h' _ F' N' (Cx.N_ok (h o' d'))) Γ.hk ((Cx.ok ht).k L hk)
end M
end
section
section
variable {prog : Program} {w : World} {f : Fix} {rest : Led}
theorem put_plain {c v : Value} {x : Nat} {G : Led} (hv : Plain v) : Tel prog w 502 [c, .ref x, v] 5 23 G (fun r n => r = .none ∧ Has G n) (fun xx9 => False) := by
  k_dflt (refine' Tel.ofCell (dn := 4) (un' := 20) (xc := "scalar") (ov := some (.ref x)) (l := [("value", v), ("self", c)]) ?k6 ?k7 ?k9 ?kB ?cA ?cB ?cC ?c2 ?c3 ?c4 ?_; (case k6 => k_is); (case k7 => k_is); (case k9 => exact fun s X => BindsTo.of_eq rfl); (case kB => exact rfl); (case cA => exact fun n => rfl); (case cB => exact fun n => (bindL_add (ml := ⟨[], fun xx9 => Option.none⟩) rfl).trans ((bindL_skip rfl).trans (bindL_add rfl))); (case cC => exact fun n => rfl); (case c2 => exact rfl); (case c3 => exact rfl); (case c4 => exact rfl))
  intro Q L c o hd a q1 q2 Γ
  refine M.isiPlain hv ?_
  exact q1 _ _ _ ⟨rfl, fun p hp => .tail _ hp⟩
theorem put_ref {x : Nat} {r dr a da k ca : Nat} {rd : RD} {g : TG} {cnt : Int} {tc : Tok} {tl : List DictEntry} {n : Int} {tn : Tok} {zs : Array Value} {ze : Nat} (hc : ca = 66 ∨ ca = 85 ∨ ca = 104) (htl : tl.length ≤ 900) (hzs : zs.size ≤ 1000) (hz : f.zr ≠ da)
    (ha : ∀ p ∈ (a, instObj ca da) :: (f.ct, ctrO f) :: (f.dct, ctrD f) :: (f.hp, heapO f) :: (f.dhp, heapD f n tn) :: (r, instObj 162 dr) :: (dr, refD rd a) :: rest, p.1 ≠ da) (hr : ∀ p ∈ (a, instObj ca da) :: (f.ct, ctrO f) :: (f.dct, ctrD f) :: (f.hp, heapO f) :: (f.dhp, heapD f n tn) :: (r, instObj 162 dr) :: (dr, refD rd a) :: rest, p.1 ≠ f.zr) :
    Tel prog w 502 [.ref f.ct, .ref x, .ref r] 5 23 ((da, thG g cnt tc tl k) :: (f.zr, listOf zs ze) :: (a, instObj ca da) :: (f.ct, ctrO f) :: (f.dct, ctrD f) :: (f.hp, heapO f) :: (f.dhp, heapD f n tn) :: (r, instObj 162 dr) :: (dr, refD rd a) :: rest)
      (fun v n' => v = .none ∧ ∃ cnt' tc' zs' ze', zs'.size ≤ zs.size + 1 ∧ Has ((da, thG g cnt' tc' tl k) :: (f.zr, listOf zs' ze') :: (a, instObj ca da) :: (f.ct, ctrO f) :: (f.dct, ctrD f) :: (f.hp, heapO f) :: (f.dhp, heapD f n tn) :: (r, instObj 162 dr) :: (dr, refD rd a) :: rest) n') (fun xx9 => False) := by
  k_dflt (refine' Tel.ofCell (dn := 4) (un' := 20) (xc := "scalar") (ov := some (.ref x)) (l := [("value", .ref r), ("self", .ref f.ct)]) ?k6 ?k7 ?k9 ?kB ?cA ?cB ?cC ?c2 ?c3 ?c4 ?_; (case k6 => k_is); (case k7 => k_is); (case k9 => exact fun s X => BindsTo.of_eq rfl); (case kB => exact rfl); (case cA => exact fun n => rfl); (case cB => exact fun n => (bindL_add (ml := ⟨[], fun xx9 => Option.none⟩) rfl).trans ((bindL_skip rfl).trans (bindL_add rfl))); (case cC => exact fun n => rfl); (case c2 => exact rfl); (case c3 => exact rfl); (case c4 => exact rfl))
  intro Q L c o hd a q1 q2 Γ
  refine M.isiObj true (at_ 8 rfl) (at_ 9 rfl) (by decide) (by decide) rfl ?_
  refine M.getOwn (at_ 8 rfl) (at_ 9 rfl) gaR.2 rfl rfl ?_
  refine M.meth (at_ 4 rfl) (at_ 5 rfl) me_l rfl rfl ?_
  refine M.getOwn (at_ 8 rfl) (at_ 9 rfl) gaR.1 rfl rfl ?_
  refine M.tel (let_tel hc htl hzs hz ha hr) (fun p hp => .tail _ hp) (Nat.le_of_ble_eq_true rfl) (Nat.le_of_ble_eq_true rfl) (fun xx9 h => h.elim) ?_
  rintro _ _ ⟨rfl, cnt', tc', zs', ze', hq, rfl⟩
  exact q2 _ _ ⟨rfl, _, _, _, _, hq, fun p hp => hp⟩
end
end
section
section
variable {prog : Program} {w : World} {f : Fix} {rest : Led}
theorem store_gen {x dx : Nat} {d : TD} {v0 v : Value} {rest : Led} {R1 : Led → Prop} {P : Led → Prop} (po : f.po.IsDictOf (intKind prog w) []) (hpl : 1 < f.pl) (hv0 : handedIn v0 = true) (hx : ∀ p ∈ (x, instObj 66 dx) :: (f.ct, ctrO f) :: (f.dct, ctrD f) :: (f.pl, f.po) :: [], p.1 ≠ dx)
    (C1 : Tel prog w 497 [.ref f.ct, v] 5 23 ((dx, scD d v0) :: (x, instObj 66 dx) :: (f.ct, ctrO f) :: (f.dct, ctrD f) :: (f.pl, f.po) :: rest) (fun r n => r = v ∧ ∃ rest1, R1 rest1 ∧ (∀ p ∈ rest1, p.1 ≠ dx) ∧ Has ((dx, scD d v0) :: (x, instObj 66 dx) :: (f.ct, ctrO f) :: (f.dct, ctrD f) :: (f.pl, f.po) :: rest1) n) (fun xx9 => False))
    (C2 : ∀ rest1, R1 rest1 → Tel prog w 502 [.ref f.ct, .ref x, v0] 5 23 ((dx, scD d v) :: (x, instObj 66 dx) :: (f.ct, ctrO f) :: (f.dct, ctrD f) :: (f.pl, f.po) :: rest1) (fun r n => r = .none ∧ P n) (fun xx9 => False)) :
    Tel prog w 509 [.ref f.ct, .ref x, v] 10 60 ((dx, scD d v0) :: (x, instObj 66 dx) :: (f.ct, ctrO f) :: (f.dct, ctrD f) :: (f.pl, f.po) :: rest) (fun r n => r = .none ∧ P n) (fun xx9 => False) := by
  k_dflt (refine' Tel.ofM (dn := 9) (un' := 57) ?k6 ?k7 ?k9 ?kB ?c2 ?c3 ?c4 ?c5 ?_; (case k6 => k_is); (case k7 => k_is); (case k9 => exact fun s X => BindsTo.of_eq rfl); (case kB => exact locs rfl); (case c5 => decide); (case c2 => exact rfl); (case c3 => exact rfl); (case c4 => exact rfl))
  intro Q Z _ q1 _ Γ
  refine M.getOwn (at_ 2 rfl) (at_ 3 rfl) ga_ct.2 rfl rfl ?_
  refine M.methD (at_ 4 rfl) po PySem.F.slot_dict_pop PySem.F.type_dict_pop rfl ?_
  refine M.getOwn (at_ 1 rfl) (at_ 0 rfl) gaZ.2 rfl rfl ?_
  refine M.pop (at_ 4 rfl) po hpl ?_
  refine M.getOwn (at_ 1 rfl) (at_ 0 rfl) ga_magic rfl rfl ?_
  refine M.isNot false rfl ?_
  refine M.getOwn (at_ 1 rfl) (at_ 0 rfl) ga_value rfl hv0 ?_
  refine M.meth (at_ 2 rfl) (at_ 3 rfl) me_c.1 rfl rfl ?_
  refine M.tel C1 (fun xx9 h => h) (Nat.le_of_ble_eq_true rfl) (Nat.le_of_ble_eq_true rfl) (fun xx9 h => h.elim) ?_
  rintro v _ ⟨rfl, rest1, hR, hr1, hs⟩
  refine M.led (c := .sa _ _ _) ((dx, scD d v0) :: (x, instObj 66 dx) :: (f.ct, ctrO f) :: (f.dct, ctrD f) :: (f.pl, f.po) :: rest1) (by exact trivial) hs ?_
  refine M.setOwn (G' := (dx, scD d v) :: (x, instObj 66 dx) :: (f.ct, ctrO f) :: (f.dct, ctrD f) :: (f.pl, f.po) :: rest1) (at_ 1 rfl) (at_ 0 rfl) (sa66 (by simp)) rfl (fun xx9 => rfl) (.head (fun p hp => (List.mem_append (s := [(x, instObj 66 dx), (f.ct, ctrO f), (f.dct, ctrD f), (f.pl, f.po)]).mp hp).elim (hx p) (hr1 p))) (by exact Nat.le_of_ble_eq_true rfl) ?_
  refine M.meth (at_ 2 rfl) (at_ 3 rfl) me_c.2.2.1 rfl rfl ?_
  refine M.tel (C2 rest1 hR) (fun xx9 h => h) (Nat.le_of_ble_eq_true rfl) (Nat.le_of_ble_eq_true rfl) (fun xx9 h => h.elim) ?_
  rintro _ _ ⟨rfl, q⟩
  exact q1 _ _ ⟨rfl, q⟩
theorem Has.trans {a b c : Led} (h1 : Has a b) (h2 : Has b c) : Has a c := fun p hp => h2 p (h1 p hp)
theorem ne_app {d : Nat} {a b : Led} (h1 : ∀ p ∈ a, p.1 ≠ d) (h2 : ∀ p ∈ b, p.1 ≠ d) : ∀ p ∈ a ++ b, p.1 ≠ d := fun p hp => (List.mem_append.mp hp).elim (h1 p) (h2 p)
theorem ne_map {d : Nat} : ∀ {l : Led}, Apart d (l.map (·.1)) → ∀ p ∈ l, p.1 ≠ d := fun h p hp => h _ (List.mem_map.mpr ⟨p, hp, rfl⟩)
theorem Apart.pick {d : Nat} {l : List Nat} (h : Apart d l) (ks : List Nat) {l0 : List Nat} (e : ks.filterMap (fun k => l[k]?) = l0) : Apart d l0 := fun x hx => by
  subst e
  obtain ⟨k, -, hk⟩ := List.mem_filterMap.mp hx
  exact h x (List.mem_of_getElem? hk)
theorem store_plain {prog : Program} {w : World} {f : Fix} {x dx : Nat} {d : TD} {v0 v : Value} {rest : Led}
   (po : f.po.IsDictOf (intKind prog w) []) (hpl : 1 < f.pl) (hv0 : Plain v0) (hv : Plain v)
   (a1 : Apart dx [x, f.ct, f.dct, f.pl]) (b1 : ∀ p ∈ rest, p.1 ≠ dx) :
  Tel prog w 509 [.ref f.ct, .ref x, v] 10 60 ((x, instObj 66 dx) :: (dx, scD d v0) :: (f.ct, ctrO f) :: (f.dct, ctrD f) :: (f.pl, f.po) :: rest)
    (fun r news' => r = .none ∧ Has ((x, instObj 66 dx) :: (dx, scD d v) :: (f.ct, ctrO f) :: (f.dct, ctrD f) :: (f.pl, f.po) :: rest) news') (fun xx9 => False) :=
  Tel.get (store_gen (R1 := fun r => r = rest) po hpl hv0.handed (ne_map a1) (Tel.get (take_plain hv) (fun xx9 h => h) (Nat.le_refl _) (Nat.le_refl _) (fun r n q => ⟨q.1, rest, rfl, b1, by rw [q.2]; exact fun xx9 h => h⟩) fun xx9 h => h) (by rintro _ rfl; exact put_plain hv0)) (perm [1, 0] 2 rfl) (Nat.le_refl _) (Nat.le_refl _) (fun r n q => ⟨q.1, Has.trans (perm [1, 0] 2 rfl) q.2⟩) fun xx9 h => h
theorem store_ref {prog : Program} {w : World} {f : Fix} {x dx r dr a c da k : Nat} {d : TD} {v0 : Value} {rd : RD} {g : TG} {cnt : Int} {tc : Tok} {tl : List DictEntry} {rest : Led}
   (po : f.po.IsDictOf (intKind prog w) []) (hpl : 1 < f.pl) (hv0 : Plain v0) (hc : c = 66 ∨ c = 85 ∨ c = 104) (htl : tl.length ≤ 900)
   (a1 : Apart dx [x, f.ct, f.dct, f.pl, r, dr, a, da]) (b1 : ∀ p ∈ rest, p.1 ≠ dx) (a2 : Apart da [x, f.ct, f.dct, f.pl, r, dr, a]) (b2 : ∀ p ∈ rest, p.1 ≠ da) :
  Tel prog w 509 [.ref f.ct, .ref x, .ref r] 10 60 ((x, instObj 66 dx) :: (dx, scD d v0) :: (f.ct, ctrO f) :: (f.dct, ctrD f) :: (f.pl, f.po) :: (r, instObj 162 dr) :: (dr, refD rd a) :: (a, instObj c da) :: (da, thG g cnt tc tl k) :: rest)
    (fun v news' => ∃ tc', v = .none ∧ Has ((x, instObj 66 dx) :: (dx, scD d (.ref r)) :: (f.ct, ctrO f) :: (f.dct, ctrD f) :: (f.pl, f.po) :: (r, instObj 162 dr) :: (dr, refD rd a) :: (a, instObj c da) :: (da, thG g (cnt + 1) tc' tl k) :: rest) news') (fun xx9 => False) := by
  refine Tel.get (store_gen (d := d) (rest := (r, instObj 162 dr) :: (dr, refD rd a) :: (a, instObj c da) :: (da, thG g cnt tc tl k) :: rest) (R1 := fun rest1 => ∃ tc', rest1 = (r, instObj 162 dr) :: (dr, refD rd a) :: (a, instObj c da) :: (da, thG g (cnt + 1) tc' tl k) :: rest)
    (P := fun n => ∃ tc', Has ((dx, scD d (.ref r)) :: (x, instObj 66 dx) :: (f.ct, ctrO f) :: (f.dct, ctrD f) :: (f.pl, f.po) :: (r, instObj 162 dr) :: (dr, refD rd a) :: (a, instObj c da) :: (da, thG g (cnt + 1) tc' tl k) :: rest) n) po hpl hv0.handed (ne_map (a1.pick [0, 1, 2, 3] rfl)) ?_ ?_) (perm [1, 0] 2 rfl) (Nat.le_refl _) (Nat.le_refl _) (fun v n q => ?_) fun xx9 h => h
  · refine Tel.get (take_ref (f := f) (rest := (f.pl, f.po) :: (x, instObj 66 dx) :: (dx, scD d v0) :: rest) hc htl (a2 _ (List.mem_of_getElem? (i := 6) rfl)) (ne_app (ne_map (l := [(r, instObj 162 dr), (dr, refD rd a), (f.ct, ctrO f), (f.dct, ctrD f), (f.pl, f.po), (x, instObj 66 dx)]) (a2.pick [4, 5, 1, 2, 3, 0] rfl)) (ne_cons (Ne.symm (a1 _ (List.mem_of_getElem? (i := 7) rfl))) b2))) (perm [8, 7, 5, 6, 2, 3, 4, 1, 0] 9 rfl) (Nat.le_refl _) (Nat.le_refl _) (fun v n q => ?_) fun xx9 h => h
    obtain ⟨rfl, tc', rfl⟩ := q
    exact ⟨rfl, _, ⟨tc', rfl⟩, ne_app (ne_map (l := [(r, instObj 162 dr), (dr, refD rd a), (a, instObj c da), (da, thG g (cnt + 1) tc' tl k)]) (a1.pick [4, 5, 6, 7] rfl)) b1, perm [8, 7, 4, 5, 6, 2, 3, 1, 0] 9 rfl⟩
  · rintro _ ⟨tc', rfl⟩
    exact Tel.get (put_plain hv0) (fun xx9 h => h) (Nat.le_refl _) (Nat.le_refl _) (fun xx9 xx9 q => ⟨q.1, tc', q.2⟩) fun xx9 h => h
  · obtain ⟨rfl, tc', h⟩ := q
    exact ⟨tc', rfl, Has.trans (perm [1, 0] 2 rfl) h⟩
theorem store_plain0 {prog : Program} {w : World} {f : Fix} {x dx r0 dr0 a0 c0 da0 k0 : Nat} {d : TD} {rd0 : RD} {g0 : TG} {cnt0 : Int} {tc0 : Tok} {tl0 : List DictEntry} {v : Value} {n : Int} {tn : Tok} {zs : Array Value} {ze : Nat} {rest : Led}
   (po : f.po.IsDictOf (intKind prog w) []) (hpl : 1 < f.pl) (hc0 : c0 = 66 ∨ c0 = 85 ∨ c0 = 104) (htl0 : tl0.length ≤ 900) (hzs : zs.size ≤ 1000) (hv : Plain v)
   (ap0 : Apart dx [x, f.ct, f.dct, f.pl, r0, dr0, a0, da0, f.hp, f.dhp, f.zr]) (bp0 : ∀ p ∈ rest, p.1 ≠ dx) (ap1 : Apart da0 [x, f.ct, f.dct, f.pl, dx, r0, dr0, a0, f.hp, f.dhp, f.zr]) (bp1 : ∀ p ∈ rest, p.1 ≠ da0) (ap2 : Apart f.zr [x, f.ct, f.dct, f.pl, dx, r0, dr0, a0, da0, f.hp, f.dhp]) (bp2 : ∀ p ∈ rest, p.1 ≠ f.zr) :
  Tel prog w 509 [.ref f.ct, .ref x, v] 10 60 ((x, instObj 66 dx) :: (dx, scD d (.ref r0)) :: (f.ct, ctrO f) :: (f.dct, ctrD f) :: (f.pl, f.po) :: (r0, instObj 162 dr0) :: (dr0, refD rd0 a0) :: (a0, instObj c0 da0) :: (da0, thG g0 cnt0 tc0 tl0 k0) :: (f.hp, heapO f) :: (f.dhp, heapD f n tn) :: (f.zr, listOf zs ze) :: rest)
    (fun v' news' => ∃ (cnt' : Int) (tc' tc9 : Tok) (zs' : Array Value) (ze' : Nat), v' = .none ∧ Has ((x, instObj 66 dx) :: (dx, scD d v) :: (f.ct, ctrO f) :: (f.dct, ctrD f) :: (f.pl, f.po) :: (r0, instObj 162 dr0) :: (dr0, refD rd0 a0) :: (a0, instObj c0 da0) :: (da0, thG g0 cnt' tc9 tl0 k0) :: (f.hp, heapO f) :: (f.dhp, heapD f n tn) :: (f.zr, listOf zs' ze') :: rest) news' ∧ zs'.size ≤ zs.size + 1) (fun xx9 => False) := by
  refine Tel.get (store_gen (d := d) (v := v) (R1 := fun r => r = (r0, instObj 162 dr0) :: (dr0, refD rd0 a0) :: (a0, instObj c0 da0) :: (da0, thG g0 cnt0 tc0 tl0 k0) :: (f.hp, heapO f) :: (f.dhp, heapD f n tn) :: (f.zr, listOf zs ze) :: rest)
    (P := fun n' => ∃ (cnt' : Int) (tc9 : Tok) (zs' : Array Value) (ze' : Nat), zs'.size ≤ zs.size + 1 ∧ Has ((dx, scD d v) :: (x, instObj 66 dx) :: (f.ct, ctrO f) :: (f.dct, ctrD f) :: (f.pl, f.po) :: (r0, instObj 162 dr0) :: (dr0, refD rd0 a0) :: (a0, instObj c0 da0) :: (da0, thG g0 cnt' tc9 tl0 k0) :: (f.hp, heapO f) :: (f.dhp, heapD f n tn) :: (f.zr, listOf zs' ze') :: rest) n') po hpl rfl (ne_map (ap0.pick [0, 1, 2, 3] rfl)) ?_ ?_) (perm [1, 0] 2 rfl) (Nat.le_refl _) (Nat.le_refl _) (fun v n q => ?_) fun xx9 h => h
  · exact Tel.get (take_plain hv) (fun xx9 h => h) (Nat.le_refl _) (Nat.le_refl _) (fun r n' q => ⟨q.1, _, rfl, ne_app (ne_map (l := [(r0, instObj 162 dr0), (dr0, refD rd0 a0), (a0, instObj c0 da0), (da0, thG g0 cnt0 tc0 tl0 k0), (f.hp, heapO f), (f.dhp, heapD f n tn), (f.zr, listOf zs ze)]) (ap0.pick [4, 5, 6, 7, 8, 9, 10] rfl)) bp0, by rw [q.2]; exact fun xx9 h => h⟩) fun xx9 h => h
  · rintro _ rfl
    refine Tel.get (put_ref (f := f) (rest := (dx, scD d v) :: (x, instObj 66 dx) :: (f.pl, f.po) :: rest) hc0 htl0 hzs (ap1 _ (List.mem_of_getElem? (i := 10) rfl)) (ne_app (ne_map (l := [(a0, instObj c0 da0), (f.ct, ctrO f), (f.dct, ctrD f), (f.hp, heapO f), (f.dhp, heapD f n tn), (r0, instObj 162 dr0), (dr0, refD rd0 a0), (dx, scD d v), (x, instObj 66 dx), (f.pl, f.po)]) (ap1.pick [7, 1, 2, 8, 9, 5, 6, 4, 0, 3] rfl)) bp1)
      (ne_app (ne_map (l := [(a0, instObj c0 da0), (f.ct, ctrO f), (f.dct, ctrD f), (f.hp, heapO f), (f.dhp, heapD f n tn), (r0, instObj 162 dr0), (dr0, refD rd0 a0), (dx, scD d v), (x, instObj 66 dx), (f.pl, f.po)]) (ap2.pick [7, 1, 2, 9, 10, 5, 6, 4, 0, 3] rfl)) bp2)) (perm [8, 11, 7, 2, 3, 9, 10, 5, 6, 0, 1, 4] 12 rfl) (Nat.le_refl _) (Nat.le_refl _) (fun v' n' q => ?_) fun xx9 h => h
    obtain ⟨rfl, cnt', tc', zs', ze', q1, q2⟩ := q
    exact ⟨rfl, cnt', tc', zs', ze', q1, Has.trans (perm [9, 10, 3, 4, 11, 7, 8, 2, 0, 5, 6, 1] 12 rfl) q2⟩
  · obtain ⟨rfl, cnt', tc9, zs', ze', h1, h⟩ := q
    exact ⟨cnt', 0, tc9, zs', ze', rfl, Has.trans (perm [1, 0] 2 rfl) h, h1⟩
theorem store_ref0 {prog : Program} {w : World} {f : Fix} {x dx r0 dr0 a0 c0 da0 k0 : Nat} {d : TD} {rd0 : RD} {g0 : TG} {cnt0 : Int} {tc0 : Tok} {tl0 : List DictEntry} {r dr a c da k : Nat} {rd : RD} {g : TG} {cnt : Int} {tc : Tok} {tl : List DictEntry} {n : Int} {tn : Tok} {zs : Array Value} {ze : Nat} {rest : Led}
   (po : f.po.IsDictOf (intKind prog w) []) (hpl : 1 < f.pl) (hc0 : c0 = 66 ∨ c0 = 85 ∨ c0 = 104) (htl0 : tl0.length ≤ 900) (hzs : zs.size ≤ 1000) (hc : c = 66 ∨ c = 85 ∨ c = 104) (htl : tl.length ≤ 900)
   (ap0 : Apart dx [x, f.ct, f.dct, f.pl, r0, dr0, a0, da0, f.hp, f.dhp, f.zr, r, dr, a, da]) (bp0 : ∀ p ∈ rest, p.1 ≠ dx) (ap1 : Apart da0 [x, f.ct, f.dct, f.pl, dx, r0, dr0, a0, f.hp, f.dhp, f.zr, r, dr, a, da]) (bp1 : ∀ p ∈ rest, p.1 ≠ da0) (ap2 : Apart f.zr [x, f.ct, f.dct, f.pl, dx, r0, dr0, a0, da0, f.hp, f.dhp, r, dr, a, da]) (bp2 : ∀ p ∈ rest, p.1 ≠ f.zr) (ap3 : Apart da [x, f.ct, f.dct, f.pl, dx, r0, dr0, a0, da0, f.hp, f.dhp, f.zr, r, dr, a]) (bp3 : ∀ p ∈ rest, p.1 ≠ da) :
  Tel prog w 509 [.ref f.ct, .ref x, .ref r] 10 60 ((x, instObj 66 dx) :: (dx, scD d (.ref r0)) :: (f.ct, ctrO f) :: (f.dct, ctrD f) :: (f.pl, f.po) :: (r0, instObj 162 dr0) :: (dr0, refD rd0 a0) :: (a0, instObj c0 da0) :: (da0, thG g0 cnt0 tc0 tl0 k0) :: (f.hp, heapO f) :: (f.dhp, heapD f n tn) :: (f.zr, listOf zs ze) :: (r, instObj 162 dr) :: (dr, refD rd a) :: (a, instObj c da) :: (da, thG g cnt tc tl k) :: rest)
    (fun v' news' => ∃ (cnt' : Int) (tc' tc9 : Tok) (zs' : Array Value) (ze' : Nat), v' = .none ∧ Has ((x, instObj 66 dx) :: (dx, scD d (.ref r)) :: (f.ct, ctrO f) :: (f.dct, ctrD f) :: (f.pl, f.po) :: (r0, instObj 162 dr0) :: (dr0, refD rd0 a0) :: (a0, instObj c0 da0) :: (da0, thG g0 cnt' tc9 tl0 k0) :: (f.hp, heapO f) :: (f.dhp, heapD f n tn) :: (f.zr, listOf zs' ze') :: (r, instObj 162 dr) :: (dr, refD rd a) :: (a, instObj c da) :: (da, thG g (cnt + 1) tc' tl k) :: rest) news' ∧ zs'.size ≤ zs.size + 1) (fun xx9 => False) := by
  refine Tel.get (store_gen (d := d) (v := .ref r) (R1 := fun r1 => ∃ tc', r1 = (r0, instObj 162 dr0) :: (dr0, refD rd0 a0) :: (a0, instObj c0 da0) :: (da0, thG g0 cnt0 tc0 tl0 k0) :: (f.hp, heapO f) :: (f.dhp, heapD f n tn) :: (f.zr, listOf zs ze) :: (r, instObj 162 dr) :: (dr, refD rd a) :: (a, instObj c da) :: (da, thG g (cnt + 1) tc' tl k) :: rest)
    (P := fun n' => ∃ (cnt' : Int) (tc' tc9 : Tok) (zs' : Array Value) (ze' : Nat), zs'.size ≤ zs.size + 1 ∧ Has ((dx, scD d (.ref r)) :: (x, instObj 66 dx) :: (f.ct, ctrO f) :: (f.dct, ctrD f) :: (f.pl, f.po) :: (r0, instObj 162 dr0) :: (dr0, refD rd0 a0) :: (a0, instObj c0 da0) :: (da0, thG g0 cnt' tc9 tl0 k0) :: (f.hp, heapO f) :: (f.dhp, heapD f n tn) :: (f.zr, listOf zs' ze') :: (r, instObj 162 dr) :: (dr, refD rd a) :: (a, instObj c da) :: (da, thG g (cnt + 1) tc' tl k) :: rest) n') po hpl rfl (ne_map (ap0.pick [0, 1, 2, 3] rfl)) ?_ ?_) (perm [1, 0] 2 rfl) (Nat.le_refl _) (Nat.le_refl _) (fun v n q => ?_) fun xx9 h => h
  · refine Tel.get (take_ref (f := f) (rest := (dx, scD d (.ref r0)) :: (x, instObj 66 dx) :: (f.pl, f.po) :: (r0, instObj 162 dr0) :: (dr0, refD rd0 a0) :: (a0, instObj c0 da0) :: (da0, thG g0 cnt0 tc0 tl0 k0) :: (f.hp, heapO f) :: (f.dhp, heapD f n tn) :: (f.zr, listOf zs ze) :: rest) hc htl (ap3 _ (List.mem_of_getElem? (i := 14) rfl)) (ne_app (ne_map (l := [(r, instObj 162 dr), (dr, refD rd a), (f.ct, ctrO f), (f.dct, ctrD f), (dx, scD d (.ref r0)), (x, instObj 66 dx), (f.pl, f.po), (r0, instObj 162 dr0), (dr0, refD rd0 a0), (a0, instObj c0 da0), (da0, thG g0 cnt0 tc0 tl0 k0), (f.hp, heapO f), (f.dhp, heapD f n tn), (f.zr, listOf zs ze)]) (ap3.pick [12, 13, 1, 2, 4, 0, 3, 5, 6, 7, 8, 9, 10, 11] rfl)) bp3)) (perm [15, 14, 12, 13, 2, 3, 0, 1, 4, 5, 6, 7, 8, 9, 10, 11] 16 rfl) (Nat.le_refl _) (Nat.le_refl _) (fun v n' q => ?_) fun xx9 h => h
    obtain ⟨rfl, tc', rfl⟩ := q
    exact ⟨rfl, _, ⟨tc', rfl⟩, ne_app (ne_map (l := [(r0, instObj 162 dr0), (dr0, refD rd0 a0), (a0, instObj c0 da0), (da0, thG g0 cnt0 tc0 tl0 k0), (f.hp, heapO f), (f.dhp, heapD f n tn), (f.zr, listOf zs ze), (r, instObj 162 dr), (dr, refD rd a), (a, instObj c da), (da, thG g (cnt + 1) tc' tl k)]) (ap0.pick [4, 5, 6, 7, 8, 9, 10, 11, 12, 13, 14] rfl)) bp0, perm [6, 7, 4, 5, 8, 9, 10, 11, 12, 13, 14, 15, 2, 3, 1, 0] 16 rfl⟩
  · rintro _ ⟨tc', rfl⟩
    refine Tel.get (put_ref (f := f) (rest := (dx, scD d (.ref r)) :: (x, instObj 66 dx) :: (f.pl, f.po) :: (r, instObj 162 dr) :: (dr, refD rd a) :: (a, instObj c da) :: (da, thG g (cnt + 1) tc' tl k) :: rest) hc0 htl0 hzs (ap1 _ (List.mem_of_getElem? (i := 10) rfl)) (ne_app (ne_map (l := [(a0, instObj c0 da0), (f.ct, ctrO f), (f.dct, ctrD f), (f.hp, heapO f), (f.dhp, heapD f n tn), (r0, instObj 162 dr0), (dr0, refD rd0 a0), (dx, scD d (.ref r)), (x, instObj 66 dx), (f.pl, f.po), (r, instObj 162 dr), (dr, refD rd a), (a, instObj c da), (da, thG g (cnt + 1) tc' tl k)]) (ap1.pick [7, 1, 2, 8, 9, 5, 6, 4, 0, 3, 11, 12, 13, 14] rfl)) bp1)
      (ne_app (ne_map (l := [(a0, instObj c0 da0), (f.ct, ctrO f), (f.dct, ctrD f), (f.hp, heapO f), (f.dhp, heapD f n tn), (r0, instObj 162 dr0), (dr0, refD rd0 a0), (dx, scD d (.ref r)), (x, instObj 66 dx), (f.pl, f.po), (r, instObj 162 dr), (dr, refD rd a), (a, instObj c da), (da, thG g (cnt + 1) tc' tl k)]) (ap2.pick [7, 1, 2, 9, 10, 5, 6, 4, 0, 3, 11, 12, 13, 14] rfl)) bp2)) (perm [8, 11, 7, 2, 3, 9, 10, 5, 6, 0, 1, 4, 12, 13, 14, 15] 16 rfl) (Nat.le_refl _) (Nat.le_refl _) (fun v' n' q => ?_) fun xx9 h => h
    obtain ⟨rfl, cnt', tc9, zs', ze', q1, q2⟩ := q
    exact ⟨rfl, cnt', tc', tc9, zs', ze', q1, Has.trans (perm [9, 10, 3, 4, 11, 7, 8, 2, 0, 5, 6, 1, 12, 13, 14, 15] 16 rfl) q2⟩
  · obtain ⟨rfl, cnt', tc', tc9, zs', ze', h1, h⟩ := q
    exact ⟨cnt', tc', tc9, zs', ze', rfl, Has.trans (perm [1, 0] 2 rfl) h, h1⟩
end
end
section
theorem sa162 {w : World} {a : Str} (h : a = "target" ∨ a = "is_weak") : SA w 162 a := by
  rcases h with h | h <;> (subst h; exact ⟨by k_is, by k_is, by k_is, by k_is⟩)
theorem sa225 {w : World} {a : Str} (h : a = "limits" ∨ a = "last" ∨ a = "zero") : SA w 225 a := by
  rcases h with h | h | h <;> (subst h; exact ⟨by k_is, by k_is, by k_is, by k_is⟩)
theorem sa547 {w : World} {a : Str} (h : a = "heap" ∨ a = "destroy" ∨ a = "places") : SA w 547 a := by
  rcases h with h | h | h <;> (subst h; exact ⟨by k_is, by k_is, by k_is, by k_is⟩)
theorem sa590 {w : World} {a : Str} (h : a = "width" ∨ a = "depth" ∨ a = "steps" ∨ a = "text" ∨ a = "items") : SA w 590 a := by
  rcases h with h | h | h | h | h <;> (subst h; exact ⟨by k_is, by k_is, by k_is, by k_is⟩)
theorem ref_init {prog : Program} {w : World} {x dx : Nat} {v : Value} {G : Led} (hx : x ≠ dx) (ha : Above dx G) :
    TelC prog w 159 ⟨[.ref x, v], []⟩ 5 20 ((x, instObj 162 dx) :: (dx, dictOf [] 0) :: G) (fun r n => r = .none ∧ ∃ h1 h2 t1 t2, n = (x, instObj 162 dx) :: (dx, dictOf [⟨h1, .str "target" t1, v⟩, ⟨h2, .str "is_weak" t2, .bool false⟩] 2) :: G) (fun xx9 => False) := by
  k_dflt (refine' TelC.ofM (dn := 4) (un' := 17) ?k6 ?k7 ?k9 ?kB ?c2 ?c3 ?c4 ?c5 ?_; (case k6 => k_is); (case k7 => k_is); (case k9 => exact fun s X => binds_K X rfl (by k_is) rfl rfl rfl); (case kB => exact locs rfl); (case c5 => decide); (case c2 => exact rfl); (case c3 => exact rfl); (case c4 => exact rfl))
  intro Q Z _ q1 _ Γ
  refine M.setNew hx ha.ne (sa162 (by simp)) rfl (Nat.le_of_ble_eq_true rfl) fun h1 t1 => ?_
  refine M.setNew hx ha.ne (sa162 (by simp)) rfl (Nat.le_of_ble_eq_true rfl) fun h2 t2 => ?_
  exact q1 _ _ ⟨rfl, h1, h2, t1, t2, rfl⟩
theorem heap_init {prog : Program} {w : World} {x dx : Nat} {v : Value} {G : Led} (hx : x ≠ dx) (ha : Above dx G) :
    TelC prog w 180 ⟨[.ref x, v], []⟩ 5 20 ((x, instObj 225 dx) :: (dx, dictOf [] 0) :: G) (fun r n => r = .none ∧ ∃ h1 h2 h3 t1 t2 t3 tk l, x < l ∧ dx < l ∧ n = (x, instObj 225 dx) :: (dx, dictOf [⟨h1, .str "limits" t1, v⟩, ⟨h2, .str "last" t2, .int 0 tk⟩, ⟨h3, .str "zero" t3, .ref l⟩] 3) :: (l, listOf #[] 0) :: G) (fun xx9 => False) := by
  k_dflt (refine' TelC.ofM (dn := 4) (un' := 17) ?k6 ?k7 ?k9 ?kB ?c2 ?c3 ?c4 ?c5 ?_; (case k6 => k_is); (case k7 => k_is); (case k9 => exact fun s X => BindsTo.of_eq rfl); (case kB => exact locs rfl); (case c5 => decide); (case c2 => exact rfl); (case c3 => exact rfl); (case c4 => exact rfl))
  intro Q Z _ q1 _ Γ
  refine M.setNew hx ha.ne (sa225 (by simp)) rfl (Nat.le_of_ble_eq_true rfl) fun h1 t1 => ?_
  intro tk
  refine M.setNew hx ha.ne (sa225 (by simp)) rfl (Nat.le_of_ble_eq_true rfl) fun h2 t2 => ?_
  refine M.newList (by decide) fun l hl => ?_
  refine M.led (c := .sa _ _ _) ((x, instObj 225 dx) :: (dx, _) :: (l, listOf #[] 0) :: G) (by exact trivial) (has_cons (.tail _ (.head _)) (has_cons (.tail _ (.tail _ (.head _))) (has_cons (.head _) fun xx9 h => .tail _ (.tail _ (.tail _ h))))) ?_
  have hr : ∀ p ∈ (l, listOf #[] 0) :: G, p.1 ≠ dx := fun p hp => (List.mem_cons.mp hp).elim (fun e => e ▸ Nat.ne_of_gt (hl _ (.tail _ (.head _)))) (ha.ne p)
  refine M.setNew hx hr (sa225 (by simp)) rfl (Nat.le_of_ble_eq_true rfl) fun h3 t3 => ?_
  exact q1 _ _ ⟨rfl, h1, h2, h3, t1, t2, t3, tk, l, hl _ (.head _), hl _ (.tail _ (.head _)), rfl⟩
theorem counter_init {prog : Program} {w : World} {x dx : Nat} {v u : Value} {G : Led} (hx : x ≠ dx) (ha : Above dx G) :
    TelC prog w 469 ⟨[.ref x, v, u], []⟩ 5 20 ((x, instObj 547 dx) :: (dx, dictOf [] 0) :: G) (fun r n => r = .none ∧ ∃ h1 h2 h3 t1 t2 t3 l o, x < l ∧ dx < l ∧ o.IsDictOf (intKind prog w) [] ∧ n = (x, instObj 547 dx) :: (dx, dictOf [⟨h1, .str "heap" t1, v⟩, ⟨h2, .str "destroy" t2, u⟩, ⟨h3, .str "places" t3, .ref l⟩] 3) :: (l, o) :: G) (fun xx9 => False) := by
  k_dflt (refine' TelC.ofM (dn := 4) (un' := 17) ?k6 ?k7 ?k9 ?kB ?c2 ?c3 ?c4 ?c5 ?_; (case k6 => k_is); (case k7 => k_is); (case k9 => exact fun s X => BindsTo.of_eq rfl); (case kB => exact locs rfl); (case c5 => decide); (case c2 => exact rfl); (case c3 => exact rfl); (case c4 => exact rfl))
  intro Q Z _ q1 _ Γ
  refine M.setNew hx ha.ne (sa547 (by simp)) rfl (Nat.le_of_ble_eq_true rfl) fun h1 t1 => ?_
  refine M.setNew hx ha.ne (sa547 (by simp)) rfl (Nat.le_of_ble_eq_true rfl) fun h2 t2 => ?_
  refine M.newDict fun l o hl o1 o2 => ?_
  refine M.led (c := .sa _ _ _) ((x, instObj 547 dx) :: (dx, _) :: (l, o) :: G) (by exact trivial) (has_cons (.tail _ (.head _)) (has_cons (.tail _ (.tail _ (.head _))) (has_cons (.head _) fun xx9 h => .tail _ (.tail _ (.tail _ h))))) ?_
  have hr : ∀ p ∈ (l, o) :: G, p.1 ≠ dx := fun p hp => (List.mem_cons.mp hp).elim (fun e => e ▸ Nat.ne_of_gt (hl _ (.tail _ (.head _)))) (ha.ne p)
  refine M.setNew hx hr (sa547 (by simp)) rfl (Nat.le_of_ble_eq_true rfl) fun h3 t3 => ?_
  exact q1 _ _ ⟨rfl, h1, h2, h3, t1, t2, t3, l, o, hl _ (.head _), hl _ (.tail _ (.head _)), o2, rfl⟩
end
section
theorem value_at {prog : Program} {w : World} {x dx : Nat} {d : TD} {v : Value} {G : Led} (h1 : (x, instObj 66 dx) ∈ G) (h2 : (dx, scD d v) ∈ G) (hv : handedIn v = true) :
    Tel prog w 257 [.ref x] 3 15 G (fun r n => r = v ∧ n = G) (fun xx9 => False) := by
  k_dflt (refine' Tel.ofM (dn := 2) (un' := 12) ?k6 ?k7 ?k9 ?kB ?c2 ?c3 ?c4 ?c5 ?_; (case k6 => k_is); (case k7 => k_is); (case k9 => exact fun s X => BindsTo.of_eq rfl); (case kB => exact locs rfl); (case c5 => decide); (case c2 => exact rfl); (case c3 => exact rfl); (case c4 => exact rfl))
  intro Q Z q1 _ _ Γ
  refine M.isiObj true h1 h2 (by decide) (by decide) rfl ?_
  refine M.getOwn h1 h2 ga_magic rfl rfl ?_
  refine M.isNot false rfl ?_
  refine M.getOwn h1 h2 ga_value rfl hv ?_
  exact q1 _ _ _ ⟨rfl, rfl⟩
theorem apart_above {d : Nat} {l : Led} (h : Above d l) : Apart d (l.map (·.1)) := fun xx9 hx => by
  obtain ⟨p, hp, rfl⟩ := List.mem_map.mp hx
  exact Nat.ne_of_lt (h p hp)
theorem gaRun {w : World} : GA w 568 "heap" ∧ GA w 568 "counter" ∧ GA w 568 "limits" ∧ GA w 590 "items" := ⟨⟨by k_is, by k_is, _, by k_is, by k_is⟩, ⟨by k_is, by k_is, _, by k_is, by k_is⟩, ⟨by k_is, by k_is, _, by k_is, by k_is⟩, ⟨by k_is, by k_is, _, by k_is, by k_is⟩⟩
theorem above_app {d : Nat} {a b : Led} (h1 : Above d a) (h2 : Above d b) : Above d (a ++ b) := fun p hp => (List.mem_append.mp hp).elim (h1 p) (h2 p)
theorem above_has {d : Nat} {a b : Led} (h1 : Above d b) (h2 : Has a b) : Above d a := fun p hp => h1 p (h2 p hp)
theorem viv_none_A {prog : Program} {w : World} {f : Fix} {x dx : Nat} {d : TD} {n : Int} {tn tk : Tok} {rest : Led} (ok : f.Ok prog w)
   (a1 : Apart dx [x, f.rn, f.drn, f.ct, f.dct, f.hp, f.dhp, f.pl]) (b1 : ∀ p ∈ rest, p.1 ≠ dx)
   (a2 : Apart f.dhp [x, f.rn, f.drn, f.ct, f.dct, f.hp, f.pl]) (b2 : ∀ p ∈ rest, p.1 ≠ f.dhp) :
  Tel prog w 420 [.ref f.rn, .ref x, .str "A" tk] 30 150 ((x, instObj 66 dx) :: (dx, scD d .none) :: (f.rn, runO f) :: (f.drn, runD f) :: (f.ct, ctrO f) :: (f.dct, ctrD f) :: (f.hp, heapO f) :: (f.dhp, heapD f n tn) :: (f.pl, f.po) :: rest)
    (fun v news' => ∃ (a da l r dr : Nat) (d2 : TD) (rd : RD) (n' : Int) (tn' : Tok), v = .ref a ∧ Has ((x, instObj 66 dx) :: (dx, scD d (.ref r)) :: (r, instObj 162 dr) :: (dr, refD rd a) :: (a, instObj 85 da) :: (da, arD d2 l) :: (l, listOf #[] 0) :: (f.rn, runO f) :: (f.drn, runD f) :: (f.ct, ctrO f) :: (f.dct, ctrD f) :: (f.hp, heapO f) :: (f.dhp, heapD f n' tn') :: (f.pl, f.po) :: rest) news' ∧
      Above da ((x, instObj 66 dx) :: (dx, scD d .none) :: (f.rn, runO f) :: (f.drn, runD f) :: (f.ct, ctrO f) :: (f.dct, ctrD f) :: (f.hp, heapO f) :: (f.dhp, heapD f n tn) :: (f.pl, f.po) :: rest) ∧ da < a ∧ a < l ∧ l < dr ∧ dr < r) (fun xx9 => False) := by
  k_dflt (refine' Tel.ofM (dn := 29) (un' := 147) ?k6 ?k7 ?k9 ?kB ?c2 ?c3 ?c4 ?c5 ?_; (case k6 => k_is); (case k7 => k_is); (case k9 => exact fun s X => BindsTo.of_eq rfl); (case kB => exact locs rfl); (case c5 => decide); (case c2 => exact rfl); (case c3 => exact rfl); (case c4 => exact rfl))
  intro Q Z q1 _ _ Γ
  refine M.tel (value_at (at_ 0 rfl) (at_ 1 rfl) rfl) (fun xx9 h => h) (Nat.le_of_ble_eq_true rfl) (Nat.le_of_ble_eq_true rfl) (fun xx9 h => h.elim) ?_
  rintro _ _ ⟨rfl, rfl⟩
  refine M.isN true rfl ?_
  intro t1
  refine M.neS true (by decide +kernel) ?_
  refine M.getOwn (at_ 2 rfl) (at_ 3 rfl) gaRun.1 ok.heap rfl ?_
  have nx : dx ≠ f.dhp := Ne.symm (a1 _ (List.mem_of_getElem? (i := 6) rfl))
  refine M.tel (made_A (f := f) (n := n) (tn := tn) (rest := (x, instObj 66 dx) :: (dx, scD d .none) :: (f.rn, runO f) :: (f.drn, runD f) :: (f.ct, ctrO f) :: (f.dct, ctrD f) :: (f.pl, f.po) :: rest) (a2 _ (List.mem_of_getElem? (i := 5) rfl)) (ne_cons (a2 _ (.head _)) (ne_cons nx (ne_app (ne_map (l := [(f.rn, runO f), (f.drn, runD f), (f.ct, ctrO f), (f.dct, ctrD f), (f.pl, f.po)]) (a2.pick [1, 2, 3, 4, 6] rfl)) b2)))) (perm [6, 7, 0, 1, 2, 3, 4, 5, 8] 9 rfl) (Nat.le_of_ble_eq_true rfl) (Nat.le_of_ble_eq_true rfl) (fun xx9 h => h.elim) ?_
  rintro _ G1 ⟨a, da, l, d2, n', tn', rfl, hs, ab, p1, p2, p3, p4⟩
  refine M.getOwn (hs _ (at_ 7 rfl)) (hs _ (at_ 8 rfl)) gaRun.2.1 ok.counter rfl ?_
  refine M.meth (hs _ (at_ 9 rfl)) (hs _ (at_ 10 rfl)) me_c.2.2.2.2 rfl rfl ?_
  refine M.new (by k_is) (by k_is) (by k_is) (Nat.le_of_ble_eq_true rfl) (Nat.le_of_ble_eq_true rfl) (fun r dr u v => ref_init (Nat.ne_of_gt v) u) ?_
  rintro r dr _ u v ⟨h1, h2, t1, t2, rfl⟩
  have q : Has _ ((r, instObj 162 dr) :: (dr, refD ⟨h1, h2, t1, t2⟩ a) :: G1) := has_cons (.head _) (has_cons (.tail _ (.head _)) fun p hp => .tail _ (.tail _ (hs p hp)))
  have ldr := u _ (hs _ (at_ 2 rfl))
  have xda := ab _ (at_ 1 rfl)
  have xa := Nat.lt_trans xda p3
  have xl := Nat.lt_trans xa p4
  have xdr := Nat.lt_trans xl ldr
  have dadr := Nat.lt_trans p3 (Nat.lt_trans p4 ldr)
  refine M.tel (store_ref (f := f) (x := x) (dx := dx) (d := d) (v0 := .none) (r := r) (dr := dr) (a := a) (c := 85) (da := da) (rd := ⟨h1, h2, t1, t2⟩) (g := ⟨d2.h1, d2.h2, d2.t1, d2.t2, d2.num, d2.tn⟩) (cnt := d2.cnt) (tc := d2.tc) (tl := _) (k := 8) (rest := (l, listOf #[] 0) :: (f.rn, runO f) :: (f.drn, runD f) :: (f.hp, heapO f) :: (f.dhp, heapD f n' tn') :: rest) ok.places ok.high (.inl rfl) (by decide) (Nat.le_of_ble_eq_true rfl)
    (apart_cons (a1 _ (.head _)) (apart_cons (a1 _ (List.mem_of_getElem? (i := 3) rfl)) (apart_cons (a1 _ (List.mem_of_getElem? (i := 4) rfl)) (apart_cons (a1 _ (List.mem_of_getElem? (i := 7) rfl)) (apart_cons (Nat.ne_of_gt (Nat.lt_trans xdr v)) (apart_cons (Nat.ne_of_gt xdr) (apart_cons (Nat.ne_of_gt xa) (apart_cons (Nat.ne_of_gt xda) apart_nil))))))))
    (ne_cons (Nat.ne_of_gt xl) (ne_app (ne_map (l := [(f.rn, runO f), (f.drn, runD f), (f.hp, heapO f), (f.dhp, heapD f n' tn')]) (a1.pick [1, 2, 5, 6] rfl)) b1))
    (apart_cons (Nat.ne_of_lt (ab _ (at_ 0 rfl))) (apart_cons (Nat.ne_of_lt (ab _ (at_ 4 rfl))) (apart_cons (Nat.ne_of_lt (ab _ (at_ 5 rfl))) (apart_cons (Nat.ne_of_lt (ab _ (at_ 6 rfl))) (apart_cons (Nat.ne_of_gt (Nat.lt_trans dadr v)) (apart_cons (Nat.ne_of_gt dadr) (apart_cons (Nat.ne_of_gt p3) apart_nil)))))))
    (ne_cons (Nat.ne_of_gt (Nat.lt_trans p3 p4)) (ne_cons (Nat.ne_of_lt (ab _ (at_ 2 rfl))) (ne_cons (Nat.ne_of_lt (ab _ (at_ 3 rfl))) (ne_cons (Nat.ne_of_lt p1) (ne_cons (Nat.ne_of_lt p2) fun p hp => Nat.ne_of_lt (ab p (.tail _ (.tail _ (.tail _ (.tail _ (.tail _ (.tail _ (.tail _ hp))))))))))))))
    (Has.trans (perm (G := (r, instObj 162 dr) :: (dr, refD ⟨h1, h2, t1, t2⟩ a) :: (a, instObj 85 da) :: (da, arD d2 l) :: (l, listOf #[] 0) :: (f.hp, heapO f) :: (f.dhp, heapD f n' tn') :: (x, instObj 66 dx) :: (dx, scD d .none) :: (f.rn, runO f) :: (f.drn, runD f) :: (f.ct, ctrO f) :: (f.dct, ctrD f) :: (f.pl, f.po) :: rest) [7, 8, 11, 12, 13, 0, 1, 2, 3, 4, 9, 10, 5, 6] 14 rfl) q) (Nat.le_of_ble_eq_true rfl) (Nat.le_of_ble_eq_true rfl) (fun xx9 h => h.elim) ?_
  rintro _ G2 ⟨tc', rfl, hs2⟩
  exact q1 _ _ _ ⟨a, da, l, r, dr, { d2 with cnt := d2.cnt + 1, tc := tc' }, ⟨h1, h2, t1, t2⟩, n', tn', rfl, Has.trans (perm [0, 1, 5, 6, 7, 8, 9, 10, 11, 2, 3, 12, 13, 4] 14 rfl) hs2, above_has (b := (f.hp, heapO f) :: (f.dhp, heapD f n tn) :: (x, instObj 66 dx) :: (dx, scD d .none) :: (f.rn, runO f) :: (f.drn, runD f) :: (f.ct, ctrO f) :: (f.dct, ctrD f) :: (f.pl, f.po) :: rest) (above_cons p1 (above_cons p2 ab)) (perm [2, 3, 4, 5, 6, 7, 0, 1, 8] 9 rfl), p3, p4, ldr, v⟩
theorem viv_none_H {prog : Program} {w : World} {f : Fix} {x dx : Nat} {d : TD} {n : Int} {tn tk : Tok} {rest : Led} (ok : f.Ok prog w)
   (a1 : Apart dx [x, f.rn, f.drn, f.ct, f.dct, f.hp, f.dhp, f.pl]) (b1 : ∀ p ∈ rest, p.1 ≠ dx)
   (a2 : Apart f.dhp [x, f.rn, f.drn, f.ct, f.dct, f.hp, f.pl]) (b2 : ∀ p ∈ rest, p.1 ≠ f.dhp) :
  Tel prog w 420 [.ref f.rn, .ref x, .str "H" tk] 30 150 ((x, instObj 66 dx) :: (dx, scD d .none) :: (f.rn, runO f) :: (f.drn, runD f) :: (f.ct, ctrO f) :: (f.dct, ctrD f) :: (f.hp, heapO f) :: (f.dhp, heapD f n tn) :: (f.pl, f.po) :: rest)
    (fun v news' => ∃ (a da l r dr : Nat) (d2 : TD) (rd : RD) (n' : Int) (tn' : Tok) (t9 : Tok) (ot : Obj), v = .ref a ∧ Has ((x, instObj 66 dx) :: (dx, scD d (.ref r)) :: (r, instObj 162 dr) :: (dr, refD rd a) :: (a, instObj 104 da) :: (da, haD d2 l 0 t9) :: (l, ot) :: (f.rn, runO f) :: (f.drn, runD f) :: (f.ct, ctrO f) :: (f.dct, ctrD f) :: (f.hp, heapO f) :: (f.dhp, heapD f n' tn') :: (f.pl, f.po) :: rest) news' ∧
      Above da ((x, instObj 66 dx) :: (dx, scD d .none) :: (f.rn, runO f) :: (f.drn, runD f) :: (f.ct, ctrO f) :: (f.dct, ctrD f) :: (f.hp, heapO f) :: (f.dhp, heapD f n tn) :: (f.pl, f.po) :: rest) ∧ da < a ∧ a < l ∧ l < dr ∧ dr < r ∧ ot.IsDictOf (strKind prog w) []) (fun xx9 => False) := by
  k_dflt (refine' Tel.ofM (dn := 29) (un' := 147) ?k6 ?k7 ?k9 ?kB ?c2 ?c3 ?c4 ?c5 ?_; (case k6 => k_is); (case k7 => k_is); (case k9 => exact fun s X => BindsTo.of_eq rfl); (case kB => exact locs rfl); (case c5 => decide); (case c2 => exact rfl); (case c3 => exact rfl); (case c4 => exact rfl))
  intro Q Z q1 _ _ Γ
  refine M.tel (value_at (at_ 0 rfl) (at_ 1 rfl) rfl) (fun xx9 h => h) (Nat.le_of_ble_eq_true rfl) (Nat.le_of_ble_eq_true rfl) (fun xx9 h => h.elim) ?_
  rintro _ _ ⟨rfl, rfl⟩
  refine M.isN true rfl ?_
  intro t1
  refine M.neS true (by decide +kernel) ?_
  refine M.getOwn (at_ 2 rfl) (at_ 3 rfl) gaRun.1 ok.heap rfl ?_
  have nx : dx ≠ f.dhp := Ne.symm (a1 _ (List.mem_of_getElem? (i := 6) rfl))
  refine M.tel (made_H (f := f) (n := n) (tn := tn) (rest := (x, instObj 66 dx) :: (dx, scD d .none) :: (f.rn, runO f) :: (f.drn, runD f) :: (f.ct, ctrO f) :: (f.dct, ctrD f) :: (f.pl, f.po) :: rest) (a2 _ (List.mem_of_getElem? (i := 5) rfl)) (ne_cons (a2 _ (.head _)) (ne_cons nx (ne_app (ne_map (l := [(f.rn, runO f), (f.drn, runD f), (f.ct, ctrO f), (f.dct, ctrD f), (f.pl, f.po)]) (a2.pick [1, 2, 3, 4, 6] rfl)) b2)))) (perm [6, 7, 0, 1, 2, 3, 4, 5, 8] 9 rfl) (Nat.le_of_ble_eq_true rfl) (Nat.le_of_ble_eq_true rfl) (fun xx9 h => h.elim) ?_
  rintro _ G1 ⟨a, da, l, d2, n', tn', t9, ot, rfl, hs, ab, p1, p2, p3, p4, hot⟩
  refine M.getOwn (hs _ (at_ 7 rfl)) (hs _ (at_ 8 rfl)) gaRun.2.1 ok.counter rfl ?_
  refine M.meth (hs _ (at_ 9 rfl)) (hs _ (at_ 10 rfl)) me_c.2.2.2.2 rfl rfl ?_
  refine M.new (by k_is) (by k_is) (by k_is) (Nat.le_of_ble_eq_true rfl) (Nat.le_of_ble_eq_true rfl) (fun r dr u v => ref_init (Nat.ne_of_gt v) u) ?_
  rintro r dr _ u v ⟨h1, h2, t1, t2, rfl⟩
  have q : Has _ ((r, instObj 162 dr) :: (dr, refD ⟨h1, h2, t1, t2⟩ a) :: G1) := has_cons (.head _) (has_cons (.tail _ (.head _)) fun p hp => .tail _ (.tail _ (hs p hp)))
  have ldr := u _ (hs _ (at_ 2 rfl))
  have xda := ab _ (at_ 1 rfl)
  have xa := Nat.lt_trans xda p3
  have xl := Nat.lt_trans xa p4
  have xdr := Nat.lt_trans xl ldr
  have dadr := Nat.lt_trans p3 (Nat.lt_trans p4 ldr)
  refine M.tel (store_ref (f := f) (x := x) (dx := dx) (d := d) (v0 := .none) (r := r) (dr := dr) (a := a) (c := 104) (da := da) (rd := ⟨h1, h2, t1, t2⟩) (g := ⟨d2.h1, d2.h2, d2.t1, d2.t2, d2.num, d2.tn⟩) (cnt := d2.cnt) (tc := d2.tc) (tl := _) (k := 9) (rest := (l, ot) :: (f.rn, runO f) :: (f.drn, runD f) :: (f.hp, heapO f) :: (f.dhp, heapD f n' tn') :: rest) ok.places ok.high (.inl rfl) (by decide) (Nat.le_of_ble_eq_true rfl)
    (apart_cons (a1 _ (.head _)) (apart_cons (a1 _ (List.mem_of_getElem? (i := 3) rfl)) (apart_cons (a1 _ (List.mem_of_getElem? (i := 4) rfl)) (apart_cons (a1 _ (List.mem_of_getElem? (i := 7) rfl)) (apart_cons (Nat.ne_of_gt (Nat.lt_trans xdr v)) (apart_cons (Nat.ne_of_gt xdr) (apart_cons (Nat.ne_of_gt xa) (apart_cons (Nat.ne_of_gt xda) apart_nil))))))))
    (ne_cons (Nat.ne_of_gt xl) (ne_app (ne_map (l := [(f.rn, runO f), (f.drn, runD f), (f.hp, heapO f), (f.dhp, heapD f n' tn')]) (a1.pick [1, 2, 5, 6] rfl)) b1))
    (apart_cons (Nat.ne_of_lt (ab _ (at_ 0 rfl))) (apart_cons (Nat.ne_of_lt (ab _ (at_ 4 rfl))) (apart_cons (Nat.ne_of_lt (ab _ (at_ 5 rfl))) (apart_cons (Nat.ne_of_lt (ab _ (at_ 6 rfl))) (apart_cons (Nat.ne_of_gt (Nat.lt_trans dadr v)) (apart_cons (Nat.ne_of_gt dadr) (apart_cons (Nat.ne_of_gt p3) apart_nil)))))))
    (ne_cons (Nat.ne_of_gt (Nat.lt_trans p3 p4)) (ne_cons (Nat.ne_of_lt (ab _ (at_ 2 rfl))) (ne_cons (Nat.ne_of_lt (ab _ (at_ 3 rfl))) (ne_cons (Nat.ne_of_lt p1) (ne_cons (Nat.ne_of_lt p2) fun p hp => Nat.ne_of_lt (ab p (.tail _ (.tail _ (.tail _ (.tail _ (.tail _ (.tail _ (.tail _ hp))))))))))))))
    (Has.trans (perm (G := (r, instObj 162 dr) :: (dr, refD ⟨h1, h2, t1, t2⟩ a) :: (a, instObj 104 da) :: (da, haD d2 l 0 t9) :: (l, ot) :: (f.hp, heapO f) :: (f.dhp, heapD f n' tn') :: (x, instObj 66 dx) :: (dx, scD d .none) :: (f.rn, runO f) :: (f.drn, runD f) :: (f.ct, ctrO f) :: (f.dct, ctrD f) :: (f.pl, f.po) :: rest) [7, 8, 11, 12, 13, 0, 1, 2, 3, 4, 9, 10, 5, 6] 14 rfl) q) (Nat.le_of_ble_eq_true rfl) (Nat.le_of_ble_eq_true rfl) (fun xx9 h => h.elim) ?_
  rintro _ G2 ⟨tc', rfl, hs2⟩
  exact q1 _ _ _ ⟨a, da, l, r, dr, { d2 with cnt := d2.cnt + 1, tc := tc' }, ⟨h1, h2, t1, t2⟩, n', tn', t9, ot, rfl, Has.trans (perm [0, 1, 5, 6, 7, 8, 9, 10, 11, 2, 3, 12, 13, 4] 14 rfl) hs2, above_has (b := (f.hp, heapO f) :: (f.dhp, heapD f n tn) :: (x, instObj 66 dx) :: (dx, scD d .none) :: (f.rn, runO f) :: (f.drn, runD f) :: (f.ct, ctrO f) :: (f.dct, ctrD f) :: (f.pl, f.po) :: rest) (above_cons p1 (above_cons p2 ab)) (perm [2, 3, 4, 5, 6, 7, 0, 1, 8] 9 rfl), p3, p4, ldr, v, hot⟩
theorem viv_none_S {prog : Program} {w : World} {f : Fix} {x dx : Nat} {d : TD} {n : Int} {tn tk : Tok} {rest : Led} (ok : f.Ok prog w)
   (a1 : Apart dx [x, f.rn, f.drn, f.ct, f.dct, f.hp, f.dhp, f.pl]) (b1 : ∀ p ∈ rest, p.1 ≠ dx)
   (a2 : Apart f.dhp [x, f.rn, f.drn, f.ct, f.dct, f.hp, f.pl]) (b2 : ∀ p ∈ rest, p.1 ≠ f.dhp) :
  Tel prog w 420 [.ref f.rn, .ref x, .str "S" tk] 30 150 ((x, instObj 66 dx) :: (dx, scD d .none) :: (f.rn, runO f) :: (f.drn, runD f) :: (f.ct, ctrO f) :: (f.dct, ctrD f) :: (f.hp, heapO f) :: (f.dhp, heapD f n tn) :: (f.pl, f.po) :: rest)
    (fun v news' => ∃ (a da r dr : Nat) (d2 : TD) (rd : RD) (n' : Int) (tn' : Tok), v = .ref a ∧ Has ((x, instObj 66 dx) :: (dx, scD d (.ref r)) :: (r, instObj 162 dr) :: (dr, refD rd a) :: (a, instObj 66 da) :: (da, scD d2 .none) :: (f.rn, runO f) :: (f.drn, runD f) :: (f.ct, ctrO f) :: (f.dct, ctrD f) :: (f.hp, heapO f) :: (f.dhp, heapD f n' tn') :: (f.pl, f.po) :: rest) news' ∧
      Above da ((x, instObj 66 dx) :: (dx, scD d .none) :: (f.rn, runO f) :: (f.drn, runD f) :: (f.ct, ctrO f) :: (f.dct, ctrD f) :: (f.hp, heapO f) :: (f.dhp, heapD f n tn) :: (f.pl, f.po) :: rest) ∧ da < a ∧ a < dr ∧ dr < r) (fun xx9 => False) := by
  k_dflt (refine' Tel.ofM (dn := 29) (un' := 147) ?k6 ?k7 ?k9 ?kB ?c2 ?c3 ?c4 ?c5 ?_; (case k6 => k_is); (case k7 => k_is); (case k9 => exact fun s X => BindsTo.of_eq rfl); (case kB => exact locs rfl); (case c5 => decide); (case c2 => exact rfl); (case c3 => exact rfl); (case c4 => exact rfl))
  intro Q Z q1 _ _ Γ
  refine M.tel (value_at (at_ 0 rfl) (at_ 1 rfl) rfl) (fun xx9 h => h) (Nat.le_of_ble_eq_true rfl) (Nat.le_of_ble_eq_true rfl) (fun xx9 h => h.elim) ?_
  rintro _ _ ⟨rfl, rfl⟩
  refine M.isN true rfl ?_
  intro t1
  refine M.neS true (by decide +kernel) ?_
  refine M.getOwn (at_ 2 rfl) (at_ 3 rfl) gaRun.1 ok.heap rfl ?_
  have nx : dx ≠ f.dhp := Ne.symm (a1 _ (List.mem_of_getElem? (i := 6) rfl))
  refine M.tel (made_S (f := f) (n := n) (tn := tn) (rest := (x, instObj 66 dx) :: (dx, scD d .none) :: (f.rn, runO f) :: (f.drn, runD f) :: (f.ct, ctrO f) :: (f.dct, ctrD f) :: (f.pl, f.po) :: rest) (a2 _ (List.mem_of_getElem? (i := 5) rfl)) (ne_cons (a2 _ (.head _)) (ne_cons nx (ne_app (ne_map (l := [(f.rn, runO f), (f.drn, runD f), (f.ct, ctrO f), (f.dct, ctrD f), (f.pl, f.po)]) (a2.pick [1, 2, 3, 4, 6] rfl)) b2)))) (perm [6, 7, 0, 1, 2, 3, 4, 5, 8] 9 rfl) (Nat.le_of_ble_eq_true rfl) (Nat.le_of_ble_eq_true rfl) (fun xx9 h => h.elim) ?_
  rintro _ G1 ⟨a, da, d2, n', tn', rfl, hs, ab, p1, p2, p3⟩
  refine M.getOwn (hs _ (at_ 6 rfl)) (hs _ (at_ 7 rfl)) gaRun.2.1 ok.counter rfl ?_
  refine M.meth (hs _ (at_ 8 rfl)) (hs _ (at_ 9 rfl)) me_c.2.2.2.2 rfl rfl ?_
  refine M.new (by k_is) (by k_is) (by k_is) (Nat.le_of_ble_eq_true rfl) (Nat.le_of_ble_eq_true rfl) (fun r dr u v => ref_init (Nat.ne_of_gt v) u) ?_
  rintro r dr _ u v ⟨h1, h2, t1, t2, rfl⟩
  have q : Has _ ((r, instObj 162 dr) :: (dr, refD ⟨h1, h2, t1, t2⟩ a) :: G1) := has_cons (.head _) (has_cons (.tail _ (.head _)) fun p hp => .tail _ (.tail _ (hs p hp)))
  have adr := u _ (hs _ (at_ 0 rfl))
  have xda := ab _ (at_ 1 rfl)
  have xa := Nat.lt_trans xda p3
  have xdr := Nat.lt_trans xa adr
  have dadr := Nat.lt_trans p3 adr
  refine M.tel (store_ref (f := f) (x := x) (dx := dx) (d := d) (v0 := .none) (r := r) (dr := dr) (a := a) (c := 66) (da := da) (rd := ⟨h1, h2, t1, t2⟩) (g := ⟨d2.h1, d2.h2, d2.t1, d2.t2, d2.num, d2.tn⟩) (cnt := d2.cnt) (tc := d2.tc) (tl := _) (k := 8) (rest := (f.rn, runO f) :: (f.drn, runD f) :: (f.hp, heapO f) :: (f.dhp, heapD f n' tn') :: rest) ok.places ok.high (.inl rfl) (by decide) (Nat.le_of_ble_eq_true rfl)
    (apart_cons (a1 _ (.head _)) (apart_cons (a1 _ (List.mem_of_getElem? (i := 3) rfl)) (apart_cons (a1 _ (List.mem_of_getElem? (i := 4) rfl)) (apart_cons (a1 _ (List.mem_of_getElem? (i := 7) rfl)) (apart_cons (Nat.ne_of_gt (Nat.lt_trans xdr v)) (apart_cons (Nat.ne_of_gt xdr) (apart_cons (Nat.ne_of_gt xa) (apart_cons (Nat.ne_of_gt xda) apart_nil))))))))
    (ne_app (ne_map (l := [(f.rn, runO f), (f.drn, runD f), (f.hp, heapO f), (f.dhp, heapD f n' tn')]) (a1.pick [1, 2, 5, 6] rfl)) b1)
    (apart_cons (Nat.ne_of_lt (ab _ (at_ 0 rfl))) (apart_cons (Nat.ne_of_lt (ab _ (at_ 4 rfl))) (apart_cons (Nat.ne_of_lt (ab _ (at_ 5 rfl))) (apart_cons (Nat.ne_of_lt (ab _ (at_ 6 rfl))) (apart_cons (Nat.ne_of_gt (Nat.lt_trans dadr v)) (apart_cons (Nat.ne_of_gt dadr) (apart_cons (Nat.ne_of_gt p3) apart_nil)))))))
    (ne_cons (Nat.ne_of_lt (ab _ (at_ 2 rfl))) (ne_cons (Nat.ne_of_lt (ab _ (at_ 3 rfl))) (ne_cons (Nat.ne_of_lt p1) (ne_cons (Nat.ne_of_lt p2) fun p hp => Nat.ne_of_lt (ab p (.tail _ (.tail _ (.tail _ (.tail _ (.tail _ (.tail _ (.tail _ hp)))))))))))))
    (Has.trans (perm (G := (r, instObj 162 dr) :: (dr, refD ⟨h1, h2, t1, t2⟩ a) :: (a, instObj 66 da) :: (da, scD d2 .none) :: (f.hp, heapO f) :: (f.dhp, heapD f n' tn') :: (x, instObj 66 dx) :: (dx, scD d .none) :: (f.rn, runO f) :: (f.drn, runD f) :: (f.ct, ctrO f) :: (f.dct, ctrD f) :: (f.pl, f.po) :: rest) [6, 7, 10, 11, 12, 0, 1, 2, 3, 8, 9, 4, 5] 13 rfl) q) (Nat.le_of_ble_eq_true rfl) (Nat.le_of_ble_eq_true rfl) (fun xx9 h => h.elim) ?_
  rintro _ G2 ⟨tc', rfl, hs2⟩
  exact q1 _ _ _ ⟨a, da, r, dr, { d2 with cnt := d2.cnt + 1, tc := tc' }, ⟨h1, h2, t1, t2⟩, n', tn', rfl, Has.trans (perm [0, 1, 5, 6, 7, 8, 9, 10, 2, 3, 11, 12, 4] 13 rfl) hs2, above_has (b := (f.hp, heapO f) :: (f.dhp, heapD f n tn) :: (x, instObj 66 dx) :: (dx, scD d .none) :: (f.rn, runO f) :: (f.drn, runD f) :: (f.ct, ctrO f) :: (f.dct, ctrD f) :: (f.pl, f.po) :: rest) (above_cons p1 (above_cons p2 ab)) (perm [2, 3, 4, 5, 6, 7, 0, 1, 8] 9 rfl), p3, adr, v⟩
end
section
namespace M
variable {Γ : Cx} {K : List Fm} {ml : Ml} {G : Led}
theorem methTy {T : String} {o : PySem.Expr} {nm : Str} {id : String} {pos : Pos} {e : PySem.Expr} {r : List PySem.Expr} (ty : typeOf (.type T) = pure (.type "type")) (hb : Manifest.isStub T = false) (hc : findCls (hp0.heap_1_39 Γ.w.params) (.type T) (.type "type") nm = some (.val (.builtin id))) (hh : handedIn (.builtin id) = true) (hs : noStar (e :: r) = true) (h : Γ.N 90 (.ar pos (.cal (.builtin id)) [] (e :: r)) K ml G) : Γ.W (.me o (.type T) nm pos (e :: r)) K ml G :=
  methW (fun F X _ q => method_type F X ty hb hc hh (q _)) (biArgs hs h)
theorem biName {x : Str} {pos : Pos} {v : Value} (e : nsIn (hp0.heap_1_39 Γ.w.params) mainGlobals x = some Option.none) (hv : bootBuiltins x = some v) (hn : x ≠ "__name__") (hk : (Γ.φ.env 0).kindOf x = some .globalImplicit) (hd : (x == ("__debug__" : Str)) = false) (h : Γ.N 90 (.sg (.v v)) K ml G) (ht : Γ.φ.tr = Option.none := by rfl) : Γ.W (.ev (.Name x pos)) K ml G := R.nameB e hv hn hk (Cx.ok ht) hd (Cx.N_ok h)
section
variable {e t : Nat} {v : Value} {rest : Led}
theorem excInit {d : Option Addr} (hr : ∀ p ∈ rest, p.1 ≠ e) (h : ∀ t2, Above t2 rest → @LT.lt Nat _ e t2 → Γ.N 90 (.sg (.v .none)) K ml ((e, excO d t2) :: (t2, ({ cls := .type "tuple", data := .seq #[v] } : Obj)) :: rest)) : Γ.W (.cl (.cal (.builtin "Exception.__init__")) [.ref e, v]) K ml ((e, excO d t) :: rest) :=
  leafC (t := PySem.call (.builtin "Exception.__init__") [.ref e, v]) (P := fun u G' => u = .none ∧ ∃ t2, Above t2 rest ∧ @LT.lt Nat _ e t2 ∧ G' = (e, excO d t2) :: (t2, ({ cls := .type "tuple", data := .seq #[v] } : Obj)) :: rest) rfl (fun F X N q => exc_init F X N hr fun t2 h' F' N' a b => q _ _ _ _ ⟨rfl, t2, a, b, rfl⟩ F' N') (by rintro _ _ ⟨rfl, t2, a, b, rfl⟩; exact h t2 a b)
theorem excSet0 {a : Str} (hr : ∀ p ∈ rest, p.1 ≠ e) (hf : findIn (hp0.heap_1_39 Γ.w.params) (.ref 301) a = some none) (h : ∀ D tk, Above D rest → @LT.lt Nat _ e D → Γ.N 90 (.sg .u) K ml ((e, excO (some D) t) :: (D, dictOf [⟨PyData.keyHash Γ.w.params a, .str a tk, v⟩] 1) :: rest)) : Γ.W (.sa (.ref e) a v) K ml ((e, excO none t) :: rest) := by
  intro p loose mean mg mb dp un gd outer A₀ base h₀ L s Q' E' B F X N T hd hu ret exc
  exact exc_set0 F X N hr hf fun D h' tk F' N' a b => ret () _ _ h' _ F' N' (Cx.N_ok (h D _ a b))
theorem excSet1 {a : Str} {D : Nat} {es : List DictEntry} {n : Nat} (hr : ∀ p ∈ rest, p.1 ≠ D) (hD : e ≠ D) (hf : findIn (hp0.heap_1_39 Γ.w.params) (.ref 301) a = some none) (hl : getL a es = some Option.none) (hz : es.length ≤ 900) (h : ∀ hs tk, Γ.N 90 (.sg .u) K ml ((e, excO (some D) t) :: (D, dictOf (es ++ [⟨hs, .str a tk, v⟩]) (n + 1)) :: rest)) : Γ.W (.sa (.ref e) a v) K ml ((e, excO (some D) t) :: (D, dictOf es n) :: rest) := by
  intro p loose mean mg mb dp un gd outer A₀ base h₀ L s Q' E' B F X N T hd hu ret exc
  exact exc_set1 F X N hr hD hf (by rw [hl]; rfl) (by rw [List.length_append]; exact Nat.le_trans (Nat.add_le_add_right hz 1) (by decide)) (R.putL_new hl n) fun h' tk F' N' => ret () _ _ h' _ F' N' (Cx.N_ok (h _ _))
end
end M
noncomputable def Died (e : Nat) (rest n : Led) : Prop := ∃ D t, Has ((e, excO (some D) t) :: rest) n
theorem perr_tel {prog : Program} {w : World} {e t : Nat} {v : Value} {rest : Led} (hr : ∀ p ∈ rest, p.1 ≠ e) :
    Tel prog w 278 [.ref e, v] 1 3 ((e, excO none t) :: rest) (fun r n => r = .none ∧ ∃ D t2 hk tk, Above D ((t2, ({ cls := .type "tuple", data := .seq #[v] } : Obj)) :: rest) ∧ @LT.lt Nat _ e D ∧ n = (e, excO (some D) t2) :: (D, dictOf [⟨hk, .str "text" tk, v⟩] 1) :: (t2, ({ cls := .type "tuple", data := .seq #[v] } : Obj)) :: rest) (fun xx9 => False) := by
  k_dflt (refine' Tel.ofM (dn := 0) (un' := 0) ?k6 ?k7 ?k9 ?kB ?c2 ?c3 ?c4 ?c5 ?_; (case k6 => k_is); (case k7 => k_is); (case k9 => exact fun s X => BindsTo.of_eq rfl); (case kB => exact locs rfl); (case c5 => decide); (case c2 => exact rfl); (case c3 => exact rfl); (case c4 => exact rfl))
  intro Q Z _ q1 _ Γ
  refine M.biName (v := .type "Exception") (by k_is) (by decide +kernel) (by decide +kernel) rfl rfl ?_
  refine M.methTy meta_Exception (by decide +kernel) (by k_is) (by decide +kernel) rfl ?_
  refine M.excInit hr fun t2 a1 a2 => ?_
  refine M.excSet0 (ne_cons (Nat.ne_of_gt a2) hr) (by k_is) fun D tk a3 a4 => ?_
  exact q1 _ _ ⟨rfl, D, t2, _, tk, a3, a4, rfl⟩
theorem dinit_tel {prog : Program} {w : World} {e t : Nat} {v : Value} {rest : Led} (hr : ∀ p ∈ rest, p.1 ≠ e) :
    TelC prog w 298 ⟨[.ref e, v], []⟩ 2 6 ((e, excO none t) :: rest) (fun r n => r = .none ∧ Died e rest n) (fun xx9 => False) := by
  k_dflt (refine' TelC.ofM (dn := 1) (un' := 3) ?k6 ?k7 ?k9 ?kB ?c2 ?c3 ?c4 ?c5 ?_; (case k6 => k_is); (case k7 => k_is); (case k9 => exact fun s X => BindsTo.of_eq rfl); (case kB => exact locs rfl); (case c5 => decide); (case c2 => exact rfl); (case c3 => exact rfl); (case c4 => exact rfl))
  intro Q Z _ q1 _ Γ
  refine M.glob (by k_is) rfl rfl ?_
  refine M.methC (by k_is) (by k_is) (by k_is) (by k_is) (by k_is) rfl ?_
  refine fun td => M.tel (perr_tel hr) (fun xx9 h => h) (Nat.le_of_ble_eq_true rfl) (Nat.le_of_ble_eq_true rfl) (fun xx9 h => h.elim) ?_
  rintro _ _ ⟨rfl, D, t2, hk, tk, a1, a2, rfl⟩
  refine M.excSet1 (fun p hp => Nat.ne_of_lt (a1 p hp)) (Nat.ne_of_lt a2) (by k_is) rfl (Nat.le_of_ble_eq_true rfl) fun hs tk2 => ?_
  exact q1 _ _ ⟨rfl, D, t2, has_cons (.head _) fun p hp => .tail _ (.tail _ (.tail _ hp))⟩
theorem die_tel {prog : Program} {w : World} {v : Value} {rest : Led} :
  Tel prog w 301 [v] 5 20 rest (fun r news' => ∃ e D t, r = .ref e ∧ news' = (e, excO (some D) t) :: rest ∧ (∀ p ∈ rest, p.1 < e)) (fun xx9 => False) := by
  intro p loose mean mg mb dp un gd cn cs a ccd cl outer A₀ base h₀ L m s Q E B F X N T hk hd hu ret exc
  refine wpAny_call (die_K F X N (fun e t h' F' N' l1 l2 => ?_) (Nat.le_of_ble_eq_true rfl))
  have C1 := dinit_tel (prog := prog) (w := w) (t := t) (v := v) (e := e) (rest := (t, ({ cls := .type "tuple", data := .seq #[v] } : Obj)) :: rest) (ne_cons (Nat.ne_of_lt l2) fun p hp => Nat.ne_of_lt (Nat.lt_trans (l1 p hp) l2))
  unfold TelC at C1
  refine C1 p loose mean mg mb _ _ _ cn cs a ccd cl outer A₀ base h₀ L m { s with heap := h' } _ B F' X N' T hk ?_ ?_ ?_ fun xx9 xx9 xx9 xx9 xx9 xx9 xx9 xx9 q => q.elim
  · have e : (Code.builtin "type.__call__" { pos := [Value.ref 301, v] }).weight = 1 := by rfl
    dsimp only [ktrTop]
    rw [e]
    omega
  · have e : (Code.builtin "type.__call__" { pos := [Value.ref 301, v] }).cUnits ≤ 8 := by show (Code.builtin "type.__call__" { pos := [] }).cUnits ≤ 8; decide +kernel
    dsimp only [ktrTop]
    omega
  · rintro r G' h2 t2 F2 N2 ⟨rfl, D, t9, hs⟩
    exact ⟨rfl, ret _ _ _ _ F2 (News.has N2 fun p hp => hs p ((List.mem_cons.mp hp).elim (fun e => e ▸ .head _) fun h => .tail _ (.tail _ h))) ⟨e, D, t9, rfl, rfl, fun p hp => Nat.lt_trans (l1 p hp) l2⟩⟩
end
section
theorem kind_words_tel {prog : Program} {w : World} {k : Str} {tk : Tok} {rest : Led} :
  Tel prog w 350 [.str k tk] 5 20 rest (fun r news' => ∃ D w1 w2 t1 t2, r = .ref D ∧ news' = (D, ({ cls := .type "tuple", data := .seq #[.str w1 t1, .str w2 t2] } : Obj)) :: rest ∧ w1.length ≤ 16 ∧ w2.length ≤ 16) (fun xx9 => False) := by
  k_dflt (refine' Tel.ofM (dn := 4) (un' := 17) ?k6 ?k7 ?k9 ?kB ?c2 ?c3 ?c4 ?c5 ?_; (case k6 => k_is); (case k7 => k_is); (case k9 => exact fun s X => BindsTo.of_eq rfl); (case kB => exact locs rfl); (case c5 => decide); (case c2 => exact rfl); (case c3 => exact rfl); (case c4 => exact rfl))
  intro Q Z q1 _ _ Γ
  intro t1
  cases e1 : k == "A" with
  | true =>
    refine M.eqS true e1 ?_
    intro t2 t3
    exact M.newTuple (Nat.le_of_ble_eq_true rfl) fun D xx9 => q1 _ _ _ ⟨D, _, _, _, _, rfl, rfl, by decide +kernel, by decide +kernel⟩
  | false =>
    refine M.eqS false e1 ?_
    intro t2
    cases e2 : k == "H" with
    | true =>
      refine M.eqS true e2 ?_
      intro t3 t4
      exact M.newTuple (Nat.le_of_ble_eq_true rfl) fun D xx9 => q1 _ _ _ ⟨D, _, _, _, _, rfl, rfl, by decide +kernel, by decide +kernel⟩
    | false =>
      refine M.eqS false e2 ?_
      intro t3
      cases e3 : k == "C" with
      | true =>
        refine M.eqS true e3 ?_
        intro t4 t5
        exact M.newTuple (Nat.le_of_ble_eq_true rfl) fun D xx9 => q1 _ _ _ ⟨D, _, _, _, _, rfl, rfl, by decide +kernel, by decide +kernel⟩
      | false =>
        refine M.eqS false e3 ?_
        intro t4 t5
        exact M.newTuple (Nat.le_of_ble_eq_true rfl) fun D xx9 => q1 _ _ _ ⟨D, _, _, _, _, rfl, rfl, by decide +kernel, by decide +kernel⟩
end
section
noncomputable def numJ (rest : Led) (k : Nat) (m₁ : Str → Option Value) (news₁ : Led) : Prop :=
  news₁ = rest ∧ ∃ (i : Int) (ti : Tok) (x : Str) (tx : Tok), 0 ≤ i ∧ i < 10 ^ (k + 1) ∧ x.length + k ≤ 3 ∧ m₁ "n" = some (.int i ti) ∧ m₁ "text" = some (.str x tx)
theorem num_while {prog : Program} {w : World} {A : Around} {E : Value → Shared → Prop} {s : Shared} {h₀ : Heap} {L : Addr} {m : Str → Option Value} {env : Env} {Q : Flow → Shared → Prop} {test : PySem.Expr} {body : List Stmt} {pos : Pos} {rest : Led} {i : Int} {ti : Tok} {x : Str} {tx : Tok}
    (F : Fr h₀ L s.heap m) (N : News h₀ L s.heap rest) (h1 : m "n" = some (.int i ti)) (h2 : m "text" = some (.str x tx)) (h3 : 0 ≤ i) (h4 : i < 1000) (h5 : x.length + 2 ≤ 3) (hE : PassesOwn (model prog w) A env E)
    (turn : ∀ n m₁ h₁ tk₁ (i : Int) (ti : Tok) (x : Str) (tx : Tok), Fr h₀ L h₁ m₁ → News h₀ L h₁ rest → 0 ≤ i → i < 10 ^ (n + 1) → x.length + n ≤ 3 → m₁ "n" = some (.int i ti) → m₁ "text" = some (.str x tx) →
      wpAny (model prog w) A (isTrue test env (eval test env)) (fun b s₂ =>
        if b = true then wpAny (model prog w) A (execs body env) (WhileStep h₀ L s (numJ rest) n) E s₂ else Q .next s₂) E { s with heap := h₁, toks := tk₁ }) :
    wpAny (model prog w) A (exec (.While test body [] pos) env) Q E s :=
  While_inv (numJ rest) (n₀ := 2) F N ⟨rfl, i, ti, x, tx, h3, h4, h5, h1, h2⟩ (fun n m₁ news₁ h₁ tk₁ F₁ N₁ J₁ => by
    obtain ⟨rfl, i, ti, x, tx, a, b, c, d, e⟩ := J₁
    exact turn n m₁ h₁ tk₁ i ti x tx F₁ N₁ a b c d e) hE
theorem num_pow {i : Int} {n : Nat} (h : i < 10 ^ (n + 1)) (h9 : 9 < i) : ∃ k, n = k + 1 ∧ i.fdiv 10 < 10 ^ (k + 1) ∧ 0 ≤ i.fdiv 10 := by
  cases n with
  | zero => simp at h; omega
  | succ k =>
    refine ⟨k, rfl, ?_, ?_⟩
    · rw [Int.pow_succ] at h
      have := fdiv_fmod_facts i 10
      rw [Int.fdiv_eq_ediv_of_nonneg _ (by omega)]
      generalize (10 : Int) ^ (k + 1) = p at h ⊢
      omega
    · rw [Int.fdiv_eq_ediv_of_nonneg _ (by omega)]
      omega
theorem fig_some : ∀ j : Nat, j < 10 → ((seqIndex? (j : Int) 10).bind ((Str.ofString "0123456789").cps[·]?)).isSome = true := by decide +kernel
namespace M
variable {Γ : Cx} {K : List Fm} {ml : Ml} {G : Led}
theorem mod {a b : Int} {t u : Tok} (hb : b ≠ 0) (h : ∀ tk, Γ.N 90 (.sg (.v (.int (a.fmod b) tk))) K ml G) : Γ.W (.bo .Mod (.int a t) (.int b u)) K ml G := leaft (f := .int (a.fmod b)) rfl (fun h => PyProof.Rows.mod_int hb h) h
theorem addS {a b : Str} {t u : Tok} (na nb : Nat) (ha : a.length ≤ na) (hb : b.length ≤ nb) (hz : na + nb ≤ 1000) (h : ∀ tk, (a ++ b).length ≤ na + nb → Γ.N 90 (.sg (.v (.str (a ++ b) tk))) K ml G) : Γ.W (.bo .Add (.str a t) (.str b u)) K ml G := by
  intro p loose mean mg mb dp un gd outer A₀ base h₀ L s Q' E' B F X N T hd hu ret exc
  exact PyProof.Rows.add_str (fun t' tk => ret _ _ G s.heap tk F N (Cx.N_ok (h t' (by rw [Str.length_append]; omega)))) (Nat.le_trans (Nat.add_le_add ha hb) (Nat.le_trans hz (by decide)))
theorem figure {ex sl : PySem.Expr} {i : Int} {t u : Tok} (h0 : 0 ≤ i) (h1 : i < 10) (hs : ∀ i, subscripted sl false (.str (Str.ofString "0123456789") t) (.int i u) = operate [.str (Str.ofString "0123456789") t, .int i u] (getItem (.str (Str.ofString "0123456789") t) (.int i u))) (h : ∀ y tk, y.length = 1 → Γ.N 90 (.sg (.v (.str y tk))) K ml G) : Γ.W (.gi ex sl (.str (Str.ofString "0123456789") t) (.int i u)) K ml G := by
  obtain ⟨j, rfl⟩ := Int.eq_ofNat_of_zero_le h0
  obtain ⟨c, hc⟩ := Option.isSome_iff_exists.mp (fig_some j (Int.ofNat_lt.mp h1))
  exact leaft (f := .str ⟨#[c]⟩) rfl (fun h => tail_any (typeIs_str _ _ _) PySem.F.slot_str_getitem.lookup (P.getItem_str (by simp; omega) hc h) (hs _)) fun tk => h _ tk rfl
theorem ifdiv10 {a : Int} {t u : Tok} (h : ∀ tk, Γ.N 90 (.sg (.v (.int (a.fdiv 10) tk))) K ml G) : Γ.W (.ip .FloorDiv (.int a t) (.int 10 u)) K ml G := leaft (f := .int (a.fdiv 10)) rfl (fun h => PyProof.Rows.ifloordiv_int (by decide) h (.inl (PyProof.noPylong_of_log2 (by decide +kernel)))) h
theorem numWhile {pn p9 pt pos : Pos} {kk : Nat} {body rest : List Stmt} {i : Int} {ti : Tok} {x : Str} {tx : Tok} (kn : (Γ.φ.env 0).kindOf "n" = some .local) (h1 : ml.l.lookup ("n" : Str) = some (.int i ti)) (h2 : ml.l.lookup ("text" : Str) = some (.str x tx)) (h3 : 0 ≤ i) (h4 : i < 1000) (h5 : x.length + 2 ≤ 3)
    (turn : ∀ n m1 i ti x tx, i < 10 ^ (n + 1) → 9 < i → x.length + n ≤ 3 → m1 "n" = some (.int i ti) → m1 "text" = some (.str x tx) → ∃ l, look ⟨l, m1⟩ = m1 ∧ ∀ Q2 : Flow → (Str → Option Value) → Led → Prop, (∀ m3 n', n' < n → numJ G n' m3 G → Q2 .next m3 G) → Cx.N (Γ.wQ Q2) 90 (.st body) [] ⟨l, m1⟩ G)
    (done : ∀ m1 x tx, x.length ≤ 3 → m1 "text" = some (.str x tx) → ∃ l, look ⟨l, m1⟩ = m1 ∧ Γ.N 90 (.st rest) K ⟨l, m1⟩ G) (ht : Γ.φ.tr = Option.none := by rfl) :
    Γ.W (.st (.While (.Compare (.Name "n" pn) [.Gt] [.Constant (.int 9) kk p9] pt) body [] pos :: rest)) K ml G := by
  refine R.cons ?_
  intro p loose mean mg mb dp un gd outer A₀ base h₀ L s Q' E' B F X N T hd hu ret exc
  refine num_while F N (look_at h1) (look_at h2) h3 h4 h5 hu.2.1 fun n m1 g1 tk1 i ti x tx F1 N1 a0 a1 a2 a3 a4 => ?_
  have C : R.Wc Γ.prog Γ.w Γ.φ Γ.dn Γ.un (.Compare (.Name "n" pn) [.Gt] [.Constant (.int 9) kk p9] pt) m1 G (fun b m2 G2 => b = decide (9 < i) ∧ m2 = m1 ∧ G2 = G) Γ.Z :=
    R.cmp (R.name a3 kn (Cx.ok ht) (by decide +kernel) (R.int fun tk => Wt.val (v := .bool (decide (9 < i))) ⟨_, rfl, rfl, rfl, rfl⟩ fun h => gt_int h)) rfl
  refine C p loose mean mg mb dp un gd outer A₀ base h₀ L { s with heap := g1, toks := tk1 } _ E' B F1 X N1 T hd hu (fun b m2 G2 h2 t2 F2 N2 q => ?_) exc
  obtain ⟨rfl, rfl, rfl⟩ := q
  by_cases h9 : 9 < i
  · rw [if_pos (decide_eq_true h9)]
    obtain ⟨l, hl, hb⟩ := turn n m2 i ti x tx a1 h9 a2 a3 a4
    have hb := Cx.N_ok (hb (fun fl m3 G3 => fl = .next ∧ G3 = G2 ∧ ∃ n', n' < n ∧ numJ G2 n' m3 G2) fun m3 n' a b => ⟨rfl, rfl, n', a, b⟩)
    unfold Cx.W at hb
    rw [hl] at hb
    refine hb p loose mean mg mb dp un gd outer A₀ base h₀ L { s with heap := h2, toks := t2 } _ E' B F2 X N2 T hd hu (fun fl m3 G3 h3 t3 F3 N3 q => ?_) exc
    obtain ⟨rfl, rfl, n', b1, b2⟩ := q
    exact WhileStep.intro F3 N3 b1 b2
  · rw [decide_eq_false h9, if_neg Bool.false_ne_true]
    obtain ⟨l, hl, hr⟩ := done m2 x tx (Nat.le_trans (Nat.le_add_right _ _) a2) a4
    have hr := Cx.N_ok hr
    unfold Cx.W at hr
    rw [hl] at hr
    exact ret .next m2 G2 h2 t2 F2 N2 hr
end M
theorem number_text_tel {prog : Program} {w : World} {n : Int} {tn : Tok} {rest : Led} (h0 : 0 ≤ n) (h1 : n < 1000) :
  Tel prog w 28 [.int n tn] 5 40 rest (fun r news' => ∃ x t, r = .str x t ∧ news' = rest ∧ x.length ≤ 4) (fun xx9 => False) := by
  k_dflt (refine' Tel.ofM (dn := 4) (un' := 37) ?k6 ?k7 ?k9 ?kB ?c2 ?c3 ?c4 ?c5 ?_; (case k6 => k_is); (case k7 => k_is); (case k9 => exact fun s X => BindsTo.of_eq rfl); (case kB => exact locs rfl); (case c5 => decide); (case c2 => exact rfl); (case c3 => exact rfl); (case c4 => exact rfl))
  intro Q Z q1 _ _ Γ
  refine fun t0 => M.lt false (decide_eq_false (Int.not_lt.mpr h0)) ?_
  refine M.glob (by k_is) rfl rfl ?_
  refine fun t10 => M.mod (by decide) fun t1 => ?_
  refine M.figure (Int.fmod_nonneg_of_pos _ (by decide)) (Int.fmod_lt_of_pos _ (by decide)) (fun xx9 => by with_unfolding_all rfl) fun y ty hy => ?_
  refine M.numWhile rfl rfl rfl h0 h1 (by rw [hy]; exact Nat.le_refl 3) (fun k m1 i ti x tx a1 a2 a3 a4 a5 => ?_) fun m1 x tx a1 a2 => ?_
  · refine ⟨[("n", .int i ti), ("text", .str x tx)], look_add1 (look_add1 look_base a5) a4, fun Q2 q => ?_⟩
    obtain ⟨k, rfl, hk1, hk2⟩ := num_pow a1 a2
    refine fun t2 => M.ifdiv10 fun t3 => ?_
    refine M.glob (by k_is) rfl rfl ?_
    refine fun t10 => M.mod (by decide) fun t1 => ?_
    refine M.figure (Int.fmod_nonneg_of_pos _ (by decide)) (Int.fmod_lt_of_pos _ (by decide)) (fun xx9 => by with_unfolding_all rfl) fun y ty hy => ?_
    refine M.addS 1 3 (Nat.le_of_eq hy) (Nat.le_trans (Nat.le_add_right _ _) a3) (by decide) fun t4 hl => ?_
    refine q _ k (Nat.lt_succ_self _) ⟨rfl, _, _, _, _, hk2, hk1, ?_, look_at rfl, look_at rfl⟩
    rw [Str.length_append, hy]
    omega
  · exact ⟨[("text", .str x tx)], look_add1 look_base a2, q1 _ _ _ ⟨x, tx, rfl, rfl, Nat.le_succ_of_le a1⟩⟩
end
section
section
variable {prog : Program} {w : World} {φ : Fn} {dn un' : Nat} {m : Str → Option Value} {G : Led} {Z : Led → Prop} {QF : Flow → (Str → Option Value) → Led → Prop}
theorem R.unpack2 {Q : Unit → (Str → Option Value) → Led → Prop} {x1 x2 : Str} {p1 p2 tp : Pos} {k : Nat} {T n : Nat} {a b : Value} (hT : (T, ({ cls := .type "tuple", data := .seq #[a, b] n } : Obj)) ∈ G) (k1 : (φ.env 0).kindOf x1 = some .local) (k2 : (φ.env 0).kindOf x2 = some .local) (hs : φ.ok) (h : Q () (upd (upd m x1 a) x2 b) G) :
    Wt prog w φ dn un' (fun env => PySem.assign (.Tuple [.Name x1 p1, .Name x2 p2] k tp) env (.ref T)) m G Q Z := by
  intro p loose mean mg mb dp un gd outer A₀ base h₀ L s Q' E' B F X N T' hd hu ret exc
  refine unpackN_ F N (News.isTup N hT) rfl rfl rfl fun h1 F1 N1 => ?_
  rw [hs.e]
  refine assignInOrder_cons (assign_Name (storeX_L (cl := φ.cl) (L := L) F1 N1 (fun h2 F2 N2 => ?_) hs.fn (hs.k L k1)))
  refine assignInOrder_cons (assign_Name (storeX_L (cl := φ.cl) (L := L) F2 N2 (fun h3 F3 N3 => ?_) hs.fn (hs.k L k2)))
  exact assignInOrder_nil (ret () _ G h3 _ F3 N3 h)
end
namespace M
variable {Γ : Cx} {K : List Fm} {ml : Ml} {G : Led}
theorem lenS {a : Str} {t : Tok} (ha : a.length ≤ 1000) (h : ∀ tk, Γ.N 90 (.sg (.v (.int a.length tk))) K ml G) : Γ.W (.cl (.cal (.builtin "len")) [.str a t]) K ml G :=
  leafC (t := PySem.call (.builtin "len") [.str a t]) (P := fun v G' => G' = G ∧ ∃ tk, v = .int a.length tk) rfl (fun F xx9 N q => len_str (by omega) (q _ _ _ _ ⟨rfl, _, rfl⟩ F N)) fun v G' hp => by obtain ⟨rfl, tk, rfl⟩ := hp; exact h tk
theorem isiInt {i : Int} {t : Tok} (h : Γ.N 90 (.sg (.v (.bool true))) K ml G) : Γ.W (.cl (.cal (.builtin "isinstance")) [.int i t, .type "int"]) K ml G :=
  leafN (t := PySem.call (.builtin "isinstance") [.int i t, .type "int"]) rfl (.bool true) (fun xx9 xx9 xx9 q => IsiPair.int_int (q _)) h
theorem isiIntS {i : Str} {t : Tok} (h : Γ.N 90 (.sg (.v (.bool false))) K ml G) : Γ.W (.cl (.cal (.builtin "isinstance")) [.str i t, .type "int"]) K ml G :=
  leafN (t := PySem.call (.builtin "isinstance") [.str i t, .type "int"]) rfl (.bool false) (fun xx9 xx9 xx9 q => IsiPair.str_int (q _)) h
theorem unpack2 {x1 x2 : Str} {p1 p2 tp : Pos} {k : Nat} {T n : Nat} {a b : Value} (hT : (T, ({ cls := .type "tuple", data := .seq #[a, b] n } : Obj)) ∈ G) (k1 : (Γ.φ.env 0).kindOf x1 = some .local) (k2 : (Γ.φ.env 0).kindOf x2 = some .local) (h : Γ.N 90 (.sg .u) K ((ml.add x1 a).add x2 b) G) (ht : Γ.φ.tr = Option.none := by rfl) : Γ.W (.tg (.Tuple [.Name x1 p1, .Name x2 p2] k tp) (.ref T)) K ml G := by
  have h := Cx.N_ok h
  unfold Cx.W at h
  rw [look_add, look_add] at h
  exact R.unpack2 hT k1 k2 (Cx.ok ht) h
end M
section
variable {prog : Program} {w : World} {k : Str} {tk : Tok} {G : Led}
theorem text_str {x : Str} {t : Tok} (hx : x.length ≤ 10) : Tel prog w 264 [.str x t] 8 50 G (fun r n => ∃ y t', r = .str y t' ∧ n = G ∧ y.length ≤ 10) (fun xx9 => False) := by
  k_dflt (refine' Tel.ofM (dn := 7) (un' := 47) ?k6 ?k7 ?k9 ?kB ?c2 ?c3 ?c4 ?c5 ?_; (case k6 => k_is); (case k7 => k_is); (case k9 => exact fun s X => BindsTo.of_eq rfl); (case kB => exact locs rfl); (case c5 => decide); (case c2 => exact rfl); (case c3 => exact rfl); (case c4 => exact rfl))
  intro Q Z q1 _ _ Γ
  refine M.isN false rfl ?_
  refine M.isiIntS ?_
  refine M.isiPlain (.inr (.inr ⟨_, _, rfl⟩)) ?_
  exact q1 _ _ _ ⟨x, t, rfl, rfl, hx⟩
theorem text_int {n : Int} {t : Tok} (h0 : 0 ≤ n) (h1 : n < 1000) : Tel prog w 264 [.int n t] 8 50 G (fun r n => ∃ y t', r = .str y t' ∧ n = G ∧ y.length ≤ 10) (fun xx9 => False) := by
  k_dflt (refine' Tel.ofM (dn := 7) (un' := 47) ?k6 ?k7 ?k9 ?kB ?c2 ?c3 ?c4 ?c5 ?_; (case k6 => k_is); (case k7 => k_is); (case k9 => exact fun s X => BindsTo.of_eq rfl); (case kB => exact locs rfl); (case c5 => decide); (case c2 => exact rfl); (case c3 => exact rfl); (case c4 => exact rfl))
  intro Q Z q1 _ _ Γ
  refine M.isN false rfl ?_
  refine M.isiInt ?_
  refine M.tel (number_text_tel h0 h1) (fun xx9 h => h) (Nat.le_of_ble_eq_true rfl) (Nat.le_of_ble_eq_true rfl) (fun xx9 h => h.elim) ?_
  rintro _ _ ⟨y, t', rfl, rfl, hy⟩
  exact q1 _ _ _ ⟨y, t', rfl, rfl, Nat.le_trans hy (by decide)⟩
theorem shown_tel {v : Value} (C : ∀ G, Tel prog w 264 [v] 8 50 G (fun r n => ∃ y t', r = .str y t' ∧ n = G ∧ y.length ≤ 10) (fun xx9 => False)) : Tel prog w 364 [v] 10 60 G (fun r n => ∃ y t', r = .str y t' ∧ n = G ∧ y.length ≤ 14) (fun xx9 => False) := by
  k_dflt (refine' Tel.ofM (dn := 9) (un' := 57) ?k6 ?k7 ?k9 ?kB ?c2 ?c3 ?c4 ?c5 ?_; (case k6 => k_is); (case k7 => k_is); (case k9 => exact fun s X => BindsTo.of_eq rfl); (case kB => exact locs rfl); (case c5 => decide); (case c2 => exact rfl); (case c3 => exact rfl); (case c4 => exact rfl))
  intro Q Z q1 _ _ Γ
  refine M.tel (C G) (fun xx9 h => h) (Nat.le_of_ble_eq_true rfl) (Nat.le_of_ble_eq_true rfl) (fun xx9 h => h.elim) ?_
  rintro _ _ ⟨y, t', rfl, rfl, hy⟩
  refine M.lenS (Nat.le_trans hy (by decide)) fun t1 => ?_
  refine M.glob (by k_is) rfl rfl ?_
  refine M.gt false (decide_eq_false (by omega)) ?_
  intro t2
  refine M.addS 2 10 (by decide +kernel) hy (by decide) fun t3 z1 => ?_
  intro t4
  refine M.addS 12 2 z1 (by decide +kernel) (by decide) fun t5 z2 => ?_
  exact q1 _ _ _ ⟨_, _, rfl, rfl, z2⟩
theorem refuse_none {rest : Led} : Tel prog w 371 [.none, .str k tk] 20 100 rest (fun xx9 xx9 => False) (fun news' => news' = rest) := by
  k_dflt (refine' Tel.ofM (dn := 19) (un' := 97) ?k6 ?k7 ?k9 ?kB ?c2 ?c3 ?c4 ?c5 ?_; (case k6 => k_is); (case k7 => k_is); (case k9 => exact fun s X => BindsTo.of_eq rfl); (case kB => exact locs rfl); (case c5 => decide); (case c2 => exact rfl); (case c3 => exact rfl); (case c4 => exact rfl))
  intro Q Z _ _ z Γ
  refine M.tel kind_words_tel (fun xx9 h => h) (Nat.le_of_ble_eq_true rfl) (Nat.le_of_ble_eq_true rfl) (fun xx9 h => h.elim) ?_
  rintro _ _ ⟨D, w1, w2, t1, t2, rfl, rfl, l1, l2⟩
  refine M.unpack2 (.head _) rfl rfl ?_
  refine M.isN true rfl ?_
  intro t3
  refine M.addS 40 16 (by decide +kernel) l2 (by decide) fun t4 z1 => ?_
  intro t5
  refine M.addS 56 20 z1 (by decide +kernel) (by decide) fun t6 z2 => ?_
  refine M.led (c := .cl _ _) (rest) (by exact trivial) (fun xx9 h => .tail _ h) ?_
  refine M.tel die_tel (fun xx9 h => h) (Nat.le_of_ble_eq_true rfl) (Nat.le_of_ble_eq_true rfl) (fun xx9 h => h.elim) ?_
  rintro _ _ ⟨e, D2, t, rfl, rfl, ab⟩
  exact M.raised (fun q hq => Nat.ne_of_lt (ab q hq)) (z _ rfl)
theorem refuse_ref {r dr : Nat} {od : Obj} {rest : Led} : Tel prog w 371 [.ref r, .str k tk] 20 100 ((r, instObj 162 dr) :: (dr, od) :: rest) (fun xx9 xx9 => False) (fun news' => news' = (r, instObj 162 dr) :: (dr, od) :: rest) := by
  k_dflt (refine' Tel.ofM (dn := 19) (un' := 97) ?k6 ?k7 ?k9 ?kB ?c2 ?c3 ?c4 ?c5 ?_; (case k6 => k_is); (case k7 => k_is); (case k9 => exact fun s X => BindsTo.of_eq rfl); (case kB => exact locs rfl); (case c5 => decide); (case c2 => exact rfl); (case c3 => exact rfl); (case c4 => exact rfl))
  intro Q Z _ _ z Γ
  refine M.tel kind_words_tel (fun xx9 h => h) (Nat.le_of_ble_eq_true rfl) (Nat.le_of_ble_eq_true rfl) (fun xx9 h => h.elim) ?_
  rintro _ _ ⟨D, w1, w2, t1, t2, rfl, rfl, l1, l2⟩
  refine M.unpack2 (.head _) rfl rfl ?_
  refine M.isN false rfl ?_
  refine M.isiObj true (at_ 1 rfl) (at_ 2 rfl) (by decide) (by decide) rfl ?_
  intro t3
  refine M.addS 40 16 (by decide +kernel) l1 (by decide) fun t4 z1 => ?_
  intro t5
  refine M.addS 56 20 z1 (by decide +kernel) (by decide) fun t6 z2 => ?_
  refine M.led (c := .cl _ _) ((r, instObj 162 dr) :: (dr, od) :: rest) (by exact trivial) (fun xx9 h => .tail _ h) ?_
  refine M.tel die_tel (fun xx9 h => h) (Nat.le_of_ble_eq_true rfl) (Nat.le_of_ble_eq_true rfl) (fun xx9 h => h.elim) ?_
  rintro _ _ ⟨e, D2, t, rfl, rfl, ab⟩
  exact M.raised (fun q hq => Nat.ne_of_lt (ab q hq)) (z _ rfl)
theorem refuse_text {v : Value} {rest : Led} (hn : (v == .none) = false) (hv : Plain v) (C : ∀ G, Tel prog w 264 [v] 8 50 G (fun r n => ∃ y t', r = .str y t' ∧ n = G ∧ y.length ≤ 10) (fun xx9 => False)) : Tel prog w 371 [v, .str k tk] 20 100 rest (fun xx9 xx9 => False) (fun news' => news' = rest) := by
  k_dflt (refine' Tel.ofM (dn := 19) (un' := 97) ?k6 ?k7 ?k9 ?kB ?c2 ?c3 ?c4 ?c5 ?_; (case k6 => k_is); (case k7 => k_is); (case k9 => exact fun s X => BindsTo.of_eq rfl); (case kB => exact locs rfl); (case c5 => decide); (case c2 => exact rfl); (case c3 => exact rfl); (case c4 => exact rfl))
  intro Q Z _ _ z Γ
  refine M.tel kind_words_tel (fun xx9 h => h) (Nat.le_of_ble_eq_true rfl) (Nat.le_of_ble_eq_true rfl) (fun xx9 h => h.elim) ?_
  rintro _ _ ⟨D, w1, w2, t1, t2, rfl, rfl, l1, l2⟩
  refine M.unpack2 (.head _) rfl rfl ?_
  refine M.isN false hn ?_
  refine M.isiPlain hv ?_
  intro t3
  refine M.tel (shown_tel C) (fun xx9 h => h) (Nat.le_of_ble_eq_true rfl) (Nat.le_of_ble_eq_true rfl) (fun xx9 h => h.elim) ?_
  rintro _ _ ⟨y, t', rfl, rfl, hy⟩
  refine M.addS 40 14 (by decide +kernel) hy (by decide) fun t4 z1 => ?_
  intro t5
  refine M.addS 54 20 z1 (by decide +kernel) (by decide) fun t6 z2 => ?_
  refine M.addS 74 16 z2 l2 (by decide) fun t7 z3 => ?_
  refine M.glob (by k_is) rfl rfl ?_
  refine M.addS 90 60 z3 (by decide +kernel) (by decide) fun t8 z4 => ?_
  refine M.led (c := .cl _ _) (rest) (by exact trivial) (fun xx9 h => .tail _ h) ?_
  refine M.tel die_tel (fun xx9 h => h) (Nat.le_of_ble_eq_true rfl) (Nat.le_of_ble_eq_true rfl) (fun xx9 h => h.elim) ?_
  rintro _ _ ⟨e, D2, t, rfl, rfl, ab⟩
  exact M.raised (fun q hq => Nat.ne_of_lt (ab q hq)) (z _ rfl)
theorem refuse_str {x : Str} {tx : Tok} {rest : Led} (hx : x.length ≤ 10) : Tel prog w 371 [.str x tx, .str k tk] 20 100 rest (fun xx9 xx9 => False) (fun news' => news' = rest) := refuse_text rfl (.inr (.inr ⟨_, _, rfl⟩)) fun xx9 => text_str hx
theorem refuse_int {n : Int} {tx : Tok} {rest : Led} (h0 : 0 ≤ n) (h1 : n < 1000) : Tel prog w 371 [.int n tx, .str k tk] 20 100 rest (fun xx9 xx9 => False) (fun news' => news' = rest) := refuse_text rfl (.inr (.inl ⟨_, _, rfl⟩)) fun xx9 => text_int h0 h1
end
end
section
noncomputable def ofKind (k : Str) (c : Nat) : Bool := if k == "A" then c == 85 else if k == "H" then c == 104 else if k == "C" then c == 123 else c == 66
theorem is_of_kind_tel {prog : Program} {w : World} {a c da : Nat} {od : Obj} {k : Str} {tk : Tok} {rest : Led} (hc : c = 66 ∨ c = 85 ∨ c = 104 ∨ c = 162) :
  Tel prog w 357 [.ref a, .str k tk] 3 15 ((a, instObj c da) :: (da, od) :: rest) (fun r news' => r = .bool (ofKind k c) ∧ news' = (a, instObj c da) :: (da, od) :: rest) (fun xx9 => False) := by
  k_dflt (refine' Tel.ofM (dn := 2) (un' := 12) ?k6 ?k7 ?k9 ?kB ?c2 ?c3 ?c4 ?c5 ?_; (case k6 => k_is); (case k7 => k_is); (case k9 => exact fun s X => BindsTo.of_eq rfl); (case kB => exact locs rfl); (case c5 => decide); (case c2 => exact rfl); (case c3 => exact rfl); (case c4 => exact rfl))
  intro Q Z q1 _ _ Γ
  intro t1
  unfold ofKind at q1
  cases e1 : k == "A" with
  | true => rw [if_pos e1] at q1; exact M.eqS true e1 (M.isiObj _ (at_ 0 rfl) (at_ 1 rfl) hc (by decide) rfl (q1 _ _ _ ⟨rfl, rfl⟩))
  | false =>
    rw [if_neg (by rw [e1]; exact Bool.false_ne_true)] at q1
    refine M.eqS false e1 ?_
    intro t2
    cases e2 : k == "H" with
    | true => rw [if_pos e2] at q1; exact M.eqS true e2 (M.isiObj _ (at_ 0 rfl) (at_ 1 rfl) hc (by decide) rfl (q1 _ _ _ ⟨rfl, rfl⟩))
    | false =>
      rw [if_neg (by rw [e2]; exact Bool.false_ne_true)] at q1
      refine M.eqS false e2 ?_
      intro t3
      cases e3 : k == "C" with
      | true => rw [if_pos e3] at q1; exact M.eqS true e3 (M.isiObj _ (at_ 0 rfl) (at_ 1 rfl) hc (by decide) rfl (q1 _ _ _ ⟨rfl, rfl⟩))
      | false =>
        rw [if_neg (by rw [e3]; exact Bool.false_ne_true)] at q1
        exact M.eqS false e3 (M.isiObj _ (at_ 0 rfl) (at_ 1 rfl) hc (by decide) rfl (q1 _ _ _ ⟨rfl, rfl⟩))
section
variable {prog : Program} {w : World} {k : Str} {tk : Tok} {rest : Led}
theorem deref_plain {v : Value} (hv : Plain v) (C : Tel prog w 371 [v, .str k tk] 20 100 rest (fun xx9 xx9 => False) (fun n => n = rest)) : Tel prog w 378 [v, .str k tk] 25 120 rest (fun xx9 xx9 => False) (fun news' => news' = rest) := by
  k_dflt (refine' Tel.ofM (dn := 24) (un' := 117) ?k6 ?k7 ?k9 ?kB ?c2 ?c3 ?c4 ?c5 ?_; (case k6 => k_is); (case k7 => k_is); (case k9 => exact fun s X => BindsTo.of_eq rfl); (case kB => exact locs rfl); (case c5 => decide); (case c2 => exact rfl); (case c3 => exact rfl); (case c4 => exact rfl))
  intro Q Z _ _ z Γ
  refine M.isiPlain hv ?_
  exact M.tel C (fun xx9 h => h) (Nat.le_of_ble_eq_true rfl) (Nat.le_of_ble_eq_true rfl) z fun xx9 xx9 q => q.elim
theorem deref_none : Tel prog w 378 [.none, .str k tk] 25 120 rest (fun xx9 xx9 => False) (fun news' => news' = rest) := deref_plain (.inl rfl) refuse_none
theorem deref_str {x : Str} {tx : Tok} (hx : x.length ≤ 10) : Tel prog w 378 [.str x tx, .str k tk] 25 120 rest (fun xx9 xx9 => False) (fun news' => news' = rest) := deref_plain (.inr (.inr ⟨_, _, rfl⟩)) (refuse_str hx)
theorem deref_int {i : Int} {tx : Tok} (h0 : 0 ≤ i) (h1 : i < 1000) : Tel prog w 378 [.int i tx, .str k tk] 25 120 rest (fun xx9 xx9 => False) (fun news' => news' = rest) := deref_plain (.inr (.inl ⟨_, _, rfl⟩)) (refuse_int h0 h1)
theorem deref_ref {r dr a c da : Nat} {rd : RD} {od : Obj} (hc : c = 66 ∨ c = 85 ∨ c = 104) :
  Tel prog w 378 [.ref r, .str k tk] 25 120 ((r, instObj 162 dr) :: (dr, refD rd a) :: (a, instObj c da) :: (da, od) :: rest)
    (fun v news' => ofKind k c = true ∧ v = .ref a ∧ Has ((r, instObj 162 dr) :: (dr, refD rd a) :: (a, instObj c da) :: (da, od) :: rest) news')
    (fun news' => ofKind k c = false ∧ Has ((r, instObj 162 dr) :: (dr, refD rd a) :: (a, instObj c da) :: (da, od) :: rest) news') := by
  k_dflt (refine' Tel.ofM (dn := 24) (un' := 117) ?k6 ?k7 ?k9 ?kB ?c2 ?c3 ?c4 ?c5 ?_; (case k6 => k_is); (case k7 => k_is); (case k9 => exact fun s X => BindsTo.of_eq rfl); (case kB => exact locs rfl); (case c5 => decide); (case c2 => exact rfl); (case c3 => exact rfl); (case c4 => exact rfl))
  intro Q Z q1 _ z Γ
  refine M.isiObj true (at_ 0 rfl) (at_ 1 rfl) (by decide) (by decide) rfl ?_
  refine M.getOwn (at_ 0 rfl) (at_ 1 rfl) gaR.1 rfl rfl ?_
  refine M.tel (is_of_kind_tel (rest := (r, instObj 162 dr) :: (dr, refD rd a) :: rest) (hc.imp id fun h => h.imp id .inl)) (perm [2, 3, 0, 1] 4 rfl) (Nat.le_of_ble_eq_true rfl) (Nat.le_of_ble_eq_true rfl) (fun xx9 h => h.elim) ?_
  rintro _ _ ⟨rfl, rfl⟩
  cases e : ofKind k c with
  | true =>
    refine M.getOwn (at_ 2 rfl) (at_ 3 rfl) gaR.1 rfl rfl ?_
    exact q1 _ _ _ ⟨e, rfl, perm [2, 3, 0, 1] 4 rfl⟩
  | false =>
    exact M.tel (refuse_ref (r := r) (dr := dr) (rest := (a, instObj c da) :: (da, od) :: rest)) (perm [2, 3, 0, 1] 4 rfl) (Nat.le_of_ble_eq_true rfl) (Nat.le_of_ble_eq_true rfl) (fun xx9 q => z _ ⟨e, by rw [q]; exact fun xx9 h => h⟩) fun xx9 xx9 q => q.elim
theorem viv_old {x dx rn : Nat} {d : TD} {v : Value} {post : Value → Led → Prop} {exc : Led → Prop} (hv : handedIn v = true) (hn : (v == .none) = false) (C : Tel prog w 378 [v, .str k tk] 25 120 ((x, instObj 66 dx) :: (dx, scD d v) :: rest) post exc) :
    Tel prog w 420 [.ref rn, .ref x, .str k tk] 30 150 ((x, instObj 66 dx) :: (dx, scD d v) :: rest) post exc := by
  k_dflt (refine' Tel.ofM (dn := 29) (un' := 147) ?k6 ?k7 ?k9 ?kB ?c2 ?c3 ?c4 ?c5 ?_; (case k6 => k_is); (case k7 => k_is); (case k9 => exact fun s X => BindsTo.of_eq rfl); (case kB => exact locs rfl); (case c5 => decide); (case c2 => exact rfl); (case c3 => exact rfl); (case c4 => exact rfl))
  intro Q Z q1 _ z Γ
  refine M.tel (value_at (at_ 0 rfl) (at_ 1 rfl) hv) (fun xx9 h => h) (Nat.le_of_ble_eq_true rfl) (Nat.le_of_ble_eq_true rfl) (fun xx9 h => h.elim) ?_
  rintro v _ ⟨rfl, rfl⟩
  refine M.isN false hn ?_
  exact M.tel C (fun xx9 h => h) (Nat.le_of_ble_eq_true rfl) (Nat.le_of_ble_eq_true rfl) z fun v' G' q => q1 v' _ G' q
theorem viv_str {x dx rn : Nat} {d : TD} {y : Str} {ty : Tok} (hy : y.length ≤ 10) :
  Tel prog w 420 [.ref rn, .ref x, .str k tk] 30 150 ((x, instObj 66 dx) :: (dx, scD d (.str y ty)) :: rest) (fun xx9 xx9 => False) (fun news' => Has ((x, instObj 66 dx) :: (dx, scD d (.str y ty)) :: rest) news') :=
  viv_old rfl rfl (Tel.get (deref_str hy) (fun xx9 h => h) (Nat.le_refl _) (Nat.le_refl _) (fun xx9 xx9 h => h) fun xx9 q => by rw [q]; exact fun xx9 h => h)
theorem viv_int {x dx rn : Nat} {d : TD} {i : Int} {ty : Tok} (h0 : 0 ≤ i) (h1 : i < 1000) :
  Tel prog w 420 [.ref rn, .ref x, .str k tk] 30 150 ((x, instObj 66 dx) :: (dx, scD d (.int i ty)) :: rest) (fun xx9 xx9 => False) (fun news' => Has ((x, instObj 66 dx) :: (dx, scD d (.int i ty)) :: rest) news') :=
  viv_old rfl rfl (Tel.get (deref_int h0 h1) (fun xx9 h => h) (Nat.le_refl _) (Nat.le_refl _) (fun xx9 xx9 h => h) fun xx9 q => by rw [q]; exact fun xx9 h => h)
theorem viv_ref {x dx rn r dr a c da : Nat} {d : TD} {rd : RD} {od : Obj} (hc : c = 66 ∨ c = 85 ∨ c = 104) :
  Tel prog w 420 [.ref rn, .ref x, .str k tk] 30 150 ((x, instObj 66 dx) :: (dx, scD d (.ref r)) :: (r, instObj 162 dr) :: (dr, refD rd a) :: (a, instObj c da) :: (da, od) :: rest)
    (fun v news' => ofKind k c = true ∧ v = .ref a ∧ Has ((x, instObj 66 dx) :: (dx, scD d (.ref r)) :: (r, instObj 162 dr) :: (dr, refD rd a) :: (a, instObj c da) :: (da, od) :: rest) news')
    (fun news' => ofKind k c = false ∧ Has ((x, instObj 66 dx) :: (dx, scD d (.ref r)) :: (r, instObj 162 dr) :: (dr, refD rd a) :: (a, instObj c da) :: (da, od) :: rest) news') :=
  viv_old rfl rfl (Tel.get (deref_ref (rest := (x, instObj 66 dx) :: (dx, scD d (.ref r)) :: rest) hc) (perm [2, 3, 4, 5, 0, 1] 6 rfl) (Nat.le_refl _) (Nat.le_refl _) (fun xx9 xx9 q => ⟨q.1, q.2.1, Has.trans (perm [4, 5, 0, 1, 2, 3] 6 rfl) q.2.2⟩) fun xx9 q => ⟨q.1, Has.trans (perm [4, 5, 0, 1, 2, 3] 6 rfl) q.2⟩)
end
end
section
theorem dx_A {prog : Program} {w : World} {rn : Nat} {v : Value} {GL : Led} {post : Value → Led → Prop} {ex : Led → Prop} (C : ∀ tk, Tel prog w 378 [v, .str "A" tk] 25 120 GL post ex) : Tel prog w 385 [.ref rn, v] 30 150 GL post ex := by
  k_dflt (refine' Tel.ofM (dn := 29) (un' := 147) ?k6 ?k7 ?k9 ?kB ?c2 ?c3 ?c4 ?c5 ?_; (case k6 => k_is); (case k7 => k_is); (case k9 => exact fun s X => BindsTo.of_eq rfl); (case kB => exact locs rfl); (case c5 => decide); (case c2 => exact rfl); (case c3 => exact rfl); (case c4 => exact rfl))
  intro Q Z q1 _ z Γ tk
  exact M.tel (C tk) (fun xx9 h => h) (Nat.le_of_ble_eq_true rfl) (Nat.le_of_ble_eq_true rfl) z fun v' G' q => q1 v' _ G' q
theorem dx_H {prog : Program} {w : World} {rn : Nat} {v : Value} {GL : Led} {post : Value → Led → Prop} {ex : Led → Prop} (C : ∀ tk, Tel prog w 378 [v, .str "H" tk] 25 120 GL post ex) : Tel prog w 392 [.ref rn, v] 30 150 GL post ex := by
  k_dflt (refine' Tel.ofM (dn := 29) (un' := 147) ?k6 ?k7 ?k9 ?kB ?c2 ?c3 ?c4 ?c5 ?_; (case k6 => k_is); (case k7 => k_is); (case k9 => exact fun s X => BindsTo.of_eq rfl); (case kB => exact locs rfl); (case c5 => decide); (case c2 => exact rfl); (case c3 => exact rfl); (case c4 => exact rfl))
  intro Q Z q1 _ z Γ tk
  exact M.tel (C tk) (fun xx9 h => h) (Nat.le_of_ble_eq_true rfl) (Nat.le_of_ble_eq_true rfl) z fun v' G' q => q1 v' _ G' q
theorem dx_S {prog : Program} {w : World} {rn : Nat} {v : Value} {GL : Led} {post : Value → Led → Prop} {ex : Led → Prop} (C : ∀ tk, Tel prog w 378 [v, .str "S" tk] 25 120 GL post ex) : Tel prog w 399 [.ref rn, v] 30 150 GL post ex := by
  k_dflt (refine' Tel.ofM (dn := 29) (un' := 147) ?k6 ?k7 ?k9 ?kB ?c2 ?c3 ?c4 ?c5 ?_; (case k6 => k_is); (case k7 => k_is); (case k9 => exact fun s X => BindsTo.of_eq rfl); (case kB => exact locs rfl); (case c5 => decide); (case c2 => exact rfl); (case c3 => exact rfl); (case c4 => exact rfl))
  intro Q Z q1 _ z Γ tk
  exact M.tel (C tk) (fun xx9 h => h) (Nat.le_of_ble_eq_true rfl) (Nat.le_of_ble_eq_true rfl) z fun v' G' q => q1 v' _ G' q
theorem dx_C {prog : Program} {w : World} {rn : Nat} {v : Value} {GL : Led} {post : Value → Led → Prop} {ex : Led → Prop} (C : ∀ tk, Tel prog w 378 [v, .str "C" tk] 25 120 GL post ex) : Tel prog w 406 [.ref rn, v] 30 150 GL post ex := by
  k_dflt (refine' Tel.ofM (dn := 29) (un' := 147) ?k6 ?k7 ?k9 ?kB ?c2 ?c3 ?c4 ?c5 ?_; (case k6 => k_is); (case k7 => k_is); (case k9 => exact fun s X => BindsTo.of_eq rfl); (case kB => exact locs rfl); (case c5 => decide); (case c2 => exact rfl); (case c3 => exact rfl); (case c4 => exact rfl))
  intro Q Z q1 _ z Γ tk
  exact M.tel (C tk) (fun xx9 h => h) (Nat.le_of_ble_eq_true rfl) (Nat.le_of_ble_eq_true rfl) z fun v' G' q => q1 v' _ G' q
end
section
section
variable {g g' h : Heap} {L L' : Addr} {m : Str → Option Value} {l : Led} {oL : Obj}
theorem hid_F (T : KtsTurn [L] g g') (F : Fr g' L' h m) : Fr (hideAll g [L]) L' h m :=
  ⟨F.ns, fun b o e => F.keep b o (T.other b o (of_hideAll _ e) fun hm => by
    rw [List.mem_singleton.mp hm, hideAll_none [L] (.head _)] at e; cases e), by rw [hideAll_size, ← T.size]; exact F.above⟩
theorem hid_N (hL : g.get? L = some oL) (T : KtsTurn [L] g g') (F : Fr g' L' h m) (N : News g' L' h l) :
    (∃ sl, News (hideAll g [L]) L' h ((L, { oL with slots := sl }) :: l)) ∧ ∀ p ∈ l, p.1 ≠ L := by
  obtain ⟨sl, hs⟩ := T.frame _ _ hL (.head _)
  refine ⟨⟨sl, fun p hp => ?_⟩, fun p hp e => ?_⟩
  · rcases List.mem_cons.mp hp with rfl | hp
    · refine ⟨F.keep _ _ hs, fun e => ?_, hideAll_none _ (.head _)⟩
      have := kts_self F
      rw [← e, hs] at this; cases this
    · refine ⟨(N p hp).1, (N p hp).2.1, ?_⟩
      cases q : (hideAll g [L]).get? p.1 with
      | none => rfl
      | some o =>
        obtain ⟨s1, h1⟩ := T.up (of_hideAll _ q)
        rw [(N p hp).2.2] at h1; cases h1
  · have := (N p hp).2.2
    rw [e, hs] at this; cases this
theorem unhid (hL : g.get? L = some oL) (F : Fr (hideAll g [L]) L' h m) {sl : Array (Option Value)} (N : News (hideAll g [L]) L' h ((L, { oL with slots := sl }) :: l)) (hne : ∀ p ∈ l, p.1 ≠ L) :
    ∃ g', KtsTurn [L] g g' ∧ Fr g' L' h m ∧ News g' L' h l := by
  have hh := (N _ (.head _)).1
  obtain ⟨T, S⟩ := kts_turn_at (h := h) (fs := [L]) (g := g)
    (fun b hb => by rw [List.mem_singleton.mp hb]; exact ⟨_, hL⟩)
    (fun b o e nm => F.keep b o (hideAll_get _ e nm))
    (fun b o e hm => by
      rw [List.mem_singleton.mp hm, hL] at e; cases e
      exact ⟨sl, by rw [List.mem_singleton.mp hm]; exact hh⟩)
  refine ⟨_, T, ⟨F.ns, S, by rw [T.size, ← hideAll_size [L] g]; exact F.above⟩, fun p hp => ⟨(N p (.tail _ hp)).1, (N p (.tail _ hp)).2.1, T.none_ _ ?_⟩⟩
  cases q : g.get? p.1 with
  | none => rfl
  | some o =>
    have := (N p (.tail _ hp)).2.2
    rw [hideAll_get _ q fun hm => hne p hp (List.mem_singleton.mp hm)] at this; cases this
theorem below_turn {A₀ : Around} {base : Heap} {outer : List Env} (K : Below A₀ base outer g) (T : KtsTurn (outer.filterMap (·.frame)) g g') : Below A₀ base outer g' :=
  ⟨K.stack, fun b o e => T.other b o (K.stays b o e) (fun hm => by
    rw [(K.frames.mem hm).1] at e
    cases e), K.frames.of_keeps fun b o e xx9 => by
      obtain ⟨sl, hs⟩ := T.up e
      exact ⟨_, hs, rfl⟩⟩
end
end
section
namespace M
variable {Γ : Cx} {K : List Fm} {ml : Ml} {G : Led}
noncomputable abbrev CTurn (Γ : Cx) (ml : Ml) (elt : PySem.Expr) (x : Str) (scope : Scope) (cl : List (Str × Addr)) (P : Nat → Value → Prop) (inv : Nat → List Value → Led → Prop) : Prop :=
  ∀ i ys G1 v I oI C oC D m2, P i v → inv i ys G1 → LCg.NsObj oC m2 → m2 x = some v → LCg.Off3 I C D G1 → ∀ Q2 : Flow → (Str → Option Value) → Led → Prop,
    (∀ y news' G2, Has ((I, oI) :: (C, oC) :: (D, LCg.lst ys) :: news') G2 → LCg.Off3 I C D news' → inv (i + 1) (ys ++ [y]) news' → Q2 (.ret y) (look ml) G2) → Cx.N (Γ.inC scope cl C Q2) 90 (.ev elt) [.ret] ml ((I, oI) :: (C, oC) :: (D, LCg.lst ys) :: G1)
theorem comp_turn {elt : PySem.Expr} {x : Str} {scope : Scope} {cl : List (Str × Addr)} {P : Nat → Value → Prop} {S : Led → Prop} {inv : Nat → List Value → Led → Prop} (turn : CTurn Γ ml elt x scope cl P inv) (hS : ∀ i ys n, inv i ys n → S n) (ht : Γ.φ.tr = Option.none)
    {p : Program} {loose : List Str} {mean : ExcName → Option Value} {mg mb : Str → Option Value} {dp un : Nat} {gd : Option (List Code)} {outer : List Env} {A₀ : Around} {base h₀ : Heap} {L : Addr} {s : Shared} {n : Nat}
    (B : Below A₀ base outer h₀) (X : (hp0.heap_1_39 Γ.w.params).In h₀) (T : Top p loose mean mg mb h₀) (hd1 : dp + Γ.dn < recursionLimit) (hu : un + Γ.un < cLine ∧ Γ.φ.at L outer base h₀) :
    ∀ i ys news v I oI C oC D m₂ h tk (E' : Value → Shared → Prop), i < n → inv i ys news → S news → P i v → LCg.NsObj oC m₂ → m₂ x = some v → Fr h₀ L h (look ml) → News h₀ L h ((I, oI) :: (C, oC) :: (D, LCg.lst ys) :: news) → LCg.Off3 I C D news → ((@Ne Nat I C) ∧ (@Ne Nat I D) ∧ (@Ne Nat C D)) →
      wpAny (model Γ.prog Γ.w) (ktrTop dp un gd Γ.φ.q Γ.φ.sc L Γ.φ.fa Γ.φ.cd Γ.φ.cl outer) (eval elt (compEnvC scope cl C (Γ.φ.env L))) (LCg.CompEnd h₀ L (look ml) { s with heap := h, toks := tk } I oI C oC D (LCg.lst ys) S (fun y news' => inv (i + 1) (ys ++ [y]) news')) E' { s with heap := h, toks := tk } := by
  intro i ys news v I oI C oC D m2 h tk E2 hlt hi hs1 hv hC hx F2 N2 off ne
  have H := Cx.N_ok (turn i ys news v I oI C oC D m2 hv hi hC hx off (fun fl m1 G2 => m1 = look ml ∧ ∃ y news', fl = .ret y ∧ Has ((I, oI) :: (C, oC) :: (D, LCg.lst ys) :: news') G2 ∧ LCg.Off3 I C D news' ∧ inv (i + 1) (ys ++ [y]) news') fun y news' G2 a b c => ⟨rfl, y, news', rfl, a, b, c⟩)
  rw [(Cx.ok ht).e]
  refine wpAny_mono (H p loose mean mg mb dp un gd outer A₀ base h₀ L { s with heap := h, toks := tk } _ (fun xx9 xx9 => False) B F2 X N2 T hd1 ⟨hu.1, PassesOwn.never, .inr RaisesTo.no, hu.2⟩ (fun y m1 G2 h1 t1 F1 N1 q => ?_) fun xx9 xx9 xx9 xx9 xx9 xx9 xx9 xx9 xx9 q => q.elim) (fun xx9 xx9 q => q) fun xx9 xx9 q => q.elim
  obtain ⟨rfl, y2, news', e, a, b, c⟩ := q
  cases e
  exact ⟨h1, t1, news', rfl, F1, News.has N1 a, b, hS _ _ _ c, c⟩
theorem compL {elt iter : PySem.Expr} {x : Str} {px pos : Pos} {scope : Scope} {cl : List (Str × Addr)} {ax k : Nat} {its : Array Value} (hclos : ∀ L, closureFor scope (Γ.φ.env L) = pure cl) (hcell : ∀ y ∈ scope.names, y.2 ≠ .cell) (hkind : scope.kind = .function)
    (hnames : ∀ y ∈ scope.names, y.2 = .local → scope.names.lookup y.1 = some .local) (hx : scope.names.lookup x = some .local) (hf : ∀ L y, foldedSetIterable iter (Γ.φ.env L) y = pure y)
    (he : ∀ Q2 : Flow → (Str → Option Value) → Led → Prop, Q2 (.ret (.ref ax)) (look ml) G → Cx.N (Γ.wQ Q2) 90 (.ev iter) [.ret] ml G) (hm : (ax, listOf its k) ∈ G) (hsz : its.size ≤ 1000)
    (inv : Nat → List Value → Led → Prop) (h0 : inv 0 [] G) (hS : ∀ i ys n, inv i ys n → (ax, listOf its k) ∈ n) (turn : CTurn Γ ml elt x scope cl (fun i v => its[i]? = some v) inv)
    (done : ∀ D ys G1, inv its.size ys G1 → LCg.Off1 D G1 → Γ.N 90 (.sg (.v (.ref D))) K ml ((D, LCg.lst ys) :: G1)) (ht : Γ.φ.tr = Option.none := by rfl) : Γ.W (.ev (.ListComp elt [⟨.Name x px, iter, [], 0⟩] scope pos)) K ml G := by
  have H := Cx.N_ok (he (fun fl m1 G1 => fl = .ret (.ref ax) ∧ m1 = look ml ∧ G1 = G) ⟨rfl, rfl, rfl⟩)
  intro p loose mean mg mb dp un gd outer A₀ base h₀ L s Q' E' B F X N T hd2 hu ret exc
  refine LCg.ListComp_U (env := Γ.φ.env L) F (hclos L) hcell hkind hnames hx ?_ (hf L)
  refine H p loose mean mg mb dp un gd outer A₀ base h₀ L s _ E' B F X N T hd2 hu (fun v1 m1 G1 h1 t1 F1 N1 q => ?_) exc
  obtain ⟨e1, rfl, rfl⟩ := q
  cases e1
  refine LCg.CompSrc.ledger rfl F1 N1 hm (Nat.le_trans hsz (by decide)) fun g9 => ?_
  refine comp_ind (n := its.size) inv (fun ys news hs1 hi => ?_) (comp_turn turn (fun i ys n q => .inr ⟨_, hS i ys n q, rfl, _, rfl⟩) ht B X T hd2 ⟨hu.1, hu.2.2.2⟩) _ 0 [] _ (Nat.zero_add _) (.inr ⟨_, hm, rfl, _, rfl⟩) h0
  unfold LCg.FinE
  intro D h tk F2 N2 o1
  exact ret _ _ _ _ _ F2 N2 (Cx.N_ok (done D ys news hi o1))
theorem compD {elt iter : PySem.Expr} {x : Str} {px pos : Pos} {scope : Scope} {cl : List (Str × Addr)} {d : Nat} {o : Obj} {kvs : List (Str × Value)} (hclos : ∀ L, closureFor scope (Γ.φ.env L) = pure cl) (hcell : ∀ y ∈ scope.names, y.2 ≠ .cell) (hkind : scope.kind = .function)
    (hnames : ∀ y ∈ scope.names, y.2 = .local → scope.names.lookup y.1 = some .local) (hx : scope.names.lookup x = some .local) (hf : ∀ L y, foldedSetIterable iter (Γ.φ.env L) y = pure y)
    (he : ∀ Q2 : Flow → (Str → Option Value) → Led → Prop, Q2 (.ret (.ref d)) (look ml) G → Cx.N (Γ.wQ Q2) 90 (.ev iter) [.ret] ml G) (hm : (d, o) ∈ G) (hdo : o.IsDictOf (strKind Γ.prog Γ.w) kvs) (hl : 1 < d) (hsz : kvs.length ≤ 1000)
    (inv : Nat → List Value → Led → Prop) (h0 : inv 0 [] G) (hS : ∀ i ys n, inv i ys n → (d, o) ∈ n) (turn : CTurn Γ ml elt x scope cl (fun i v => ∃ k y, kvs[i]? = some (k, y) ∧ (strKind Γ.prog Γ.w).is k v = true) inv)
    (done : ∀ D ys G1, inv kvs.length ys G1 → LCg.Off1 D G1 → Γ.N 90 (.sg (.v (.ref D))) K ml ((D, LCg.lst ys) :: G1)) (ht : Γ.φ.tr = Option.none := by rfl) : Γ.W (.ev (.ListComp elt [⟨.Name x px, iter, [], 0⟩] scope pos)) K ml G := by
  have H := Cx.N_ok (he (fun fl m1 G1 => fl = .ret (.ref d) ∧ m1 = look ml ∧ G1 = G) ⟨rfl, rfl, rfl⟩)
  intro p loose mean mg mb dp un gd outer A₀ base h₀ L s Q' E' B F X N T hd2 hu ret exc
  refine ListComp_D (env := Γ.φ.env L) F (hclos L) hcell hkind hnames hx ?_ (hf L)
  refine H p loose mean mg mb dp un gd outer A₀ base h₀ L s _ E' B F X N T hd2 hu (fun v1 m1 G1 h1 t1 F1 N1 q => ?_) exc
  obtain ⟨e1, rfl, rfl⟩ := q
  cases e1
  refine ⟨d, o, kvs, _, rfl, rfl, F1, N1, hm, hdo, beq_eq_false_iff_ne.mpr (Nat.ne_of_gt hl), Nat.le_trans hsz (by decide), ?_⟩
  rintro s₂ ⟨h9, rfl⟩
  refine comp_ind (n := kvs.length) inv (fun ys news hs1 hi => ?_) (comp_turn turn hS ht B X T hd2 ⟨hu.1, hu.2.2.2⟩) _ 0 [] _ (Nat.zero_add _) hm h0
  unfold LCg.FinE
  intro D h tk F2 N2 o1
  exact ret _ _ _ _ _ F2 N2 (Cx.N_ok (done D ys news hi o1))
section
variable {sc : Scope} {cl : List (Str × Addr)} {C : Addr}
theorem xLoc {x : Str} {pos : Pos} {oC : Obj} {m2 : Str → Option Value} {v : Value} (ht : Γ.φ.tr = some (sc, cl, C)) (hk : (Γ.φ.env 0).kindOf x = some .local) (hf : (Γ.φ.env 0).scope.kind = .function) (hm : (C, oC) ∈ G) (hC : LCg.NsObj oC m2) (hx : m2 x = some v) (hb : (x == ("__debug__" : Str)) = false) (h : Γ.N 90 (.sg (.v v)) K ml G) : Γ.W (.ev (.Name x pos)) K ml G := by
  intro p loose mean mg mb dp un gd outer A₀ base h₀ L s Q' E' B F X N T hd2 hu ret exc
  have e : ∀ L, Γ.φ.env L = compEnvC sc cl C (Γ.φ.env0 L) := fun L => by unfold Fn.env; rw [ht]
  rw [e] at hk hf ⊢
  exact wpAny_Name (wpAny_loadName_local hf hk (hC.ns (N _ hm).1) hx (ret v _ G s.heap s.toks F N (Cx.N_ok h))) hb
theorem xCell {x : Str} {pos : Pos} {c : Addr} {o : Obj} {v : Value} (ht : Γ.φ.tr = some (sc, cl, C)) (hk : (Γ.φ.env 0).kindOf x = some .cell) (hf : (Γ.φ.env 0).scope.kind = .function) (hc : cl.lookup x = some c) (hm : (c, o) ∈ G) (hd : o.data = .cell (some v)) (hb : (x == ("__debug__" : Str)) = false) (h : Γ.N 90 (.sg (.v v)) K ml G) : Γ.W (.ev (.Name x pos)) K ml G := by
  intro p loose mean mg mb dp un gd outer A₀ base h₀ L s Q' E' B F X N T hd2 hu ret exc
  have e : ∀ L, Γ.φ.env L = compEnvC sc cl C (Γ.φ.env0 L) := fun L => by unfold Fn.env; rw [ht]
  rw [e] at hk hf ⊢
  exact wpAny_Name (wpAny_loadName_cell hf hk hc ⟨o, N.get hm, hd⟩ (ret v _ G s.heap s.toks F N (Cx.N_ok h))) hb
theorem xCall {x : Str} {p pos : Pos} {v : Value} {e : PySem.Expr} {r : List PySem.Expr} (ht : Γ.φ.tr = some (sc, cl, C)) (hk : (Γ.φ.env 0).kindOf x = some .globalImplicit) (hf : (Γ.φ.env 0).scope.kind = .function) (hv : gtab.lookup x = some v) (hs : noStar (e :: r) = true) (hb : (x == ("__debug__" : Str)) = false) (h : Γ.N 90 (.ar pos (.cal v) [] (e :: r)) K ml G) : Γ.W (.ev (.Call (.Name x p) (e :: r) [] pos)) K ml G := by
  have g := (gtab_ok Γ.w).at hv
  refine R.call (?_ : R.We _ _ _ _ _ (.Name x p) _ _ _ _) fun xx9 => rfl
  have k := R.callw (prog := Γ.prog) (φ := Γ.φ) (dn := Γ.dn) (un' := Γ.un) (first := []) (pos := pos) (Z := Γ.Z) (Q := fun v => Γ.run K (.v v)) g.2 (Cx.N_ok h) (fun L => star_he hs) fun L => star_any (star_tl hs)
  intro p loose mean mg mb dp un gd outer A₀ base h₀ L s Q' E' B F X N T hd2 hu ret exc
  have e : ∀ L, Γ.φ.env L = compEnvC sc cl C (Γ.φ.env0 L) := fun L => by unfold Fn.env; rw [ht]
  rw [e] at hk hf ⊢
  exact Name_function_global hf hk (loadGlobal_global (env := compEnvC sc cl C (Γ.φ.env0 L)) ((topRead_of T).g.keeps F.keep) (mg_of X (topRead_of T).g g.1) (ret v _ G s.heap s.toks F N k)) hb
end
end M
end
section
set_option maxHeartbeats 400000
noncomputable abbrev Off (a b : Led) : Prop := ∀ p ∈ a, ∀ q ∈ b, @Ne Nat p.1 q.1
noncomputable abbrev TP (GL : Led) (d : Dat) (v : Value) (n : Led) : Prop := ∃ new, Has (new ++ GL) n ∧ Off new GL ∧ DatIn new v d
noncomputable abbrev RT (prog : Program) (w : World) (f : Addr) (k : Nat) (v : Value) (d : Dat) (GL : Led) : Prop := Tel prog w f [v] (20 * k + 20) (100 * k + 60) GL (TP GL d) (fun xx9 => False)
noncomputable def RInv (G0 : Led) (ds : List Dat) (i : Nat) (ys : List Value) (news : Led) : Prop := ∃ new, news = new ++ G0 ∧ Off new G0 ∧ DatAll new ys (ds.take i)
theorem RInv.zero {G0 : Led} {ds : List Dat} : RInv G0 ds 0 [] G0 := ⟨[], rfl, (fun xx9 h => nomatch h), .nil⟩
theorem off_app {a b c : Led} (h : Off a c) (k : Off b c) : Off (a ++ b) c := fun p hp => (List.mem_append.mp hp).elim (h p) (k p)
theorem has_app {a b c : Led} (h : Has a c) (k : Has b c) : Has (a ++ b) c := fun p hp => (List.mem_append.mp hp).elim (h p) (k p)
theorem RInv.step {G0 : Led} {ds : List Dat} {i : Nat} {ys : List Value} {news add : Led} {y : Value} {d : Dat} (h : RInv G0 ds i ys news) (ho : Off add news) (hd : DatIn add y d) (hi : ds[i]? = some d) : RInv G0 ds (i + 1) (ys ++ [y]) (add ++ news) := by
  obtain ⟨new, rfl, ho2, hD⟩ := h
  refine ⟨add ++ new, (List.append_assoc _ _ _).symm, off_app (fun p hp q hq => ho p hp q (List.mem_append_right _ hq)) ho2, ?_⟩
  rw [List.take_succ, hi]
  exact (hD.mono fun p hp => List.mem_append_right _ hp).append (.one (hd.mono fun p hp => List.mem_append_left _ hp))
theorem RInv.up {G0 : Led} {ds : List Dat} {i : Nat} {ys : List Value} {news : Led} (h : RInv G0 ds i ys news) : Has G0 news := by
  obtain ⟨new, rfl, -, -⟩ := h
  exact fun p hp => List.mem_append_right _ hp
section
variable {h₀ h' : Heap} {L I C D : Addr} {m : Str → Option Value} {s : Shared} {tk : Nat} {oI oC : Obj} {ys : List Value} {S : Led → Prop} {G0 news n' GX extra new2 : Led} {ds : List Dat} {i : Nat} {y : Value} {d : Dat}
theorem off3_add {add : Led} (h : LCg.Off3 I C D news) (k : ∀ p ∈ add, p.1 ≠ I ∧ p.1 ≠ C ∧ p.1 ≠ D) : LCg.Off3 I C D (add ++ news) := .of fun p hp => (List.mem_append.mp hp).elim (k p) (h.mem p)
theorem comp_plain (F : Fr h₀ L h' m) (N : News h₀ L h' n') (hN : Has ((I, oI) :: (C, oC) :: (D, LCg.lst ys) :: news) n') (off : LCg.Off3 I C D news) (hS : S news) (hr : RInv G0 ds i ys news) (hd : DatIn [] y d) (hi : ds[i]? = some d) :
    LCg.CompEnd h₀ L m s I oI C oC D (LCg.lst ys) S (fun y news' => RInv G0 ds (i + 1) (ys ++ [y]) news') y { s with heap := h', toks := tk } :=
  ⟨h', tk, news, rfl, F, News.has N hN, off, hS, by have := hr.step (add := []) (fun xx9 h => nomatch h) hd hi; simpa using this⟩
theorem comp_leaf (F : Fr h₀ L h' m) (N : News h₀ L h' (extra ++ n')) (hX : Has (new2 ++ GX) n') (hN : Has ((I, oI) :: (C, oC) :: (D, LCg.lst ys) :: news) GX) (ho2 : Off new2 GX) (ab : Off extra n') (off : LCg.Off3 I C D news) (hS : S news) (up : ∀ add, S news → S (add ++ news)) (hr : RInv G0 ds i ys news) (hd : DatIn (extra ++ new2) y d) (hi : ds[i]? = some d) :
    LCg.CompEnd h₀ L m s I oI C oC D (LCg.lst ys) S (fun y news' => RInv G0 ds (i + 1) (ys ++ [y]) news') y { s with heap := h', toks := tk } := by
  have hXn : Has GX n' := fun p hp => hX p (List.mem_append_right _ hp)
  have hoff : Off (extra ++ new2) ((I, oI) :: (C, oC) :: (D, LCg.lst ys) :: news) := off_app (fun p hp q hq => ab p hp q (hXn q (hN q hq))) (fun p hp q hq => ho2 p hp q (hN q hq))
  refine ⟨h', tk, (extra ++ new2) ++ news, rfl, F, News.has N ?_, off3_add off fun p hp => ⟨hoff p hp (I, oI) (.head _), hoff p hp (C, oC) (.tail _ (.head _)), hoff p hp (D, LCg.lst ys) (.tail _ (.tail _ (.head _)))⟩, up _ hS, hr.step (fun p hp q hq => hoff p hp q (.tail _ (.tail _ (.tail _ hq)))) hd hi⟩
  have hA : Has ((I, oI) :: (C, oC) :: (D, LCg.lst ys) :: news) (extra ++ n') := fun p hp => List.mem_append_right _ (hXn p (hN p hp))
  exact has_cons (hA _ (.head _)) (has_cons (hA _ (.tail _ (.head _))) (has_cons (hA _ (.tail _ (.tail _ (.head _)))) (has_app (has_app (fun p hp => List.mem_append_left _ hp) fun p hp => List.mem_append_right _ (hX p (List.mem_append_left _ hp))) fun p hp => hA p (.tail _ (.tail _ (.tail _ hp))))))
end
theorem off1_mem {D : Addr} : ∀ {l : Led}, LCg.Off1 D l → ∀ p ∈ l, @Ne Nat p.1 D := by
  intro l
  induction l with
  | nil => intro _ p hp; exact absurd hp (List.not_mem_nil)
  | cons q r ih =>
    intro h p hp
    rcases List.mem_cons.mp hp with rfl | hp
    · exact h.1
    · exact ih h.2 p hp
theorem tp_end {G0 GL new n : Led} {T D : Addr} {tg : Str} {tk : Tok} {nT : Nat} {ys : List Value} {ds : List Dat} (hT : (T, ({ cls := .type "tuple", data := .seq #[.str tg tk, .ref D] nT } : Obj)) ∈ n) (hN : Has ((D, LCg.lst ys) :: (new ++ G0)) n) (ab : Above T ((D, LCg.lst ys) :: (new ++ G0))) (o1 : LCg.Off1 D (new ++ G0)) (ho : Off new G0) (hG : Has GL G0) (hD : DatAll new ys ds) :
    TP GL (.tuple [.str tg, .list ds]) (.ref T) n := by
  refine ⟨(T, { cls := .type "tuple", data := .seq #[.str tg tk, .ref D] nT }) :: (D, LCg.lst ys) :: new, ?_, ?_, ?_⟩
  · exact has_cons hT (has_cons (hN _ (.head _)) (has_app (fun p hp => hN _ (.tail _ (List.mem_append_left _ hp))) fun p hp => hN _ (.tail _ (List.mem_append_right _ (hG p hp)))))
  · intro p hp q hq
    have hq2 := hG q hq
    rcases List.mem_cons.mp hp with rfl | hp
    · exact Ne.symm (Nat.ne_of_lt (ab q (.tail _ (List.mem_append_right _ hq2))))
    · rcases List.mem_cons.mp hp with rfl | hp
      · exact Ne.symm (off1_mem o1 q (List.mem_append_right _ hq2))
      · exact ho p hp q hq2
  · exact .tuple (.head _) (.cons (.str _ _) (.one (.list (n := ys.length) (.tail _ (.head _)) (hD.mono fun p hp => .tail _ (.tail _ hp)))))
theorem off_one {x : Nat} {o : Obj} {n : Led} (h : Above x n) : Off [(x, o)] n := fun p hp q hq => by rw [List.mem_singleton.mp hp]; exact Ne.symm (Nat.ne_of_lt (h q hq))
theorem src_up {g : Heap} {l : Addr} {vs : Array Value} {news : Led} (add : Led) (h : LCg.SrcAt g l vs news) : LCg.SrcAt g l vs (add ++ news) := h.imp id fun ⟨o, h1, h2⟩ => ⟨o, List.mem_append_right _ h1, h2⟩
theorem has_dat {D : Nat} {n : Nat} {new : Led} {r : Value} {d : Dat} (h : DatIn new r d) : DatIn ([(D, listOf #[r] n)] ++ new) (.ref D) (.list [d]) := .list (vs := [r]) (.head _) (.one (h.mono fun p hp => List.mem_append_right _ hp))
theorem ts_end {G0 GL new n' : Led} {T D nT nD : Nat} {tg : Str} {tk : Tok} {r : Value} {d : Dat} (hn : Has (new ++ G0) n') (ho : Off new G0) (hG : Has GL G0) (hd : DatIn new r d) (a1 : Above D n') (a2 : D < T) (a3 : Above T n') :
    TP GL (.tuple [.str tg, .list [d]]) (.ref T) ((T, ({ cls := .type "tuple", data := .seq #[.str tg tk, .ref D] nT } : Obj)) :: (D, listOf #[r] nD) :: n') := by
  have hGn : Has GL n' := fun p hp => hn p (List.mem_append_right _ (hG p hp))
  refine ⟨(T, ({ cls := .type "tuple", data := .seq #[.str tg tk, .ref D] nT } : Obj)) :: (D, listOf #[r] nD) :: new, ?_, ?_, ?_⟩
  · exact has_cons (.head _) (has_cons (.tail _ (.head _)) (has_app (fun p hp => .tail _ (.tail _ (hn p (List.mem_append_left _ hp)))) fun p hp => .tail _ (.tail _ (hGn p hp))))
  · intro p hp q hq
    rcases List.mem_cons.mp hp with rfl | hp
    · exact Ne.symm (Nat.ne_of_lt (a3 q (hGn q hq)))
    · rcases List.mem_cons.mp hp with rfl | hp
      · exact Ne.symm (Nat.ne_of_lt (a1 q (hGn q hq)))
      · exact ho p hp q (hG q hq)
  · exact .tuple (.head _) (.cons (.str _ _) (.one (.list (vs := [r]) (.tail _ (.head _)) (.one (hd.mono fun p hp => .tail _ (.tail _ hp))))))
theorem tp_leaf {GL n : Led} {v : Value} {d : Dat} (h : Has GL n) (hd : DatIn [] v d) : TP GL d v n := ⟨[], h, (fun xx9 h => nomatch h), hd⟩
theorem is_str {prog : Program} {w : World} {k : Str} {v : Value} (h : (PySem.strKind prog w).is k v = true) : ∃ t, v = .str k t := by
  cases v <;> first | exact ⟨_, by rw [show k = _ from eq_of_beq h]⟩ | exact ⟨_, by rw [eq_of_beq h]⟩ | exact Bool.noConfusion h
theorem off_two {x y : Nat} {o p : Obj} {n : Led} (h : Above x n) (h2 : Above y n) : Off [(y, p), (x, o)] n := fun q hq r hr => by
  rcases List.mem_cons.mp hq with rfl | hq
  · exact Ne.symm (Nat.ne_of_lt (h2 r hr))
  · rw [List.mem_singleton.mp hq]; exact Ne.symm (Nat.ne_of_lt (h r hr))
theorem has_dat2 {D T n nT : Nat} {tk : Tok} {key : Str} {new : Led} {r : Value} {d : Dat} (h : DatIn new r d) : DatIn ([(T, ({ cls := .type "tuple", data := .seq #[.str key tk, .ref D] nT } : Obj)), (D, listOf #[r] n)] ++ new) (.ref T) (.tuple [.str key, .list [d]]) :=
  .tuple (vs := [.str key tk, .ref D]) (.head _) (.cons (.str _ _) (.one (.list (vs := [r]) (.tail _ (.head _)) (.one (h.mono fun p hp => List.mem_append_right _ hp)))))
end
section
noncomputable def placeOf (n : Nat) (i : Int) : Int := if i < 0 then (if i + n < 0 then -1 else i + n) else i
theorem place_pos {n : Nat} {i : Int} (h : 0 ≤ i) : placeOf n i = i := if_neg (by omega)
theorem place_neg {n : Nat} {i : Int} (h : i < 0) (h' : 0 ≤ i + n) : placeOf n i = i + n := by unfold placeOf; rw [if_pos h, if_neg (by omega)]
theorem place_out {n : Nat} {i : Int} (h : i + n < 0) : placeOf n i = -1 := by unfold placeOf; rw [if_pos (by omega), if_pos h]
theorem gaA {w : World} : GA w 85 "items" ∧ GA w 85 "tied" ∧ GA w 104 "table" ∧ GA w 104 "tied" := ⟨⟨by k_is, by k_is, _, by k_is, by k_is⟩, ⟨by k_is, by k_is, _, by k_is, by k_is⟩, ⟨by k_is, by k_is, _, by k_is, by k_is⟩, ⟨by k_is, by k_is, _, by k_is, by k_is⟩⟩
section
variable {prog : Program} {w : World} {a da l e : Nat} {d : TD} {vs : Array Value} {rest G : Led}
theorem place_at {i q : Int} {ti : Tok} (h1 : (a, instObj 85 da) ∈ G) (h2 : (da, arD d l) ∈ G) (h3 : (l, listOf vs e) ∈ G) (hvs : vs.size ≤ 8) (hq : placeOf vs.size i = q) :
    Tel prog w 329 [.ref a, .int i ti] 5 30 G (fun v n => ∃ tk, v = .int q tk ∧ n = G) (fun xx9 => False) := by
  subst hq
  k_dflt (refine' Tel.ofM (dn := 4) (un' := 27) ?k6 ?k7 ?k9 ?kB ?c2 ?c3 ?c4 ?c5 ?_; (case k6 => k_is); (case k7 => k_is); (case k9 => exact fun s X => BindsTo.of_eq rfl); (case kB => exact locs rfl); (case c5 => decide); (case c2 => exact rfl); (case c3 => exact rfl); (case c4 => exact rfl))
  intro Q Z q1 _ _ Γ
  unfold placeOf at q1
  intro t1
  cases e1 : decide (i < 0) with
  | false =>
    rw [if_neg (of_decide_eq_false e1)] at q1
    refine M.lt false e1 ?_
    exact q1 _ _ _ ⟨_, rfl, rfl⟩
  | true =>
    rw [if_pos (of_decide_eq_true e1)] at q1
    refine M.lt true e1 ?_
    refine M.getOwn h1 h2 gaA.1 rfl rfl ?_
    refine M.len h3 (Nat.le_trans hvs (by decide)) fun t2 => ?_
    refine M.iadd fun t3 => ?_
    intro t4
    cases e2 : decide (i + vs.size < 0) with
    | false =>
      rw [if_neg (of_decide_eq_false e2)] at q1
      refine M.lt false e2 ?_
      exact q1 _ _ _ ⟨_, rfl, rfl⟩
    | true =>
      rw [if_pos (of_decide_eq_true e2)] at q1
      refine M.lt true e2 ?_
      intro t5
      refine M.neg fun t6 => ?_
      exact q1 _ _ _ ⟨_, rfl, rfl⟩
theorem resize_die {ct : Nat} {i : Int} {ti t8 : Tok} (h : 8 < i) : Tel prog w 343 [.ref ct, .ref a, .int i ti, .int 8 t8] 30 120 G (fun xx9 xx9 => False) (fun n => n = G) := by
  k_dflt (refine' Tel.ofM (dn := 29) (un' := 117) ?k6 ?k7 ?k9 ?kB ?c2 ?c3 ?c4 ?c5 ?_; (case k6 => k_is); (case k7 => k_is); (case k9 => exact fun s X => BindsTo.of_eq rfl); (case kB => exact locs rfl); (case c5 => decide); (case c2 => exact rfl); (case c3 => exact rfl); (case c4 => exact rfl))
  intro Q Z _ _ z Γ
  intro t1
  refine M.max fun t2 => ?_
  rw [if_neg (by omega)]
  refine M.gt true (decide_eq_true h) ?_
  refine M.glob (by k_is) rfl rfl ?_
  refine M.tel die_tel (fun xx9 h => h) (Nat.le_of_ble_eq_true rfl) (Nat.le_of_ble_eq_true rfl) (fun xx9 h => h.elim) ?_
  rintro _ _ ⟨e, D, t, rfl, rfl, ab⟩
  exact M.raised (fun q hq => Nat.ne_of_lt (ab q hq)) (z _ rfl)
theorem resize_tel {ct : Nat} {i : Int} {ti t8 : Tok} (hvs : vs.size ≤ 8) (h1 : vs.size ≤ i) (h2 : i ≤ 8) (a2 : Apart l [a, da]) (b2 : ∀ p ∈ rest, p.1 ≠ l) :
    Tel prog w 343 [.ref ct, .ref a, .int i ti, .int 8 t8] 10 60 ((l, listOf vs e) :: (a, instObj 85 da) :: (da, arD d l) :: rest)
      (fun v n => ∃ e', v = .none ∧ Has ((l, listOf (vs ++ Array.replicate (i - vs.size).toNat .none) e') :: (a, instObj 85 da) :: (da, arD d l) :: rest) n) (fun xx9 => False) := by
  k_dflt (refine' Tel.ofM (dn := 9) (un' := 57) ?k6 ?k7 ?k9 ?kB ?c2 ?c3 ?c4 ?c5 ?_; (case k6 => k_is); (case k7 => k_is); (case k9 => exact fun s X => BindsTo.of_eq rfl); (case kB => exact locs rfl); (case c5 => decide); (case c2 => exact rfl); (case c3 => exact rfl); (case c4 => exact rfl))
  intro Q Z _ q1 _ Γ
  intro t1
  refine M.max fun t2 => ?_
  rw [if_neg (by omega)]
  refine M.gt false (decide_eq_false (by omega)) ?_
  refine M.getOwn (at_ 1 rfl) (at_ 2 rfl) gaA.1 rfl rfl ?_
  refine M.len (at_ 0 rfl) (Nat.le_trans hvs (by decide)) fun t3 => ?_
  refine M.lt false (decide_eq_false (by omega)) ?_
  refine M.getOwn (at_ 1 rfl) (at_ 2 rfl) gaA.1 rfl rfl ?_
  refine M.methL (at_ 0 rfl) PySem.F.slot_list_extend PySem.F.type_list_extend rfl ?_
  refine M.newList (by decide) fun b hb => ?_
  refine M.getOwn (at_ 2 rfl) (at_ 3 rfl) gaA.1 rfl rfl ?_
  refine M.len (at_ 1 rfl) (Nat.le_trans hvs (by decide)) fun t3 => ?_
  refine M.sub fun t4 => ?_
  refine M.mul (at_ 0 rfl) (by omega) (by omega) fun D hD => ?_
  refine M.extend (at_ 0 rfl) (.tail (Nat.ne_of_gt (hD _ (at_ 1 rfl))) (.tail (Nat.ne_of_gt (hb _ (at_ 0 rfl))) (.head (ne_cons (a2 _ (.head _)) (ne_cons (a2 _ (.tail _ (.head _))) b2))))) (by rw [Array.size_replicate]; omega) ?_
  exact q1 _ _ ⟨_, rfl, perm [2, 3, 4] 5 rfl⟩
end
end
section
theorem gaT {w : World} : GA w 162 "target" := ⟨by k_is, by k_is, _, by k_is, by k_is⟩
theorem rt_dn (k : Nat) : 20 * k + 20 ≤ 20 * (k + 1) + 19 := by omega
theorem rt_un (k : Nat) : 100 * k + 60 ≤ 100 * (k + 1) + 57 := by omega
theorem RInv.same {G0 : Led} {ds : List Dat} {i : Nat} {ys : List Value} {news : Led} {y : Value} {d : Dat} (h : RInv G0 ds i ys news) (hd : DatIn [] y d) (hi : ds[i]? = some d) : RInv G0 ds (i + 1) (ys ++ [y]) news := h.step (add := []) (fun xx9 h => nomatch h) hd hi
section
variable {I C D : Addr} {oI oC : Obj} {ys : List Value} {G0 news n' GX extra new2 : Led} {ds : List Dat} {i : Nat} {y : Value} {d : Dat}
theorem comp_out (hX : Has (new2 ++ GX) n') (hN : Has ((I, oI) :: (C, oC) :: (D, LCg.lst ys) :: news) GX) (ho2 : Off new2 GX) (ab : Off extra n') (off : LCg.Off3 I C D news) (hr : RInv G0 ds i ys news) (hd : DatIn (extra ++ new2) y d) (hi : ds[i]? = some d) :
    ∃ news', Has ((I, oI) :: (C, oC) :: (D, LCg.lst ys) :: news') (extra ++ n') ∧ LCg.Off3 I C D news' ∧ RInv G0 ds (i + 1) (ys ++ [y]) news' := by
  have hXn : Has GX n' := fun p hp => hX p (List.mem_append_right _ hp)
  have hoff : Off (extra ++ new2) ((I, oI) :: (C, oC) :: (D, LCg.lst ys) :: news) := off_app (fun p hp q hq => ab p hp q (hXn q (hN q hq))) (fun p hp q hq => ho2 p hp q (hN q hq))
  have hA : Has ((I, oI) :: (C, oC) :: (D, LCg.lst ys) :: news) (extra ++ n') := fun p hp => List.mem_append_right _ (hXn p (hN p hp))
  exact ⟨(extra ++ new2) ++ news, has_cons (hA _ (.head _)) (has_cons (hA _ (.tail _ (.head _))) (has_cons (hA _ (.tail _ (.tail _ (.head _)))) (has_app (has_app (fun p hp => List.mem_append_left _ hp) fun p hp => List.mem_append_right _ (hX p (List.mem_append_left _ hp))) fun p hp => hA p (.tail _ (.tail _ (.tail _ hp)))))),
    off3_add off fun p hp => ⟨hoff p hp (I, oI) (.head _), hoff p hp (C, oC) (.tail _ (.head _)), hoff p hp (D, LCg.lst ys) (.tail _ (.tail _ (.head _)))⟩, hr.step (fun p hp q hq => hoff p hp q (.tail _ (.tail _ (.tail _ hq)))) hd hi⟩
theorem comp_end {GL G1 : Led} {T : Addr} {tg : Str} {tk : Tok} {n : Nat} (hi : RInv G0 ds n ys G1) (hds : ds.length = n) (o1 : LCg.Off1 D G1) (aT : Above T ((D, LCg.lst ys) :: G1)) (hG : Has GL G0) :
    TP GL (.tuple [.str tg, .list ds]) (.ref T) ((T, ({ cls := .type "tuple", data := .seq #[.str tg tk, .ref D] } : Obj)) :: (D, LCg.lst ys) :: G1) := by
  obtain ⟨new, rfl, ho, hD⟩ := hi
  rw [← hds, List.take_length] at hD
  exact tp_end (.head _) (fun p hp => .tail _ hp) aT o1 ho hG hD
end
theorem told_leaf {prog : Program} {w : World} {k : Nat} {v : Value} {dv : Dat} {GL : Led} (hv : Plain v) (hd : DatIn [] v dv) : RT prog w 600 k v dv GL := by
  k_dflt (refine' Tel.ofCell (dn := 20 * k + 19) (un' := 100 * k + 57) (xc := "thing") (ov := Option.none) (l := [("value", v)]) ?k6 ?k7 ?k9 ?kB ?cA ?cB ?cC ?c2 ?c3 ?c4 ?_; (case k6 => k_is); (case k7 => k_is); (case k9 => exact fun s X => BindsTo.of_eq rfl); (case kB => exact rfl); (case cA => exact fun n => rfl); (case cB => exact fun n => bindL_add (ml := ⟨[], fun xx9 => Option.none⟩) rfl); (case cC => exact fun n => rfl); (case c2 => exact rfl); (case c3 => exact rfl); (case c4 => exact rfl))
  intro Q L c o hc a q1 _ Γ
  refine M.isiPlain hv ?_
  exact q1 _ _ _ (tp_leaf (fun p hp => .tail _ hp) hd)
theorem told_S {prog : Program} {w : World} {r dr x dx k : Nat} {rd : RD} {d : TD} {v : Value} {dv : Dat} {GL : Led} (h1 : (r, instObj 162 dr) ∈ GL) (h2 : (dr, refD rd x) ∈ GL) (h3 : (x, instObj 66 dx) ∈ GL) (h4 : (dx, scD d v) ∈ GL) (hv : handedIn v = true)
    (C : ∀ G', Has GL G' → RT prog w 600 k v dv G') : RT prog w 600 (k + 1) (.ref r) (.tuple [.str "S", .list [dv]]) GL := by
  k_dflt (refine' Tel.ofCell (dn := 20 * (k + 1) + 19) (un' := 100 * (k + 1) + 57) (xc := "thing") (ov := Option.none) (l := [("value", .ref r)]) ?k6 ?k7 ?k9 ?kB ?cA ?cB ?cC ?c2 ?c3 ?c4 ?_; (case k6 => k_is); (case k7 => k_is); (case k9 => exact fun s X => BindsTo.of_eq rfl); (case kB => exact rfl); (case cA => exact fun n => rfl); (case cB => exact fun n => bindL_add (ml := ⟨[], fun xx9 => Option.none⟩) rfl); (case cC => exact fun n => rfl); (case c2 => exact rfl); (case c3 => exact rfl); (case c4 => exact rfl))
  intro Q L c o hc a q1 _ Γ
  refine M.isiObj true (.tail _ h1) (.tail _ h2) (.inr (.inr (.inr rfl))) (.inr (.inr (.inr (.inr (.inr rfl))))) rfl ?_
  refine M.assignC rfl rfl rfl (.head fun p hp => Nat.ne_of_lt (a p hp)) hc (fun Q2 q => M.getOwn (.tail _ h1) (.tail _ h2) gaT rfl rfl q) fun o1 d1 => ?_
  refine M.cell rfl rfl (.head _) d1 rfl ?_
  refine M.isiObj false (.tail _ h3) (.tail _ h4) (.inl rfl) (.inr (.inl rfl)) rfl ?_
  refine M.cell rfl rfl (.head _) d1 rfl ?_
  refine M.isiObj false (.tail _ h3) (.tail _ h4) (.inl rfl) (.inr (.inr (.inl rfl))) rfl ?_
  refine fun tS => M.cell rfl rfl (.head _) d1 rfl ?_
  refine M.getOwn (.tail _ h3) (.tail _ h4) ga_value rfl hv ?_
  refine M.tel (C _ fun p hp => .tail _ hp) (fun xx9 h => h) (rt_dn k) (rt_un k) (fun xx9 h => h) ?_
  rintro rv G2 ⟨new, hN, ho, hd⟩
  refine M.newList (Nat.le_of_ble_eq_true rfl) fun D a1 => ?_
  refine M.newTuple (Nat.le_of_ble_eq_true rfl) fun T a2 => ?_
  exact q1 _ _ _ (ts_end hN ho (fun p hp => .tail _ hp) hd a1 (a2 _ (.head _)) fun p hp => a2 p (.tail _ hp))
theorem told_A {prog : Program} {w : World} {r dr a da l e k : Nat} {rd : RD} {td : TD} {vs : Array Value} {GL : Led} {ds : List Dat} (h1 : (r, instObj 162 dr) ∈ GL) (h2 : (dr, refD rd a) ∈ GL) (h3 : (a, instObj 85 da) ∈ GL) (h4 : (da, arD td l) ∈ GL) (h5 : (l, listOf vs e) ∈ GL) (hsz : vs.size ≤ 8) (hds : ds.length = vs.size)
    (hit : ∀ (i : Nat) (v : Value), vs[i]? = some v → (v = Value.none ∧ ds[i]? = some Dat.none) ∨ ∃ x dx d y dy, handedIn y = true ∧ v = Value.ref x ∧ (x, instObj 66 dx) ∈ GL ∧ (dx, scD d y) ∈ GL ∧ ds[i]? = some (Dat.list [dy]) ∧ ∀ G', Has GL G' → RT prog w 600 k y dy G') :
    RT prog w 600 (k + 1) (.ref r) (.tuple [.str "A", .list ds]) GL := by
  k_dflt (refine' Tel.ofCell (dn := 20 * (k + 1) + 19) (un' := 100 * (k + 1) + 57) (xc := "thing") (ov := Option.none) (l := [("value", .ref r)]) ?k6 ?k7 ?k9 ?kB ?cA ?cB ?cC ?c2 ?c3 ?c4 ?_; (case k6 => k_is); (case k7 => k_is); (case k9 => exact fun s X => BindsTo.of_eq rfl); (case kB => exact rfl); (case cA => exact fun n => rfl); (case cB => exact fun n => bindL_add (ml := ⟨[], fun xx9 => Option.none⟩) rfl); (case cC => exact fun n => rfl); (case c2 => exact rfl); (case c3 => exact rfl); (case c4 => exact rfl))
  intro Q L c o hc a q1 _ Γ
  refine M.isiObj true (.tail _ h1) (.tail _ h2) (.inr (.inr (.inr rfl))) (.inr (.inr (.inr (.inr (.inr rfl))))) rfl ?_
  refine M.assignC rfl rfl rfl (.head fun p hp => Nat.ne_of_lt (a p hp)) hc (fun Q2 q => M.getOwn (.tail _ h1) (.tail _ h2) gaT rfl rfl q) fun o1 d1 => ?_
  refine M.cell rfl rfl (.head _) d1 rfl ?_
  refine M.isiObj true (.tail _ h3) (.tail _ h4) (.inr (.inl rfl)) (.inr (.inl rfl)) rfl ?_
  refine fun tA => M.compL (cl := []) (fun L => by with_unfolding_all rfl) (by decide) rfl (by decide) rfl (fun L y => rfl) (fun Q2 q => M.cell rfl rfl (.head _) d1 rfl (M.getOwn (.tail _ h3) (.tail _ h4) gaA.1 rfl rfl q)) (.tail _ h5) (Nat.le_trans hsz (by decide)) (RInv ((c, o1) :: GL) ds) RInv.zero (fun i ys n q => q.up _ (.tail _ h5)) ?_ ?_
  · intro i ys G1 v I oI C oC D m2 hv hi hC hx off Q2 q
    refine M.xLoc rfl rfl rfl (.tail _ (.head _)) hC hx rfl ?_
    rcases hit i v hv with ⟨rfl, hd1⟩ | ⟨x, dx, d, y, dy, hy, rfl, m1, m2, hd1, C1⟩
    · refine M.isN true rfl ?_
      exact q _ _ _ (fun p hp => hp) off (hi.same .none hd1)
    · have hU : Has GL G1 := fun p hp => hi.up p (.tail _ hp)
      refine M.isN false rfl ?_
      refine M.xCall rfl rfl rfl rfl rfl rfl ?_
      refine M.xLoc rfl rfl rfl (.tail _ (.head _)) hC hx rfl ?_
      refine M.getOwn (.tail _ (.tail _ (.tail _ (hU _ m1)))) (.tail _ (.tail _ (.tail _ (hU _ m2)))) ga_value rfl hy ?_
      refine M.tel (C1 _ fun p hp => .tail _ (.tail _ (.tail _ (hU p hp)))) (fun xx9 h => h) (rt_dn k) (rt_un k) (fun xx9 h => h) ?_
      rintro rv G2 ⟨new2, hN, ho, hd⟩
      refine M.newList (Nat.le_of_ble_eq_true rfl) fun D2 a2 => ?_
      obtain ⟨n9, z1, z2, z3⟩ := comp_out (extra := [(D2, listOf #[rv] 0)]) hN (fun p hp => hp) ho (off_one a2) off hi (has_dat hd) hd1
      exact q _ _ _ z1 z2 z3
  · intro D ys G1 hi o1
    refine M.newTuple (Nat.le_of_ble_eq_true rfl) fun T a2 => ?_
    exact q1 _ _ _ (comp_end hi hds o1 a2 fun p hp => .tail _ hp)
theorem told_H {prog : Program} {w : World} {r dr a da l k : Nat} {rd : RD} {td : TD} {i9 : Int} {t9 : Tok} {ot : Obj} {kvs : List (Str × Value)} {GL : Led} {ds : List Dat} (h1 : (r, instObj 162 dr) ∈ GL) (h2 : (dr, refD rd a) ∈ GL) (h3 : (a, instObj 104 da) ∈ GL) (h4 : (da, haD td l i9 t9) ∈ GL) (h5 : (l, ot) ∈ GL) (hot : ot.IsDictOf (strKind prog w) kvs) (hl : 1 < l) (hsz : kvs.length ≤ 1000) (hds : ds.length = kvs.length)
    (hit : ∀ (i : Nat) (key : Str) (v : Value), kvs[i]? = some (key, v) → valueAt kvs key = some v ∧ ∃ x dx d y dy, handedIn y = true ∧ v = Value.ref x ∧ (x, instObj 66 dx) ∈ GL ∧ (dx, scD d y) ∈ GL ∧ ds[i]? = some (Dat.tuple [.str key, .list [dy]]) ∧ ∀ G', Has GL G' → RT prog w 600 k y dy G') :
    RT prog w 600 (k + 1) (.ref r) (.tuple [.str "H", .list ds]) GL := by
  k_dflt (refine' Tel.ofCell (dn := 20 * (k + 1) + 19) (un' := 100 * (k + 1) + 57) (xc := "thing") (ov := Option.none) (l := [("value", .ref r)]) ?k6 ?k7 ?k9 ?kB ?cA ?cB ?cC ?c2 ?c3 ?c4 ?_; (case k6 => k_is); (case k7 => k_is); (case k9 => exact fun s X => BindsTo.of_eq rfl); (case kB => exact rfl); (case cA => exact fun n => rfl); (case cB => exact fun n => bindL_add (ml := ⟨[], fun xx9 => Option.none⟩) rfl); (case cC => exact fun n => rfl); (case c2 => exact rfl); (case c3 => exact rfl); (case c4 => exact rfl))
  intro Q L c o hc a q1 _ Γ
  refine M.isiObj true (.tail _ h1) (.tail _ h2) (.inr (.inr (.inr rfl))) (.inr (.inr (.inr (.inr (.inr rfl))))) rfl ?_
  refine M.assignC rfl rfl rfl (.head fun p hp => Nat.ne_of_lt (a p hp)) hc (fun Q2 q => M.getOwn (.tail _ h1) (.tail _ h2) gaT rfl rfl q) fun o1 d1 => ?_
  refine M.cell rfl rfl (.head _) d1 rfl ?_
  refine M.isiObj false (.tail _ h3) (.tail _ h4) (.inr (.inr (.inl rfl))) (.inr (.inl rfl)) rfl ?_
  refine M.cell rfl rfl (.head _) d1 rfl ?_
  refine M.isiObj true (.tail _ h3) (.tail _ h4) (.inr (.inr (.inl rfl))) (.inr (.inr (.inl rfl))) rfl ?_
  refine fun tH => M.compD (cl := [("thing", c)]) (fun L => by with_unfolding_all rfl) (by decide) rfl (by decide) rfl (fun L y => rfl) (fun Q2 q => M.cell rfl rfl (.head _) d1 rfl (M.getOwn (.tail _ h3) (.tail _ h4) gaA.2.2.1 rfl rfl q)) (.tail _ h5) hot hl hsz (RInv ((c, o1) :: GL) ds) RInv.zero (fun i ys n q => q.up _ (.tail _ h5)) ?_ ?_
  · intro i ys G1 v I oI C oC D m2 hv hi hC hx off Q2 q
    obtain ⟨key, v9, hkv, hks⟩ := hv
    obtain ⟨tkk, rfl⟩ := is_str hks
    obtain ⟨hva, x, dx, d, y, dy, hy, rfl, m1, m2', hd1, C1⟩ := hit i key v9 hkv
    have hU : Has ((c, o1) :: GL) ((I, oI) :: (C, oC) :: (D, LCg.lst ys) :: G1) := fun p hp => .tail _ (.tail _ (.tail _ (hi.up p hp)))
    refine M.xLoc rfl rfl rfl (.tail _ (.head _)) hC hx rfl ?_
    refine M.xCall rfl rfl rfl rfl rfl rfl ?_
    refine M.xCell rfl rfl rfl rfl (hU _ (.head _)) d1 rfl ?_
    refine M.getOwn (hU _ (.tail _ h3)) (hU _ (.tail _ h4)) gaA.2.2.1 rfl rfl ?_
    refine M.xLoc rfl rfl rfl (.tail _ (.head _)) hC hx rfl ?_
    refine M.dItem (hU _ (.tail _ h5)) hot hva (by with_unfolding_all rfl) ?_
    refine M.getOwn (hU _ (.tail _ m1)) (hU _ (.tail _ m2')) ga_value rfl hy ?_
    refine M.tel (C1 _ fun p hp => hU p (.tail _ hp)) (fun xx9 h => h) (rt_dn k) (rt_un k) (fun xx9 h => h) ?_
    rintro rv G2 ⟨new2, hN, ho, hd⟩
    refine M.newList (Nat.le_of_ble_eq_true rfl) fun D2 a2 => ?_
    refine M.newTuple (Nat.le_of_ble_eq_true rfl) fun T2 a3 => ?_
    obtain ⟨n9, z1, z2, z3⟩ := comp_out (extra := [(T2, ({ cls := .type "tuple", data := .seq #[.str key tkk, .ref D2] } : Obj)), (D2, listOf #[rv] 0)]) hN (fun p hp => hp) ho (off_two a2 fun p hp => a3 p (.tail _ hp)) off hi (has_dat2 hd) hd1
    exact q _ _ _ z1 z2 z3
  · intro D ys G1 hi o1
    refine M.newTuple (Nat.le_of_ble_eq_true rfl) fun T a2 => ?_
    exact q1 _ _ _ (comp_end hi hds o1 a2 fun p hp => .tail _ hp)
end
section
theorem elem_wrap {prog : Program} {w : World} {f : Fix} {a da l : Nat} {d : TD} {i : Int} {ti : Tok} {G : Led} {post : Value → Led → Prop} {exc : Led → Prop} (ok : f.Ok prog w)
    (h1 : (a, instObj 85 da) ∈ G) (h2 : (da, arD d l) ∈ G) (h3 : (f.rn, runO f) ∈ G) (h4 : (f.drn, runD f) ∈ G) (h5 : (f.li, limO f) ∈ G) (h6 : (f.dli, limD f) ∈ G)
    (C : Tel prog w 336 [.ref f.ct, .ref a, .int i ti, .int 8 (f.t 7)] 37 160 G post exc) : Tel prog w 427 [.ref f.rn, .ref a, .int i ti] 40 180 G post exc := by
  k_dflt (refine' Tel.ofM (dn := 39) (un' := 177) ?k6 ?k7 ?k9 ?kB ?c2 ?c3 ?c4 ?c5 ?_; (case k6 => k_is); (case k7 => k_is); (case k9 => exact fun s X => BindsTo.of_eq rfl); (case kB => exact locs rfl); (case c5 => decide); (case c2 => exact rfl); (case c3 => exact rfl); (case c4 => exact rfl))
  intro Q Z q1 _ z Γ
  refine M.getOwn h1 h2 gaA.2.1 rfl rfl ?_
  refine M.isNot false rfl ?_
  refine M.getOwn h3 h4 gaRun.2.1 ok.counter rfl ?_
  refine M.getOwn h3 h4 gaRun.2.2.1 ok.limits rfl ?_
  refine M.getOwn h5 h6 gaRun.2.2.2 ok.items rfl ?_
  exact M.tel C (fun xx9 h => h) (Nat.le_of_ble_eq_true rfl) (Nat.le_of_ble_eq_true rfl) z fun v G' q => q1 v _ G' q
theorem at_lt' {vs : Array Value} {q : Int} {v : Value} (h0 : 0 ≤ q) (h : vs[q.toNat]? = some v) : q < vs.size := at_lt h0 h
theorem elem_bad {prog : Program} {w : World} {f : Fix} {a da l e : Nat} {d : TD} {vs : Array Value} {i q : Int} {ti : Tok} {rest : Led} (ok : f.Ok prog w) (hvs : vs.size ≤ 8) (hq : placeOf vs.size i = q) (h0 : q < 0 ∨ 8 ≤ q) :
  Tel prog w 427 [.ref f.rn, .ref a, .int i ti] 40 180 ((a, instObj 85 da) :: (da, arD d l) :: (l, listOf vs e) :: (f.rn, runO f) :: (f.drn, runD f) :: (f.li, limO f) :: (f.dli, limD f) :: (f.ct, ctrO f) :: (f.dct, ctrD f) :: rest) (fun v news' => False) (fun news' => Has ((a, instObj 85 da) :: (da, arD d l) :: (l, listOf vs e) :: (f.rn, runO f) :: (f.drn, runD f) :: (f.li, limO f) :: (f.dli, limD f) :: (f.ct, ctrO f) :: (f.dct, ctrD f) :: rest) news') := by
  refine elem_wrap ok (at_ 0 rfl) (at_ 1 rfl) (at_ 3 rfl) (at_ 4 rfl) (at_ 5 rfl) (at_ 6 rfl) ?_
  k_dflt (refine' Tel.ofM (dn := 36) (un' := 157) ?k6 ?k7 ?k9 ?kB ?c2 ?c3 ?c4 ?c5 ?_; (case k6 => k_is); (case k7 => k_is); (case k9 => exact fun s X => BindsTo.of_eq rfl); (case kB => exact locs rfl); (case c5 => decide); (case c2 => exact rfl); (case c3 => exact rfl); (case c4 => exact rfl))
  intro Q Z _ _ z Γ
  refine M.tel (place_at (at_ 0 rfl) (at_ 1 rfl) (at_ 2 rfl) hvs hq) (fun xx9 h => h) (Nat.le_of_ble_eq_true rfl) (Nat.le_of_ble_eq_true rfl) (fun xx9 h => h.elim) ?_
  rintro _ _ ⟨tk, rfl, rfl⟩
  intro t1
  cases e1 : decide (q < 0) with
  | true =>
    refine M.lt true e1 ?_
    refine M.glob (by k_is) rfl rfl ?_
    refine M.tel die_tel (fun xx9 h => h) (Nat.le_of_ble_eq_true rfl) (Nat.le_of_ble_eq_true rfl) (fun xx9 h => h.elim) ?_
    rintro _ _ ⟨e, D, t, rfl, rfl, ab⟩
    exact M.raised (fun q hq => Nat.ne_of_lt (ab q hq)) (z _ fun xx9 h => h)
  | false =>
    have e2 := of_decide_eq_false e1
    refine M.lt false e1 ?_
    refine M.getOwn (at_ 0 rfl) (at_ 1 rfl) gaA.1 rfl rfl ?_
    refine M.len (at_ 2 rfl) (Nat.le_trans hvs (by decide)) fun t3 => ?_
    refine M.ge true (decide_eq_true (by omega)) ?_
    intro t2
    refine M.add fun t4 => ?_
    exact M.tel (resize_die (by omega)) (fun xx9 h => h) (Nat.le_of_ble_eq_true rfl) (Nat.le_of_ble_eq_true rfl) (fun xx9 q => z _ (by rw [q]; exact fun xx9 h => h)) fun xx9 xx9 q => q.elim
theorem elem_old {prog : Program} {w : World} {f : Fix} {a da l e y : Nat} {d : TD} {vs : Array Value} {i q : Int} {ti : Tok} {rest : Led} (ok : f.Ok prog w) (hvs : vs.size ≤ 8) (hq : placeOf vs.size i = q) (h0 : 0 ≤ q) (h8 : q < 8) (hy : vs[q.toNat]? = some (.ref y)) :
  Tel prog w 427 [.ref f.rn, .ref a, .int i ti] 40 180 ((a, instObj 85 da) :: (da, arD d l) :: (l, listOf vs e) :: (f.rn, runO f) :: (f.drn, runD f) :: (f.li, limO f) :: (f.dli, limD f) :: (f.ct, ctrO f) :: (f.dct, ctrD f) :: rest) (fun v news' => v = .ref y ∧ Has ((a, instObj 85 da) :: (da, arD d l) :: (l, listOf vs e) :: (f.rn, runO f) :: (f.drn, runD f) :: (f.li, limO f) :: (f.dli, limD f) :: (f.ct, ctrO f) :: (f.dct, ctrD f) :: rest) news') (fun xx9 => False) := by
  have h1 := at_lt h0 hy
  refine elem_wrap ok (at_ 0 rfl) (at_ 1 rfl) (at_ 3 rfl) (at_ 4 rfl) (at_ 5 rfl) (at_ 6 rfl) ?_
  k_dflt (refine' Tel.ofM (dn := 36) (un' := 157) ?k6 ?k7 ?k9 ?kB ?c2 ?c3 ?c4 ?c5 ?_; (case k6 => k_is); (case k7 => k_is); (case k9 => exact fun s X => BindsTo.of_eq rfl); (case kB => exact locs rfl); (case c5 => decide); (case c2 => exact rfl); (case c3 => exact rfl); (case c4 => exact rfl))
  intro Q Z q1 _ _ Γ
  refine M.tel (place_at (at_ 0 rfl) (at_ 1 rfl) (at_ 2 rfl) hvs hq) (fun xx9 h => h) (Nat.le_of_ble_eq_true rfl) (Nat.le_of_ble_eq_true rfl) (fun xx9 h => h.elim) ?_
  rintro _ _ ⟨tk, rfl, rfl⟩
  intro t1
  refine M.lt false (decide_eq_false (Int.not_lt.mpr h0)) ?_
  refine M.getOwn (at_ 0 rfl) (at_ 1 rfl) gaA.1 rfl rfl ?_
  refine M.len (at_ 2 rfl) (Nat.le_trans hvs (by decide)) fun t3 => ?_
  refine M.ge false (decide_eq_false (Int.not_le.mpr h1)) ?_
  refine M.getOwn (at_ 0 rfl) (at_ 1 rfl) gaA.1 rfl rfl ?_
  refine M.item (at_ 2 rfl) h0 (Nat.le_trans hvs (by decide)) hy (by with_unfolding_all rfl) ?_
  refine M.isN false rfl ?_
  refine M.getOwn (at_ 0 rfl) (at_ 1 rfl) gaA.1 rfl rfl ?_
  refine M.item (at_ 2 rfl) h0 (Nat.le_trans hvs (by decide)) hy (by with_unfolding_all rfl) ?_
  exact q1 _ _ _ ⟨rfl, fun xx9 h => h⟩
theorem elem_none {prog : Program} {w : World} {f : Fix} {a da l e : Nat} {d : TD} {vs : Array Value} {i q : Int} {n : Int} {ti tn : Tok} {rest : Led} (ok : f.Ok prog w) (hvs : vs.size ≤ 8) (hq : placeOf vs.size i = q) (h0 : 0 ≤ q) (h8 : q < 8) (hy : vs[q.toNat]? = some .none)
   (a1 : Apart l [a, da, f.rn, f.drn, f.li, f.dli, f.ct, f.dct, f.hp, f.dhp]) (b1 : ∀ p ∈ rest, p.1 ≠ l) (a2 : Apart f.dhp [a, da, l, f.rn, f.drn, f.li, f.dli, f.ct, f.dct, f.hp]) (b2 : ∀ p ∈ rest, p.1 ≠ f.dhp) :
  Tel prog w 427 [.ref f.rn, .ref a, .int i ti] 40 180 ((a, instObj 85 da) :: (da, arD d l) :: (l, listOf vs e) :: (f.rn, runO f) :: (f.drn, runD f) :: (f.li, limO f) :: (f.dli, limD f) :: (f.ct, ctrO f) :: (f.dct, ctrD f) :: (f.hp, heapO f) :: (f.dhp, heapD f n tn) :: rest) (fun v news' => ∃ (x dx : Nat) (d2 : TD) (n' : Int) (tn' : Tok) (e' : Nat), v = .ref x ∧ Has ((x, instObj 66 dx) :: (dx, scD d2 .none) :: (a, instObj 85 da) :: (da, arD d l) :: (l, listOf (vs.setIfInBounds q.toNat (.ref x)) e') :: (f.rn, runO f) :: (f.drn, runD f) :: (f.li, limO f) :: (f.dli, limD f) :: (f.ct, ctrO f) :: (f.dct, ctrD f) :: (f.hp, heapO f) :: (f.dhp, heapD f n' tn') :: rest) news' ∧
      Above dx ((a, instObj 85 da) :: (da, arD d l) :: (l, listOf (vs.setIfInBounds q.toNat (.ref x)) e') :: (f.rn, runO f) :: (f.drn, runD f) :: (f.li, limO f) :: (f.dli, limD f) :: (f.ct, ctrO f) :: (f.dct, ctrD f) :: (f.hp, heapO f) :: (f.dhp, heapD f n tn) :: rest) ∧ dx < x) (fun xx9 => False) := by
  have h1 := at_lt h0 hy
  refine elem_wrap ok (at_ 0 rfl) (at_ 1 rfl) (at_ 3 rfl) (at_ 4 rfl) (at_ 5 rfl) (at_ 6 rfl) ?_
  k_dflt (refine' Tel.ofM (dn := 36) (un' := 157) ?k6 ?k7 ?k9 ?kB ?c2 ?c3 ?c4 ?c5 ?_; (case k6 => k_is); (case k7 => k_is); (case k9 => exact fun s X => BindsTo.of_eq rfl); (case kB => exact locs rfl); (case c5 => decide); (case c2 => exact rfl); (case c3 => exact rfl); (case c4 => exact rfl))
  intro Q Z q1 _ _ Γ
  refine M.tel (place_at (at_ 0 rfl) (at_ 1 rfl) (at_ 2 rfl) hvs hq) (fun xx9 h => h) (Nat.le_of_ble_eq_true rfl) (Nat.le_of_ble_eq_true rfl) (fun xx9 h => h.elim) ?_
  rintro _ _ ⟨tk, rfl, rfl⟩
  intro t1
  refine M.lt false (decide_eq_false (Int.not_lt.mpr h0)) ?_
  refine M.getOwn (at_ 0 rfl) (at_ 1 rfl) gaA.1 rfl rfl ?_
  refine M.len (at_ 2 rfl) (Nat.le_trans hvs (by decide)) fun t3 => ?_
  refine M.ge false (decide_eq_false (Int.not_le.mpr h1)) ?_
  refine M.getOwn (at_ 0 rfl) (at_ 1 rfl) gaA.1 rfl rfl ?_
  refine M.item (at_ 2 rfl) h0 (Nat.le_trans hvs (by decide)) hy (by with_unfolding_all rfl) ?_
  refine M.isN true rfl ?_
  refine M.meth (at_ 7 rfl) (at_ 8 rfl) me_c.2.2.2.1 rfl rfl ?_
  refine M.tel (fresh_tel (f := f) (n := n) (tn := tn) (rest := (a, instObj 85 da) :: (da, arD d l) :: (l, listOf vs e) :: (f.rn, runO f) :: (f.drn, runD f) :: (f.li, limO f) :: (f.dli, limD f) :: rest) (a2 _ (List.mem_of_getElem? (i := 9) rfl)) (a2 _ (List.mem_of_getElem? (i := 7) rfl)) (a2 _ (List.mem_of_getElem? (i := 8) rfl)) (ne_app (ne_map (l := [(a, instObj 85 da), (da, arD d l), (l, listOf vs e), (f.rn, runO f), (f.drn, runD f), (f.li, limO f), (f.dli, limD f)]) (a2.pick [0, 1, 2, 3, 4, 5, 6] rfl)) b2)) (perm [7, 8, 9, 10, 0, 1, 2, 3, 4, 5, 6] 11 rfl) (Nat.le_of_ble_eq_true rfl) (Nat.le_of_ble_eq_true rfl) (fun xx9 h => h.elim) ?_
  rintro _ G1 ⟨x, dx, d2, n', tn', rfl, hs, ab, p1, p2, p3, p4, p5⟩
  have hlx := ab _ (at_ 2 rfl)
  refine M.getOwn (hs _ (at_ 6 rfl)) (hs _ (at_ 7 rfl)) gaA.1 rfl rfl ?_
  refine M.led (c := .si _ _ _) ((l, listOf vs e) :: (x, instObj 66 dx) :: (dx, scD d2 .none) :: (f.ct, ctrO f) :: (f.dct, ctrD f) :: (f.hp, heapO f) :: (f.dhp, heapD f n' tn') :: (a, instObj 85 da) :: (da, arD d l) :: (f.rn, runO f) :: (f.drn, runD f) :: (f.li, limO f) :: (f.dli, limD f) :: rest) (by exact trivial) (Has.trans (perm (G := (x, instObj 66 dx) :: (dx, scD d2 .none) :: (f.ct, ctrO f) :: (f.dct, ctrD f) :: (f.hp, heapO f) :: (f.dhp, heapD f n' tn') :: (a, instObj 85 da) :: (da, arD d l) :: (l, listOf vs e) :: (f.rn, runO f) :: (f.drn, runD f) :: (f.li, limO f) :: (f.dli, limD f) :: rest) [8, 0, 1, 2, 3, 4, 5, 6, 7, 9, 10, 11, 12] 13 rfl) hs) ?_
  refine M.setItem (.head (ne_cons (Nat.ne_of_gt (Nat.lt_trans hlx p5)) (ne_cons (Nat.ne_of_gt hlx) (ne_app (ne_map (l := [(f.ct, ctrO f), (f.dct, ctrD f), (f.hp, heapO f), (f.dhp, heapD f n' tn'), (a, instObj 85 da), (da, arD d l), (f.rn, runO f), (f.drn, runD f), (f.li, limO f), (f.dli, limD f)]) (a1.pick [6, 7, 8, 9, 0, 1, 2, 3, 4, 5] rfl)) b1)))) h0 (Nat.le_trans hvs (by decide)) h1 ?_
  refine M.getOwn (at_ 7 rfl) (at_ 8 rfl) gaA.1 rfl rfl ?_
  refine M.item (at_ 0 rfl) h0 (by rw [Array.size_setIfInBounds]; exact (Nat.le_trans hvs (by decide))) (set_at hy) (by with_unfolding_all rfl) ?_
  exact q1 _ _ _ ⟨x, dx, d2, n', tn', _, rfl, perm [1, 2, 7, 8, 0, 9, 10, 11, 12, 3, 4, 5, 6] 13 rfl, above_cons (ab _ (at_ 0 rfl)) (above_cons (ab _ (at_ 1 rfl)) (above_cons hlx (above_cons (ab _ (at_ 3 rfl)) (above_cons (ab _ (at_ 4 rfl)) (above_cons (ab _ (at_ 5 rfl)) (above_cons (ab _ (at_ 6 rfl)) (above_cons p1 (above_cons p2 (above_cons p3 (above_cons p4 fun p hp => ab p (.tail _ (.tail _ (.tail _ (.tail _ (.tail _ (.tail _ (.tail _ hp))))))))))))))))), p5⟩
theorem elem_grow {prog : Program} {w : World} {f : Fix} {a da l e : Nat} {d : TD} {vs : Array Value} {i q : Int} {n : Int} {ti tn : Tok} {rest : Led} (ok : f.Ok prog w) (hvs : vs.size ≤ 8) (hq : placeOf vs.size i = q) (hsz : vs.size ≤ q) (h8 : q < 8)
   (a1 : Apart l [a, da, f.rn, f.drn, f.li, f.dli, f.ct, f.dct, f.hp, f.dhp]) (b1 : ∀ p ∈ rest, p.1 ≠ l) (a2 : Apart f.dhp [a, da, l, f.rn, f.drn, f.li, f.dli, f.ct, f.dct, f.hp]) (b2 : ∀ p ∈ rest, p.1 ≠ f.dhp) :
  Tel prog w 427 [.ref f.rn, .ref a, .int i ti] 40 180 ((a, instObj 85 da) :: (da, arD d l) :: (l, listOf vs e) :: (f.rn, runO f) :: (f.drn, runD f) :: (f.li, limO f) :: (f.dli, limD f) :: (f.ct, ctrO f) :: (f.dct, ctrD f) :: (f.hp, heapO f) :: (f.dhp, heapD f n tn) :: rest) (fun v news' => ∃ (x dx : Nat) (d2 : TD) (n' : Int) (tn' : Tok) (e' : Nat), v = .ref x ∧ Has ((x, instObj 66 dx) :: (dx, scD d2 .none) :: (a, instObj 85 da) :: (da, arD d l) :: (l, listOf ((vs ++ Array.replicate (q + 1 - vs.size).toNat Value.none).setIfInBounds q.toNat (.ref x)) e') :: (f.rn, runO f) :: (f.drn, runD f) :: (f.li, limO f) :: (f.dli, limD f) :: (f.ct, ctrO f) :: (f.dct, ctrD f) :: (f.hp, heapO f) :: (f.dhp, heapD f n' tn') :: rest) news' ∧
      Above dx ((a, instObj 85 da) :: (da, arD d l) :: (l, listOf ((vs ++ Array.replicate (q + 1 - vs.size).toNat Value.none).setIfInBounds q.toNat (.ref x)) e') :: (f.rn, runO f) :: (f.drn, runD f) :: (f.li, limO f) :: (f.dli, limD f) :: (f.ct, ctrO f) :: (f.dct, ctrD f) :: (f.hp, heapO f) :: (f.dhp, heapD f n tn) :: rest) ∧ dx < x) (fun xx9 => False) := by
  have h0 : 0 ≤ q := Int.le_trans (Int.natCast_nonneg _) hsz
  have hz : (vs ++ Array.replicate (q + 1 - vs.size).toNat Value.none).size ≤ 1000 := by rw [Array.size_append, Array.size_replicate]; omega
  refine elem_wrap ok (at_ 0 rfl) (at_ 1 rfl) (at_ 3 rfl) (at_ 4 rfl) (at_ 5 rfl) (at_ 6 rfl) ?_
  k_dflt (refine' Tel.ofM (dn := 36) (un' := 157) ?k6 ?k7 ?k9 ?kB ?c2 ?c3 ?c4 ?c5 ?_; (case k6 => k_is); (case k7 => k_is); (case k9 => exact fun s X => BindsTo.of_eq rfl); (case kB => exact locs rfl); (case c5 => decide); (case c2 => exact rfl); (case c3 => exact rfl); (case c4 => exact rfl))
  intro Q Z q1 _ _ Γ
  refine M.tel (place_at (at_ 0 rfl) (at_ 1 rfl) (at_ 2 rfl) hvs hq) (fun xx9 h => h) (Nat.le_of_ble_eq_true rfl) (Nat.le_of_ble_eq_true rfl) (fun xx9 h => h.elim) ?_
  rintro _ _ ⟨tk, rfl, rfl⟩
  intro t1
  refine M.lt false (decide_eq_false (Int.not_lt.mpr h0)) ?_
  refine M.getOwn (at_ 0 rfl) (at_ 1 rfl) gaA.1 rfl rfl ?_
  refine M.len (at_ 2 rfl) (Nat.le_trans hvs (by decide)) fun t3 => ?_
  refine M.ge true (decide_eq_true hsz) ?_
  intro t2
  refine M.add fun t4 => ?_
  refine M.tel (resize_tel (e := e) (rest := (f.rn, runO f) :: (f.drn, runD f) :: (f.li, limO f) :: (f.dli, limD f) :: (f.ct, ctrO f) :: (f.dct, ctrD f) :: (f.hp, heapO f) :: (f.dhp, heapD f n tn) :: rest) hvs (by omega) (by omega) (a1.pick [0, 1] rfl) (ne_app (ne_map (l := [(f.rn, runO f), (f.drn, runD f), (f.li, limO f), (f.dli, limD f), (f.ct, ctrO f), (f.dct, ctrD f), (f.hp, heapO f), (f.dhp, heapD f n tn)]) (a1.pick [2, 3, 4, 5, 6, 7, 8, 9] rfl)) b1)) (perm [2, 0, 1] 3 rfl) (Nat.le_of_ble_eq_true rfl) (Nat.le_of_ble_eq_true rfl) (fun xx9 h => h.elim) ?_
  rintro _ G0 ⟨e', rfl, hs0⟩
  refine M.getOwn (hs0 _ (at_ 1 rfl)) (hs0 _ (at_ 2 rfl)) gaA.1 rfl rfl ?_
  refine M.item (hs0 _ (at_ 0 rfl)) h0 hz (grown_at hsz) (by with_unfolding_all rfl) ?_
  refine M.isN true rfl ?_
  refine M.meth (hs0 _ (at_ 7 rfl)) (hs0 _ (at_ 8 rfl)) me_c.2.2.2.1 rfl rfl ?_
  refine M.tel (fresh_tel (f := f) (n := n) (tn := tn) (rest := (a, instObj 85 da) :: (da, arD d l) :: (l, listOf (vs ++ Array.replicate (q + 1 - vs.size).toNat Value.none) e') :: (f.rn, runO f) :: (f.drn, runD f) :: (f.li, limO f) :: (f.dli, limD f) :: rest) (a2 _ (List.mem_of_getElem? (i := 9) rfl)) (a2 _ (List.mem_of_getElem? (i := 7) rfl)) (a2 _ (List.mem_of_getElem? (i := 8) rfl)) (ne_app (ne_map (l := [(a, instObj 85 da), (da, arD d l), (l, listOf (vs ++ Array.replicate (q + 1 - vs.size).toNat Value.none) e'), (f.rn, runO f), (f.drn, runD f), (f.li, limO f), (f.dli, limD f)]) (a2.pick [0, 1, 2, 3, 4, 5, 6] rfl)) b2)) (Has.trans (perm (G := (l, listOf (vs ++ Array.replicate (q + 1 - vs.size).toNat Value.none) e') :: (a, instObj 85 da) :: (da, arD d l) :: (f.rn, runO f) :: (f.drn, runD f) :: (f.li, limO f) :: (f.dli, limD f) :: (f.ct, ctrO f) :: (f.dct, ctrD f) :: (f.hp, heapO f) :: (f.dhp, heapD f n tn) :: rest) [7, 8, 9, 10, 1, 2, 0, 3, 4, 5, 6] 11 rfl) hs0) (Nat.le_of_ble_eq_true rfl) (Nat.le_of_ble_eq_true rfl) (fun xx9 h => h.elim) ?_
  rintro _ G1 ⟨x, dx, d2, n', tn', rfl, hs, ab, p1, p2, p3, p4, p5⟩
  have hlx := ab _ (at_ 2 rfl)
  refine M.getOwn (hs _ (at_ 6 rfl)) (hs _ (at_ 7 rfl)) gaA.1 rfl rfl ?_
  refine M.led (c := .si _ _ _) ((l, listOf (vs ++ Array.replicate (q + 1 - vs.size).toNat Value.none) e') :: (x, instObj 66 dx) :: (dx, scD d2 .none) :: (f.ct, ctrO f) :: (f.dct, ctrD f) :: (f.hp, heapO f) :: (f.dhp, heapD f n' tn') :: (a, instObj 85 da) :: (da, arD d l) :: (f.rn, runO f) :: (f.drn, runD f) :: (f.li, limO f) :: (f.dli, limD f) :: rest) (by exact trivial) (Has.trans (perm (G := (x, instObj 66 dx) :: (dx, scD d2 .none) :: (f.ct, ctrO f) :: (f.dct, ctrD f) :: (f.hp, heapO f) :: (f.dhp, heapD f n' tn') :: (a, instObj 85 da) :: (da, arD d l) :: (l, listOf (vs ++ Array.replicate (q + 1 - vs.size).toNat Value.none) e') :: (f.rn, runO f) :: (f.drn, runD f) :: (f.li, limO f) :: (f.dli, limD f) :: rest) [8, 0, 1, 2, 3, 4, 5, 6, 7, 9, 10, 11, 12] 13 rfl) hs) ?_
  refine M.setItem (.head (ne_cons (Nat.ne_of_gt (Nat.lt_trans hlx p5)) (ne_cons (Nat.ne_of_gt hlx) (ne_app (ne_map (l := [(f.ct, ctrO f), (f.dct, ctrD f), (f.hp, heapO f), (f.dhp, heapD f n' tn'), (a, instObj 85 da), (da, arD d l), (f.rn, runO f), (f.drn, runD f), (f.li, limO f), (f.dli, limD f)]) (a1.pick [6, 7, 8, 9, 0, 1, 2, 3, 4, 5] rfl)) b1)))) h0 hz (by rw [grown_size hsz]; omega) ?_
  refine M.getOwn (at_ 7 rfl) (at_ 8 rfl) gaA.1 rfl rfl ?_
  refine M.item (at_ 0 rfl) h0 (by rw [Array.size_setIfInBounds]; exact hz) (set_at (grown_at hsz)) (by with_unfolding_all rfl) ?_
  exact q1 _ _ _ ⟨x, dx, d2, n', tn', _, rfl, perm [1, 2, 7, 8, 0, 9, 10, 11, 12, 3, 4, 5, 6] 13 rfl, above_cons (ab _ (at_ 0 rfl)) (above_cons (ab _ (at_ 1 rfl)) (above_cons hlx (above_cons (ab _ (at_ 3 rfl)) (above_cons (ab _ (at_ 4 rfl)) (above_cons (ab _ (at_ 5 rfl)) (above_cons (ab _ (at_ 6 rfl)) (above_cons p1 (above_cons p2 (above_cons p3 (above_cons p4 fun p hp => ab p (.tail _ (.tail _ (.tail _ (.tail _ (.tail _ (.tail _ (.tail _ hp))))))))))))))))), p5⟩
end
section
theorem helem_wrap {prog : Program} {w : World} {f : Fix} {a da l : Nat} {d : TD} {i9 : Int} {t9 : Tok} {k : Str} {tk : Tok} {G : Led} {post : Value → Led → Prop} {exc : Led → Prop} (ok : f.Ok prog w)
    (h1 : (a, instObj 104 da) ∈ G) (h2 : (da, haD d l i9 t9) ∈ G) (h3 : (f.rn, runO f) ∈ G) (h4 : (f.drn, runD f) ∈ G)
    (C : Tel prog w 310 [.ref f.ct, .ref a, .str k tk] 37 160 G post exc) : Tel prog w 434 [.ref f.rn, .ref a, .str k tk] 40 180 G post exc := by
  k_dflt (refine' Tel.ofM (dn := 39) (un' := 177) ?k6 ?k7 ?k9 ?kB ?c2 ?c3 ?c4 ?c5 ?_; (case k6 => k_is); (case k7 => k_is); (case k9 => exact fun s X => BindsTo.of_eq rfl); (case kB => exact locs rfl); (case c5 => decide); (case c2 => exact rfl); (case c3 => exact rfl); (case c4 => exact rfl))
  intro Q Z q1 _ z Γ
  refine M.getOwn h1 h2 gaA.2.2.2 rfl rfl ?_
  refine M.isNot false rfl ?_
  refine M.getOwn h3 h4 gaRun.2.1 ok.counter rfl ?_
  exact M.tel C (fun xx9 h => h) (Nat.le_of_ble_eq_true rfl) (Nat.le_of_ble_eq_true rfl) z fun v G' q => q1 v _ G' q
theorem helem_old {prog : Program} {w : World} {f : Fix} {a da l y : Nat} {d : TD} {i9 : Int} {t9 : Tok} {ot : Obj} {kvs : List (Str × Value)} {k : Str} {tk : Tok} {rest : Led} (ok : f.Ok prog w) (hot : ot.IsDictOf (strKind prog w) kvs) (hl : 1 < l) (hsz : kvs.length ≤ 1000) (hy : valueAt kvs k = some (.ref y)) :
  Tel prog w 434 [.ref f.rn, .ref a, .str k tk] 40 180 ((a, instObj 104 da) :: (da, haD d l i9 t9) :: (l, ot) :: (f.rn, runO f) :: (f.drn, runD f) :: (f.ct, ctrO f) :: (f.dct, ctrD f) :: rest) (fun v news' => v = .ref y ∧ Has ((a, instObj 104 da) :: (da, haD d l i9 t9) :: (l, ot) :: (f.rn, runO f) :: (f.drn, runD f) :: (f.ct, ctrO f) :: (f.dct, ctrD f) :: rest) news') (fun xx9 => False) := by
  refine helem_wrap ok (at_ 0 rfl) (at_ 1 rfl) (at_ 3 rfl) (at_ 4 rfl) ?_
  k_dflt (refine' Tel.ofM (dn := 36) (un' := 157) ?k6 ?k7 ?k9 ?kB ?c2 ?c3 ?c4 ?c5 ?_; (case k6 => k_is); (case k7 => k_is); (case k9 => exact fun s X => BindsTo.of_eq rfl); (case kB => exact locs rfl); (case c5 => decide); (case c2 => exact rfl); (case c3 => exact rfl); (case c4 => exact rfl))
  intro Q Z q1 _ _ Γ
  refine M.getOwn (at_ 0 rfl) (at_ 1 rfl) gaA.2.2.1 rfl rfl ?_
  refine M.notIn false (at_ 2 rfl) hot hl (by rw [hy]; rfl) ?_
  refine M.getOwn (at_ 0 rfl) (at_ 1 rfl) gaA.2.2.1 rfl rfl ?_
  refine M.dItem (at_ 2 rfl) hot hy (by with_unfolding_all rfl) ?_
  exact q1 _ _ _ ⟨rfl, fun xx9 h => h⟩
theorem helem_new {prog : Program} {w : World} {f : Fix} {a da l : Nat} {d : TD} {i9 : Int} {t9 : Tok} {ot : Obj} {kvs : List (Str × Value)} {k : Str} {n : Int} {tk tn : Tok} {rest : Led} (ok : f.Ok prog w) (hot : ot.IsDictOf (strKind prog w) kvs) (hl : 1 < l) (hsz : kvs.length ≤ 1000) (hy : valueAt kvs k = none)
   (a1 : Apart l [a, da, f.rn, f.drn, f.ct, f.dct, f.hp, f.dhp]) (b1 : ∀ p ∈ rest, p.1 ≠ l) (a2 : Apart f.dhp [a, da, l, f.rn, f.drn, f.ct, f.dct, f.hp]) (b2 : ∀ p ∈ rest, p.1 ≠ f.dhp) :
  Tel prog w 434 [.ref f.rn, .ref a, .str k tk] 40 180 ((a, instObj 104 da) :: (da, haD d l i9 t9) :: (l, ot) :: (f.rn, runO f) :: (f.drn, runD f) :: (f.ct, ctrO f) :: (f.dct, ctrD f) :: (f.hp, heapO f) :: (f.dhp, heapD f n tn) :: rest) (fun v news' => ∃ (x dx : Nat) (d2 : TD) (n' : Int) (tn' : Tok) (ot2 : Obj), v = .ref x ∧ Has ((x, instObj 66 dx) :: (dx, scD d2 .none) :: (a, instObj 104 da) :: (da, haD d l i9 t9) :: (l, ot2) :: (f.rn, runO f) :: (f.drn, runD f) :: (f.ct, ctrO f) :: (f.dct, ctrD f) :: (f.hp, heapO f) :: (f.dhp, heapD f n' tn') :: rest) news' ∧
      Above dx ((a, instObj 104 da) :: (da, haD d l i9 t9) :: (l, ot) :: (f.rn, runO f) :: (f.drn, runD f) :: (f.ct, ctrO f) :: (f.dct, ctrD f) :: (f.hp, heapO f) :: (f.dhp, heapD f n tn) :: rest) ∧ dx < x ∧ ot2.IsDictOf (strKind prog w) (kvs ++ [(k, .ref x)])) (fun xx9 => False) := by
  refine helem_wrap ok (at_ 0 rfl) (at_ 1 rfl) (at_ 3 rfl) (at_ 4 rfl) ?_
  k_dflt (refine' Tel.ofM (dn := 36) (un' := 157) ?k6 ?k7 ?k9 ?kB ?c2 ?c3 ?c4 ?c5 ?_; (case k6 => k_is); (case k7 => k_is); (case k9 => exact fun s X => BindsTo.of_eq rfl); (case kB => exact locs rfl); (case c5 => decide); (case c2 => exact rfl); (case c3 => exact rfl); (case c4 => exact rfl))
  intro Q Z q1 _ _ Γ
  refine M.getOwn (at_ 0 rfl) (at_ 1 rfl) gaA.2.2.1 rfl rfl ?_
  refine M.notIn true (at_ 2 rfl) hot hl (by rw [hy]; rfl) ?_
  refine M.meth (at_ 5 rfl) (at_ 6 rfl) me_c.2.2.2.1 rfl rfl ?_
  refine M.tel (fresh_tel (f := f) (n := n) (tn := tn) (rest := (a, instObj 104 da) :: (da, haD d l i9 t9) :: (l, ot) :: (f.rn, runO f) :: (f.drn, runD f) :: rest) (a2 _ (List.mem_of_getElem? (i := 7) rfl)) (a2 _ (List.mem_of_getElem? (i := 5) rfl)) (a2 _ (List.mem_of_getElem? (i := 6) rfl)) (ne_app (ne_map (l := [(a, instObj 104 da), (da, haD d l i9 t9), (l, ot), (f.rn, runO f), (f.drn, runD f)]) (a2.pick [0, 1, 2, 3, 4] rfl)) b2)) (perm [5, 6, 7, 8, 0, 1, 2, 3, 4] 9 rfl) (Nat.le_of_ble_eq_true rfl) (Nat.le_of_ble_eq_true rfl) (fun xx9 h => h.elim) ?_
  rintro _ G1 ⟨x, dx, d2, n', tn', rfl, hs, ab, p1, p2, p3, p4, p5⟩
  have hlx := ab _ (at_ 2 rfl)
  refine M.getOwn (hs _ (at_ 6 rfl)) (hs _ (at_ 7 rfl)) gaA.2.2.1 rfl rfl ?_
  refine M.led (c := .si _ _ _) ((l, ot) :: (x, instObj 66 dx) :: (dx, scD d2 .none) :: (f.ct, ctrO f) :: (f.dct, ctrD f) :: (f.hp, heapO f) :: (f.dhp, heapD f n' tn') :: (a, instObj 104 da) :: (da, haD d l i9 t9) :: (f.rn, runO f) :: (f.drn, runD f) :: rest) (by exact trivial) (Has.trans (perm (G := (x, instObj 66 dx) :: (dx, scD d2 .none) :: (f.ct, ctrO f) :: (f.dct, ctrD f) :: (f.hp, heapO f) :: (f.dhp, heapD f n' tn') :: (a, instObj 104 da) :: (da, haD d l i9 t9) :: (l, ot) :: (f.rn, runO f) :: (f.drn, runD f) :: rest) [8, 0, 1, 2, 3, 4, 5, 6, 7, 9, 10] 11 rfl) hs) ?_
  refine M.dSet (.head (ne_cons (Nat.ne_of_gt (Nat.lt_trans hlx p5)) (ne_cons (Nat.ne_of_gt hlx) (ne_app (ne_map (l := [(f.ct, ctrO f), (f.dct, ctrD f), (f.hp, heapO f), (f.dhp, heapD f n' tn'), (a, instObj 104 da), (da, haD d l i9 t9), (f.rn, runO f), (f.drn, runD f)]) (a1.pick [4, 5, 6, 7, 0, 1, 2, 3] rfl)) b1)))) hot hy hsz fun ot2 ho2 => ?_
  refine M.getOwn (at_ 7 rfl) (at_ 8 rfl) gaA.2.2.1 rfl rfl ?_
  refine M.dItem (at_ 0 rfl) ho2 (valueAt_snoc hy) (by with_unfolding_all rfl) ?_
  exact q1 _ _ _ ⟨x, dx, d2, n', tn', ot2, rfl, perm [1, 2, 7, 8, 0, 9, 10, 3, 4, 5, 6] 11 rfl, above_cons (ab _ (at_ 0 rfl)) (above_cons (ab _ (at_ 1 rfl)) (above_cons hlx (above_cons (ab _ (at_ 3 rfl)) (above_cons (ab _ (at_ 4 rfl)) (above_cons p1 (above_cons p2 (above_cons p3 (above_cons p4 fun p hp => ab p (.tail _ (.tail _ (.tail _ (.tail _ (.tail _ hp))))))))))))), p5, ho2⟩
noncomputable def elemAt (vs : Array Value) (q : Int) : Value := if 0 ≤ q then (vs[q.toNat]?).getD .none else .none
theorem elemAt_in {vs : Array Value} {q : Int} {v : Value} (h : 0 ≤ q) (hx : vs[q.toNat]? = some v) : v = elemAt vs q := by unfold elemAt; rw [if_pos h, hx]; rfl
theorem elemAt_out {vs : Array Value} {q : Int} (h : q < 0 ∨ vs.size ≤ q) : Value.none = elemAt vs q := by
  unfold elemAt
  by_cases h0 : 0 ≤ q
  · rw [if_pos h0, Array.getElem?_eq_none (by omega)]; rfl
  · rw [if_neg h0]
theorem elem_of_tel {prog : Program} {w : World} {a da l e : Nat} {d : TD} {vs : Array Value} {i q : Int} {ti : Tok} {rest : Led} (hvs : vs.size ≤ 8) (hq : placeOf vs.size i = q) :
  Tel prog w 441 [.ref a, .int i ti] 10 60 ((a, instObj 85 da) :: (da, arD d l) :: (l, listOf vs e) :: rest) (fun v news' => v = elemAt vs q ∧ Has ((a, instObj 85 da) :: (da, arD d l) :: (l, listOf vs e) :: rest) news') (fun xx9 => False) := by
  k_dflt (refine' Tel.ofM (dn := 9) (un' := 57) ?k6 ?k7 ?k9 ?kB ?c2 ?c3 ?c4 ?c5 ?_; (case k6 => k_is); (case k7 => k_is); (case k9 => exact fun s X => BindsTo.of_eq rfl); (case kB => exact locs rfl); (case c5 => decide); (case c2 => exact rfl); (case c3 => exact rfl); (case c4 => exact rfl))
  intro Q Z q1 _ _ Γ
  refine M.getOwn (at_ 0 rfl) (at_ 1 rfl) gaA.2.1 rfl rfl ?_
  refine M.isNot false rfl ?_
  refine M.tel (place_at (at_ 0 rfl) (at_ 1 rfl) (at_ 2 rfl) hvs hq) (fun xx9 h => h) (Nat.le_of_ble_eq_true rfl) (Nat.le_of_ble_eq_true rfl) (fun xx9 h => h.elim) ?_
  rintro _ _ ⟨tk, rfl, rfl⟩
  intro t1
  cases e1 : decide (0 ≤ q) with
  | false =>
    refine M.le false e1 ?_
    exact q1 _ _ _ ⟨elemAt_out (.inl (Int.not_le.mp (of_decide_eq_false e1))), fun xx9 h => h⟩
  | true =>
    have h0 := of_decide_eq_true e1
    refine M.le true e1 ?_
    refine M.getOwn (at_ 0 rfl) (at_ 1 rfl) gaA.1 rfl rfl ?_
    refine M.len (at_ 2 rfl) (Nat.le_trans hvs (by decide)) fun t3 => ?_
    cases e2 : decide (q < vs.size) with
    | false =>
      refine M.lt false e2 ?_
      exact q1 _ _ _ ⟨elemAt_out (.inr (Int.not_lt.mp (of_decide_eq_false e2))), fun xx9 h => h⟩
    | true =>
      have h2 := of_decide_eq_true e2
      refine M.lt true e2 ?_
      refine M.getOwn (at_ 0 rfl) (at_ 1 rfl) gaA.1 rfl rfl ?_
      have hx : vs[q.toNat]? = some (vs[q.toNat]'(by omega)) := Array.getElem?_eq_getElem _
      refine M.item (at_ 2 rfl) h0 (Nat.le_trans hvs (by decide)) hx (by with_unfolding_all rfl) ?_
      exact q1 _ _ _ ⟨elemAt_in h0 hx, fun xx9 h => h⟩
theorem helem_of_tel {prog : Program} {w : World} {a da l : Nat} {d : TD} {i9 : Int} {t9 : Tok} {ot : Obj} {kvs : List (Str × Value)} {k : Str} {tk : Tok} {rest : Led} (hot : ot.IsDictOf (strKind prog w) kvs) (hl : 1 < l) :
  Tel prog w 448 [.ref a, .str k tk] 10 60 ((a, instObj 104 da) :: (da, haD d l i9 t9) :: (l, ot) :: rest) (fun v news' => v = (valueAt kvs k).getD .none ∧ Has ((a, instObj 104 da) :: (da, haD d l i9 t9) :: (l, ot) :: rest) news') (fun xx9 => False) := by
  k_dflt (refine' Tel.ofM (dn := 9) (un' := 57) ?k6 ?k7 ?k9 ?kB ?c2 ?c3 ?c4 ?c5 ?_; (case k6 => k_is); (case k7 => k_is); (case k9 => exact fun s X => BindsTo.of_eq rfl); (case kB => exact locs rfl); (case c5 => decide); (case c2 => exact rfl); (case c3 => exact rfl); (case c4 => exact rfl))
  intro Q Z q1 _ _ Γ
  refine M.getOwn (at_ 0 rfl) (at_ 1 rfl) gaA.2.2.2 rfl rfl ?_
  refine M.isNot false rfl ?_
  refine M.getOwn (at_ 0 rfl) (at_ 1 rfl) gaA.2.2.1 rfl rfl ?_
  refine M.methD (at_ 2 rfl) hot PySem.F.slot_dict_get PySem.F.type_dict_get rfl ?_
  refine M.dGet (at_ 2 rfl) hot hl rfl ?_
  exact q1 _ _ _ ⟨rfl, fun xx9 h => h⟩
end
section
section
variable {prog : Program} {w : World} {A : Around} {E : Value → Shared → Prop} {s : Shared} {env : Env} {h₀ : Heap} {target : PySem.Expr} {body : List Stmt} {Q : Flow → Shared → Prop}
theorem UnrEndW.mono {L : Addr} {its : Led} {r r' : (Str → Option Value) → Led → Prop} {s₁ s₂ : Shared} (h : UnrEndW h₀ L s₁ its r s₂) (f : ∀ m n, r m n → r' m n) : UnrEndW h₀ L s₁ its r' s₂ := by
  obtain ⟨h', tk, m', news', e, F, N, o, q⟩ := h
  exact ⟨h', tk, m', news', e, F, N, o, f _ _ q⟩
theorem items_ind {ws : List (Addr × String)} {keep : Led} (inv : List Value → (Str → Option Value) → Led → Prop)
    (h0 : ∀ m news, inv [] m news → ∀ h tk, Fr h₀ env.locals h m → News h₀ env.locals h news → Q .next { s with heap := h, toks := tk })
    (hc : ∀ v vs m news, inv (v :: vs) m news → ∀ h tk, Fr h₀ env.locals h m → AllObj ws (fun its => News h₀ env.locals h (its ++ news) →
      wpAny (model prog w) A (assign target env v) (fun xx9 s₂ => wpAny (model prog w) A (execs body env) (UnrPostW h₀ env.locals { s with heap := h, toks := tk } its (fun m' n' => SubL keep n' ∧ inv vs m' n') Q) E s₂) E { s with heap := h, toks := tk })) :
    ∀ vs m news, inv vs m news → ItemsRest prog w A E h₀ env target body Q s ws keep (vs.map .val) m news
  | [], m, news, hi => ItemsRest.zero (h0 m news hi)
  | v :: vs, m, news, hi => by
    refine ItemsRest.val fun h tk F => ?_
    have H := hc v vs m news hi h tk F
    have all : ∀ (ws : List (Addr × String)) (k k' : Led → Prop), (∀ its, k its → k' its) → AllObj ws k → AllObj ws k' := by
      intro ws
      induction ws with
      | nil => exact fun k k' f h => f _ h
      | cons q r ih => exact fun k k' f h o ho => ih _ _ (fun its => f _) (h o ho)
    refine all _ _ _ (fun its g N => ?_) H
    refine wpAny_mono (g N) (fun xx9 s₂ h₂ => wpAny_mono h₂ (fun fl s₃ p => ?_) fun xx9 xx9 e => e) fun xx9 xx9 e => e
    cases fl with
    | ret v => exact p
    | brk => exact p
    | next => exact UnrEndW.mono p fun m n q => ⟨q.1, items_ind inv h0 hc vs m n q.2⟩
    | cont => exact UnrEndW.mono p fun m n q => ⟨q.1, items_ind inv h0 hc vs m n q.2⟩
end
section
variable {prog : Program} {w : World} {φ : Fn} {dn un' : Nat} {m : Str → Option Value} {G : Led} {Z : Led → Prop} {QF : Flow → (Str → Option Value) → Led → Prop}
theorem R.forList {x : Str} {px pos : Pos} {target : PySem.Expr} {body rest : List Stmt} {pl e : Nat} {vs : List Value} (hx : m x = some (.ref pl)) (hk : (φ.env 0).kindOf x = some .local) (hs : φ.ok) (hd : (x == ("__debug__" : Str)) = false) (hp : (pl, listOf vs.toArray e) ∈ G)
    (inv : Nat → List Value → (Str → Option Value) → Led → Prop) (h0 : ∀ I, Above I G → inv I vs m G)
    (turn : ∀ I o v vs' m1 G1, inv I (v :: vs') m1 G1 → Wt prog w φ dn un' (fun env => PySem.assign target env v) m1 ((I, o) :: G1) (fun xx9 m2 G2 => R.Ws prog w φ dn un' body m2 G2 (fun fl m3 G3 => match fl with | .ret u => QF (.ret u) m3 G3 | .brk => False | _ => ∃ G4, Has ((I, o) :: G4) G3 ∧ (∀ p ∈ G4, p.1 ≠ I) ∧ (pl, listOf vs.toArray e) ∈ G4 ∧ inv I vs' m3 G4) Z) Z)
    (done : ∀ I m1 G1, inv I [] m1 G1 → R.Ws prog w φ dn un' rest m1 G1 QF Z) : R.Ws prog w φ dn un' (.For target (.Name x px) body [] pos :: rest) m G QF Z := R.cons (by
  obtain ⟨q9, sc9, fa9, cd9, cl9, fix9, tr9, tp9⟩ := φ
  obtain rfl : tr9 = Option.none := hs.tr
  intro p loose mean mg mb dp un gd outer A₀ base h₀ L s Q' E' B F X N T hd' hu ret exc
  refine For_turns (hE := hu.2.1) (env := envX q9 sc9 L fa9 cd9 cl9) F (nameX_L (cl := cl9) F hx ?_ hs.fn hk (by assumption))
  refine iter_listTurns (env := envX q9 sc9 L fa9 cd9 cl9) rfl F N hp rfl rfl fun I hI => ?_
  refine items_ind (inv := fun vs1 m1 G1 => inv I vs1 m1 G1) ?_ ?_ vs _ _ (h0 I hI)
  · intro m1 G1 hi h tk F1 N1
    exact ret .next m1 G1 h tk F1 N1 (done I m1 G1 hi)
  · intro v vs1 m1 G1 hi h tk F1
    refine AllObj.cons fun o xx9 => AllObj.nil fun N1 => ?_
    refine turn I o v vs1 m1 G1 hi p loose mean mg mb dp un gd outer A₀ base h₀ L { s with heap := h, toks := tk } _ E' B F1 X N1 T hd' hu (fun xx9 m2 G2 h2 t2 F2 N2 q => ?_) exc
    refine q p loose mean mg mb dp un gd outer A₀ base h₀ L { s with heap := h2, toks := t2 } _ E' B F2 X N2 T hd' hu (fun fl m3 G3 h3 t3 F3 N3 q => ?_) exc
    have back : (∃ G4, Has ((I, o) :: G4) G3 ∧ (∀ p ∈ G4, p.1 ≠ I) ∧ (pl, listOf vs.toArray e) ∈ G4 ∧ inv I vs1 m3 G4) → UnrEndW h₀ L { s with heap := h, toks := tk } [(I, o)] (fun m' n' => SubL [(pl, listOf vs.toArray e)] n' ∧ inv I vs1 m' n') { s with heap := h3, toks := t3 } := fun ⟨G4, hs4, off, hm, hv⟩ =>
      ⟨h3, t3, m3, G4, rfl, F3, News.has N3 hs4, (fun p hp q hq => by rw [List.mem_singleton.mp hq]; exact off p hp), ⟨hm, trivial⟩, hv⟩
    cases fl with
    | ret u => exact ret (.ret u) m3 G3 h3 t3 F3 N3 q
    | brk => exact q.elim
    | next => exact back q
    | cont => exact back q)
end
theorem Cx.W_look {Γ : Cx} {c : Mc} {K : List Fm} {ml ml' : Ml} {G : Led} (e : look ml = look ml') (h : Γ.W c K ml G) : Γ.W c K ml' G := by
  unfold Cx.W at *
  rwa [e] at h
namespace M
variable {Γ : Cx} {K : List Fm} {ml : Ml} {G : Led}
theorem lets {n : Nat} {c : Mc} (h : let Γ' := Γ; let m := ml; let g := G; Cx.N Γ' n c K m g) : Γ.N n c K ml G := h
theorem forPairs {x x1 x2 : Str} {px p1 p2 tp pos : Pos} {k : Nat} {body rest : List Stmt} {pl e : Nat} {vs : List Value} (hx : ml.l.lookup x = some (.ref pl)) (hk : (Γ.φ.env 0).kindOf x = some .local) (hd : (x == ("__debug__" : Str)) = false) (hp : (pl, listOf vs.toArray e) ∈ G) (k1 : (Γ.φ.env 0).kindOf x1 = some .local) (k2 : (Γ.φ.env 0).kindOf x2 = some .local)
    (inv : Nat → List Value → (Str → Option Value) → Led → Prop) (h0 : ∀ I, Above I G → inv I vs (look ml) G)
    (turn : ∀ I v vs' m1 G1, inv I (v :: vs') m1 G1 → ∃ T n a b l, v = .ref T ∧ (T, ({ cls := .type "tuple", data := .seq #[a, b] n } : Obj)) ∈ G1 ∧ look ⟨l, m1⟩ = m1 ∧ ∀ o (Q2 : Flow → (Str → Option Value) → Led → Prop), (∀ u m3 G3, Γ.run K (.f (.ret u)) m3 G3 → Q2 (.ret u) m3 G3) → (∀ m3 G3, (∃ G4, Has ((I, o) :: G4) G3 ∧ (∀ p ∈ G4, p.1 ≠ I) ∧ (pl, listOf vs.toArray e) ∈ G4 ∧ inv I vs' m3 G4) → Q2 .next m3 G3) → Cx.W (Γ.wQ Q2) (.st body) [] ⟨(x2, b) :: (x1, a) :: l, m1⟩ ((I, o) :: G1))
    (done : ∀ I m1 G1, inv I [] m1 G1 → ∃ l, look ⟨l, m1⟩ = m1 ∧ Γ.N 90 (.st rest) K ⟨l, m1⟩ G1) (ht : Γ.φ.tr = Option.none := by rfl) : Γ.W (.st (.For (.Tuple [.Name x1 p1, .Name x2 p2] k tp) (.Name x px) body [] pos :: rest)) K ml G := by
  refine R.forList (look_at hx) hk (Cx.ok ht) hd hp inv h0 (fun I o v vs' m1 G1 hi => ?_) fun I m1 G1 hi => ?_
  · obtain ⟨T, n, a, b, l, rfl, hT, hl, h⟩ := turn I v vs' m1 G1 hi
    refine R.unpack2 (.tail _ hT) k1 k2 (Cx.ok ht) ?_
    have h := h o (fun fl m3 G3 => match fl with | .ret u => Γ.run K (.f (.ret u)) m3 G3 | .brk => False | _ => ∃ G4, Has ((I, o) :: G4) G3 ∧ (∀ p ∈ G4, p.1 ≠ I) ∧ (pl, listOf vs.toArray e) ∈ G4 ∧ inv I vs' m3 G4) (fun xx9 xx9 xx9 q => q) fun xx9 xx9 q => q
    have e : look ⟨(x2, b) :: (x1, a) :: l, m1⟩ = upd (upd m1 x1 a) x2 b := by
      rw [show (⟨(x2, b) :: (x1, a) :: l, m1⟩ : Ml) = Ml.add (Ml.add ⟨l, m1⟩ x1 a) x2 b from rfl, look_add, look_add, hl]
    unfold Cx.W at h
    rw [e] at h
    refine Wt.mono h (fun fl m3 G3 q => ?_) fun xx9 => id
    cases fl <;> exact q
  · obtain ⟨l, hl, h⟩ := done I m1 G1 hi
    have h := Cx.N_ok h
    unfold Cx.W at h
    rwa [hl] at h
end M
end
section
noncomputable def pull : Led → Nat → Option ((Addr × Obj) × Led)
  | [], _ => Option.none
  | p :: r, 0 => some (p, r)
  | p :: r, k + 1 => match pull r k with | some x => some (x.1, p :: x.2) | Option.none => Option.none
theorem ext_of {p : Addr × Obj} : ∀ {l : Led} (k : Nat) {r : Led}, pull l k = some (p, r) → Ext p l r
  | [], _, _, h => by cases h
  | q :: l, 0, r, h => by cases h; exact .here
  | q :: l, k + 1, r, h => by
    unfold pull at h
    cases e : pull l k with
    | none => rw [e] at h; cases h
    | some x => rw [e] at h; cases h; exact .there (ext_of k e)
noncomputable def pulls : List Nat → Led → Option Led
  | [], l => some l
  | k :: ks, l => match pull l k with | some x => (match pulls ks x.2 with | some T => some (x.1 :: T) | Option.none => Option.none) | Option.none => Option.none
theorem fits_of : ∀ (ks : List Nat) {T l : Led}, pulls ks l = some T → Fits T l
  | [], T, l, h => by cases h; exact .last
  | k :: ks, T, l, h => by
    unfold pulls at h
    cases e : pull l k with
    | none => rw [e] at h; cases h
    | some x =>
      rw [e] at h
      dsimp only at h
      cases e2 : pulls ks x.2 with
      | none => rw [e2] at h; cases h
      | some T2 => rw [e2] at h; cases h; exact .cons (ext_of k e) (fits_of ks e2)
theorem apart_of {r : Led} {d : Nat} {l : List Nat} (K : ∀ (y : Addr) (o' : Obj), (y, o') ∈ r → y ≠ d) (ks : List Nat) (h : ks.map (fun k => (nth r k).map Prod.fst) = l.map some) : Apart d l := by
  intro x hx
  have q : some x ∈ l.map some := List.mem_map_of_mem hx
  rw [← h] at q
  obtain ⟨k, -, e⟩ := List.mem_map.mp q
  obtain ⟨p, e1, e2⟩ := Option.map_eq_some_iff.mp e
  exact K x p.2 (e2 ▸ at_ k e1)
inductive All2 {α β : Type} (R : α → β → Prop) : List α → List β → Prop
  | nil : All2 R [] []
  | cons {a b as bs} : R a b → All2 R as bs → All2 R (a :: as) (b :: bs)
namespace All2
variable {α β : Type} {R : α → β → Prop}
theorem length {as : List α} {bs : List β} (h : All2 R as bs) : as.length = bs.length := by
  induction h with
  | nil => rfl
  | cons _ _ ih => exact congrArg Nat.succ ih
theorem mono {R' : α → β → Prop} (f : ∀ a b, R a b → R' a b) {as : List α} {bs : List β} (h : All2 R as bs) : All2 R' as bs := by
  induction h with
  | nil => exact .nil
  | cons h _ ih => exact .cons (f _ _ h) ih
theorem append {as as' : List α} {bs bs' : List β} (h : All2 R as bs) (k : All2 R as' bs') : All2 R (as ++ as') (bs ++ bs') := by
  induction h with
  | nil => exact k
  | cons h _ ih => exact .cons h ih
theorem get {as : List α} {bs : List β} {i : Nat} {b : β} (h : All2 R as bs) (e : bs[i]? = some b) : ∃ a, as[i]? = some a ∧ R a b := by
  induction h generalizing i with
  | nil => cases e
  | cons h _ ih =>
    cases i with
    | zero => cases e; exact ⟨_, rfl, h⟩
    | succ i => exact ih e
theorem set {b : β} {a : α} (hab : R a b) {as : List α} {bs : List β} (i : Nat) (h : All2 R as bs) : All2 R (as.set i a) (bs.set i b) := by
  induction h generalizing i with
  | nil => exact .nil
  | cons h r ih =>
    cases i with
    | zero => exact .cons hab r
    | succ i => exact .cons h (ih i)
theorem replicate {a : α} {b : β} (hab : R a b) : ∀ k, All2 R (List.replicate k a) (List.replicate k b)
  | 0 => .nil
  | k + 1 => .cons hab (replicate hab k)
end All2
inductive Cont where
  | none
  | int (n : Int)
  | str (s : Str)
  | arr (items : List (Option Nat))
  | hash (kvs : List (Str × Nat))
  | sc (c : Nat)
inductive PB where
  | none
  | int (n : Int) (t : Tok)
  | str (s : Str) (t : Tok)
  | arr (r dr a da l e : Nat) (rd : RD) (td : TD) (vs : Array Value)
  | hash (r dr a da l : Nat) (rd : RD) (td : TD) (i9 : Int) (t9 : Tok) (ot : Obj) (kvs : List (Str × Value))
  | sc (r dr y : Nat) (rd : RD)
structure PN where
  x : Nat
  dx : Nat
  d : TD
  b : PB
noncomputable def PB.val : PB → Value
  | .none => .none
  | .int n t => .int n t
  | .str s t => .str s t
  | .arr r .. => .ref r
  | .hash r .. => .ref r
  | .sc r .. => .ref r
noncomputable def PB.led : PB → Led
  | .none | .int _ _ | .str _ _ => []
  | .arr r dr a da l e rd td vs => [(r, instObj 162 dr), (dr, refD rd a), (a, instObj 85 da), (da, arD td l), (l, listOf vs e)]
  | .hash r dr a da l rd td i9 t9 ot _ => [(r, instObj 162 dr), (dr, refD rd a), (a, instObj 104 da), (da, haD td l i9 t9), (l, ot)]
  | .sc r dr y rd => [(r, instObj 162 dr), (dr, refD rd y)]
noncomputable def PN.blk (n : PN) : Led := (n.x, instObj 66 n.dx) :: (n.dx, scD n.d n.b.val) :: n.b.led
noncomputable abbrev Xof (ps : List PN) (c : Nat) : Option Nat := (ps[c]?).map PN.x
noncomputable def ItemR (X : Nat → Option Nat) (v : Value) (o : Option Nat) : Prop := match o with | .none => v = .none | .some c => ∃ y, X c = some y ∧ v = .ref y
noncomputable def KvR (X : Nat → Option Nat) (p : Str × Value) (q : Str × Nat) : Prop := p.1 = q.1 ∧ ∃ y, X q.2 = some y ∧ p.2 = .ref y
noncomputable def CM (prog : Program) (w : World) (X : Nat → Option Nat) : PB → Cont → Prop
  | .none, .none => True
  | .int n _, .int m => n = m ∧ 0 ≤ n ∧ n < 1000
  | .str s _, .str s' => s = s' ∧ s.length ≤ 10
  | .arr _ _ _ _ _ _ _ _ vs, .arr items => vs.size ≤ 8 ∧ All2 (ItemR X) vs.toList items
  | .hash _ _ _ _ l _ _ _ _ ot kvs, .hash ks => ot.IsDictOf (strKind prog w) kvs ∧ 1 < l ∧ All2 (KvR X) kvs ks
  | .sc _ _ y _, .sc c => X c = some y
  | _, _ => False
theorem ItemR.mono {X Y : Nat → Option Nat} (h : ∀ c y, X c = some y → Y c = some y) (v : Value) (o : Option Nat) (q : ItemR X v o) : ItemR Y v o := by
  cases o with
  | none => exact q
  | some c => obtain ⟨y, a, b⟩ := q; exact ⟨y, h _ _ a, b⟩
theorem KvR.mono {X Y : Nat → Option Nat} (h : ∀ c y, X c = some y → Y c = some y) (p : Str × Value) (o : Str × Nat) (q : KvR X p o) : KvR Y p o := by
  obtain ⟨e, y, a, b⟩ := q; exact ⟨e, y, h _ _ a, b⟩
theorem CM.mono {prog : Program} {w : World} {X Y : Nat → Option Nat} (h : ∀ c y, X c = some y → Y c = some y) {b : PB} {c : Cont} (q : CM prog w X b c) : CM prog w Y b c := by
  cases b <;> cases c <;> first | exact q | exact ⟨q.1, q.2.mono (ItemR.mono h)⟩ | exact ⟨q.1, q.2.1, q.2.2.mono (KvR.mono h)⟩ | exact h _ _ q
structure PS where
  ps : List PN
  n : Int
  tn : Tok
  zs : Array Value
  ze : Nat
noncomputable abbrev fixedL (f : Fix) (n : Int) (tn : Tok) (zs : Array Value) (ze : Nat) (T : Led) : Led :=
  (f.rn, runO f) :: (f.drn, runD f) :: (f.li, limO f) :: (f.dli, limD f) :: (f.ct, ctrO f) :: (f.dct, ctrD f) :: (f.hp, heapO f) :: (f.dhp, heapD f n tn) :: (f.pl, f.po) :: (f.zr, listOf zs ze) :: T
noncomputable def PS.led (f : Fix) (S : PS) (R : Led) : Led := fixedL f S.n S.tn S.zs S.ze (S.ps.flatMap PN.blk ++ R)
noncomputable def Uq (l : Led) : Prop := (l.map (·.1)).Nodup
structure PGood (prog : Program) (w : World) (f : Fix) (S : PS) (R : Led) (σ : List Cont) : Prop where
  uq : Uq (S.led f R)
  len : S.ps.length = σ.length
  cm : ∀ (j : Nat) (n : PN) (c : Cont), S.ps[j]? = some n → σ[j]? = some c → CM prog w (Xof S.ps) n.b c
theorem Ext.perm {p : Addr × Obj} {l r : Led} (h : Ext p l r) : l.Perm (p :: r) := by
  induction h with
  | here => exact .refl _
  | there _ ih => exact (ih.cons _).trans (.swap _ _ _)
theorem Fits.perm {T l : Led} (h : Fits T l) : l.Perm T := by
  induction h with
  | last => exact .refl _
  | cons e _ ih => exact e.perm.trans (ih.cons _)
theorem Uq.perm {l l' : Led} (h : Uq l) (p : l.Perm l') : Uq l' := (p.map _).nodup_iff.mp h
theorem Uq.fit {l l' : Led} (h : Uq l) (p : Fits l' l) : Uq l' := h.perm p.perm
theorem Uq.addr {l l' : Led} (h : Uq l) (e : l'.map (·.1) = l.map (·.1)) : Uq l' := by unfold Uq; rw [e]; exact h
theorem Uq.push {d : Nat} {o : Obj} {l : Led} (h : Uq l) (q : Above d l) : Uq ((d, o) :: l) := by
  unfold Uq at *
  rw [List.map_cons, List.nodup_cons]
  refine ⟨fun hm => ?_, h⟩
  obtain ⟨p, hp, e⟩ := List.mem_map.mp hm
  have h1 : p.1 < d := q p hp
  have h2 : p.1 = d := e
  exact absurd h1 (h2 ▸ Nat.lt_irrefl _)
theorem Uq.ne {d : Addr} {o : Obj} {l r : Led} (h : Uq l) (e : Ext (d, o) l r) : ∀ y o', (y, o') ∈ r → y ≠ d := by
  have h' := h.perm e.perm
  unfold Uq at h'
  rw [List.map_cons, List.nodup_cons] at h'
  exact fun y o' hy e' => h'.1 (List.mem_map.mpr ⟨_, hy, e'⟩)
theorem has_perm {l l' : Led} (p : l.Perm l') : Has l' l := fun q hq => p.mem_iff.mpr hq
theorem has_perm' {l l' : Led} (p : l.Perm l') : Has l l' := fun q hq => p.mem_iff.mp hq
theorem led_split {f : Fix} {pre post : List PN} {n : PN} {i : Int} {tn : Tok} {zs : Array Value} {ze : Nat} {R : Led} :
    (PS.led f ⟨pre ++ n :: post, i, tn, zs, ze⟩ R).Perm (n.blk ++ fixedL f i tn zs ze (pre.flatMap PN.blk ++ (post.flatMap PN.blk ++ R))) := by
  unfold PS.led
  have h1 : ((pre ++ n :: post).flatMap PN.blk ++ R).Perm (n.blk ++ (pre.flatMap PN.blk ++ (post.flatMap PN.blk ++ R))) := by
    rw [List.flatMap_append, List.flatMap_cons, List.append_assoc, List.append_assoc]
    rw [← List.append_assoc, ← List.append_assoc n.blk]
    exact List.perm_append_comm.append_right _
  have h2 : ∀ (A : Led) (T : Led), (A ++ (n.blk ++ T)).Perm (n.blk ++ (A ++ T)) := fun A T => by
    rw [← List.append_assoc, ← List.append_assoc]
    exact List.perm_append_comm.append_right _
  exact (h1.append_left [(f.rn, runO f), (f.drn, runD f), (f.li, limO f), (f.dli, limD f), (f.ct, ctrO f), (f.dct, ctrD f), (f.hp, heapO f), (f.dhp, heapD f i tn), (f.pl, f.po), (f.zr, listOf zs ze)]).trans (h2 _ _)
theorem led_snoc {f : Fix} {pre post : List PN} {n c : PN} {i : Int} {tn : Tok} {zs : Array Value} {ze : Nat} {R : Led} :
    (PS.led f ⟨pre ++ n :: (post ++ [c]), i, tn, zs, ze⟩ R).Perm (n.blk ++ fixedL f i tn zs ze (pre.flatMap PN.blk ++ (post.flatMap PN.blk ++ (c.blk ++ R)))) := by
  have h := @led_split f pre (post ++ [c]) n i tn zs ze R
  rw [List.flatMap_append, List.append_assoc] at h
  have e : [c].flatMap PN.blk ++ R = c.blk ++ R := by simp
  rw [e] at h
  exact h
theorem split_at {α : Type} {l : List α} {j : Nat} {a : α} (h : l[j]? = some a) : ∃ pre post, l = pre ++ a :: post ∧ pre.length = j := by
  obtain ⟨hj, e⟩ := List.getElem?_eq_some_iff.mp h
  refine ⟨l.take j, l.drop (j + 1), ?_, by simp; omega⟩
  rw [← e, List.getElem_cons_drop, List.take_append_drop]
theorem Tel.mono {prog : Program} {w : World} {f : Addr} {args : List Value} {dn un' : Nat} {l l' : Led} {post post' : Value → Led → Prop} {exc exc' : Led → Prop} (C : Tel prog w f args dn un' l post exc) (hs : Has l l') (hp : ∀ v n, post v n → post' v n) (he : ∀ n, exc n → exc' n) :
    Tel prog w f args dn un' l' post' exc' := by
  intro p loose mean mg mb dp un gd cn cs a9 ccd cl outer A₀ base h₀ L m s Q E B F X N T hk hd hu ret exc
  exact C.use B F X (News.has N hs) T hk hd hu (fun r n h tk F' N' q => ret r n h tk F' N' (hp _ _ q)) fun e n g h tk F' U R q => exc e n g h tk F' U R (he _ q)
end
section
theorem apart_mem {r : Led} {d x : Nat} {o : Obj} {l : List Nat} (K : ∀ (y : Addr) (o' : Obj), (y, o') ∈ r → y ≠ d) (h : (x, o) ∈ r) (t : Apart d l) : Apart d (x :: l) := apart_cons (K _ _ h) t
inductive Kd where | A | H | S
  deriving DecidableEq
noncomputable def Kd.str : Kd → Str | .A => "A" | .H => "H" | .S => "S"
noncomputable def Cont.kd : Cont → Option Kd | .arr _ => some .A | .hash _ => some .H | .sc _ => some .S | _ => Option.none
noncomputable def vivS (σ : List Cont) (j : Nat) (k : Kd) : Option (List Cont) :=
  match σ[j]? with
  | some .none => match k with
    | .A => some (σ.set j (.arr []))
    | .H => some (σ.set j (.hash []))
    | .S => some ((σ ++ [Cont.none]).set j (.sc σ.length))
  | some c => if c.kd = some k then some σ else Option.none
  | Option.none => Option.none
noncomputable def PB.thing : PB → Nat
  | .arr _ _ a .. => a
  | .hash _ _ a .. => a
  | .sc _ _ y _ => y
  | _ => 0
noncomputable abbrev CMs (prog : Program) (w : World) (ps : List PN) (σ : List Cont) : Prop := ∀ (j : Nat) (n : PN) (c : Cont), ps[j]? = some n → σ[j]? = some c → CM prog w (Xof ps) n.b c
theorem Xof_set {ps : List PN} {j : Nat} {n n' : PN} (hn : ps[j]? = some n) (hx : n'.x = n.x) : Xof (ps.set j n') = Xof ps := by
  funext c
  unfold Xof
  obtain ⟨hj, e⟩ := List.getElem?_eq_some_iff.mp hn
  by_cases h : j = c
  · subst h
    rw [List.getElem?_set_self hj, hn]; simp [hx]
  · rw [List.getElem?_set_ne h]
theorem Xof_add {ps : List PN} {m : PN} : ∀ c y, Xof ps c = some y → Xof (ps ++ [m]) c = some y := by
  intro c y h
  unfold Xof at *
  cases e : ps[c]? with
  | none => rw [e] at h; cases h
  | some n =>
    obtain ⟨hc, -⟩ := List.getElem?_eq_some_iff.mp e
    rw [List.getElem?_append_left hc]; exact h
theorem CMs.set {prog : Program} {w : World} {ps : List PN} {σ : List Cont} {j : Nat} {n n' : PN} {c' : Cont} (h : CMs prog w ps σ) (hn : ps[j]? = some n) (hx : n'.x = n.x) (new : CM prog w (Xof ps) n'.b c') : CMs prog w (ps.set j n') (σ.set j c') := by
  intro i m c h1 h2
  rw [Xof_set hn hx]
  by_cases hij : j = i
  · subst hij
    obtain ⟨hj, -⟩ := List.getElem?_eq_some_iff.mp hn
    have hj2 : j < σ.length := by
      obtain ⟨h3, -⟩ := List.getElem?_eq_some_iff.mp h2
      simpa using h3
    rw [List.getElem?_set_self hj] at h1
    rw [List.getElem?_set_self hj2] at h2
    cases h1; cases h2
    exact new
  · rw [List.getElem?_set_ne hij] at h1 h2
    exact h i m c h1 h2
theorem CMs.add {prog : Program} {w : World} {ps : List PN} {σ : List Cont} {m : PN} (h : CMs prog w ps σ) (hl : ps.length = σ.length) (hm : m.b = .none) : CMs prog w (ps ++ [m]) (σ ++ [.none]) := by
  intro i m' c h1 h2
  by_cases hi : i < ps.length
  · rw [List.getElem?_append_left hi] at h1
    rw [List.getElem?_append_left (by omega)] at h2
    exact (h i m' c h1 h2).mono Xof_add
  · rw [List.getElem?_append_right (by omega)] at h1 h2
    rw [hl] at h1
    cases e : i - σ.length with
    | zero =>
      rw [e] at h1 h2
      simp at h1 h2
      subst h1 h2
      rw [hm]
      exact trivial
    | succ k => rw [e] at h1; simp at h1
structure PStep (prog : Program) (w : World) (f : Fix) (S S' : PS) (R : Led) (σ' : List Cont) (news' : Led) : Prop where
  good : PGood prog w f S' R σ'
  has : Has (S'.led f R) news'
  keep : ∀ c y, Xof S.ps c = some y → Xof S'.ps c = some y
  zs : S'.zs = S.zs
  ze : S'.ze = S.ze
noncomputable def Chain : Nat → Led → Prop
  | _, [] => True
  | d, p :: ps => @LE.le Nat _ d p.1 ∧ Chain (@HAdd.hAdd Nat Nat Nat _ p.1 1) ps
theorem Uq.more : ∀ {new : Led} {d : Nat} {l : Led}, Uq l → Above d l → Chain d new → Uq (new ++ l)
  | [], _, _, h, _, _ => h
  | p :: ps, d, l, h, ab, ch => by
    have h1 : @LE.le Nat _ d p.1 := ch.1
    have ab1 : Above p.1 l := fun q hq => Nat.lt_of_lt_of_le (ab q hq) h1
    have U : Uq (p :: l) := h.push (d := p.1) (o := p.2) ab1
    have ab2 : Above (@HAdd.hAdd Nat Nat Nat _ p.1 1) (p :: l) := above_cons (Nat.lt_succ_self _) fun q hq => Nat.lt_succ_of_lt (ab1 q hq)
    exact (Uq.more U ab2 ch.2).perm List.perm_middle
noncomputable abbrev Zof (pre post : List PN) (R : Led) : Led := pre.flatMap PN.blk ++ (post.flatMap PN.blk ++ R)
theorem set_mid {α : Type} {pre post : List α} {n n' : α} : (pre ++ n :: post).set pre.length n' = pre ++ n' :: post := by simp
theorem set_mid2 {α : Type} {pre post : List α} {n n' c : α} : ((pre ++ n :: post) ++ [c]).set pre.length n' = pre ++ n' :: (post ++ [c]) := by simp
theorem snoc_perm {f : Fix} {pre post : List PN} {n : PN} {c R : Led} {i : Int} {tn : Tok} {zs : Array Value} {ze : Nat} :
    (n.blk ++ fixedL f i tn zs ze (pre.flatMap PN.blk ++ (post.flatMap PN.blk ++ (c ++ R)))).Perm (n.blk ++ fixedL f i tn zs ze (c ++ Zof pre post R)) := by
  refine List.Perm.append_left _ ?_
  have h : ∀ (A : Led), (pre.flatMap PN.blk ++ (post.flatMap PN.blk ++ (c ++ R))).Perm (c ++ Zof pre post R) := fun xx9 => by
    unfold Zof
    rw [← List.append_assoc, ← List.append_assoc, ← List.append_assoc c, ← List.append_assoc]
    refine List.Perm.append_right _ ?_
    rw [List.append_assoc, List.append_assoc]
    have h1 := @List.perm_append_comm _ (pre.flatMap PN.blk ++ post.flatMap PN.blk) c
    rw [List.append_assoc] at h1
    exact h1
  exact (h []).append_left [(f.rn, runO f), (f.drn, runD f), (f.li, limO f), (f.dli, limD f), (f.ct, ctrO f), (f.dct, ctrD f), (f.hp, heapO f), (f.dhp, heapD f i tn), (f.pl, f.po), (f.zr, listOf zs ze)]
noncomputable abbrev vT (f : Fix) (x dx : Nat) (o : Obj) (i : Int) (tn : Tok) (zs : Array Value) (ze : Nat) (Z : Led) : Led :=
  (x, instObj 66 dx) :: (dx, o) :: (f.rn, runO f) :: (f.drn, runD f) :: (f.ct, ctrO f) :: (f.dct, ctrD f) :: (f.hp, heapO f) :: (f.dhp, heapD f i tn) :: (f.pl, f.po) :: (f.li, limO f) :: (f.dli, limD f) :: (f.zr, listOf zs ze) :: Z
theorem viv_s_none_A {prog : Program} {w : World} {f : Fix} {S : PS} {R : Led} {σ : List Cont} {j x : Nat} {tk : Tok} (ok : f.Ok prog w) (G : PGood prog w f S R σ) (hx : Xof S.ps j = some x) (hc : σ[j]? = some .none) :
    Tel prog w 420 [.ref f.rn, .ref x, .str "A" tk] 30 150 (S.led f R)
      (fun v news' => ∃ S' n', PStep prog w f S S' R (σ.set j (.arr [])) news' ∧ S'.ps[j]? = some n' ∧ v = .ref n'.b.thing) (fun xx9 => False) := by
  obtain ⟨ps, i, tn, zs, ze⟩ := S
  obtain ⟨uq, len, cm⟩ := G
  dsimp only at uq len cm hx ⊢
  obtain ⟨⟨x', dx, d, b⟩, hn, rfl⟩ := Option.map_eq_some_iff.mp hx
  have hb := cm _ _ _ hn hc
  cases b <;> try exact hb.elim
  obtain ⟨pre, post, rfl, rfl⟩ := split_at hn
  dsimp only
  have P0 := @led_split f pre post ⟨x', dx, d, .none⟩ i tn zs ze R
  have fit : Fits (vT f x' dx (scD d .none) i tn zs ze (Zof pre post R)) ((x', instObj 66 dx) :: (dx, scD d .none) :: fixedL f i tn zs ze (Zof pre post R)) := by exact fits_of [0, 0, 0, 0, 2, 2, 2, 2, 2] rfl
  have U1 := (uq.perm P0).fit fit
  have K1 := U1.ne (d := dx) (by exact ext_of 1 rfl)
  have K2 := U1.ne (d := f.dhp) (by exact ext_of 7 rfl)
  refine Tel.mono (viv_none_A ok (by exact apart_of K1 [0, 1, 2, 3, 4, 5, 6, 7] rfl) (fun p hp => K1 _ _ (by exact List.mem_of_mem_drop (i := 8) hp)) (by exact apart_of K2 [0, 2, 3, 4, 5, 6, 7] rfl) (fun p hp => K2 _ _ (by exact List.mem_of_mem_drop (i := 8) hp))) (fun q hq => P0.mem_iff.mpr (fit.has q hq)) ?_ fun xx9 h => h
  rintro v news' ⟨a, da, l, r, dr, d2, rd, n', tn', rfl, hh, ab, o1, o2, o3, o4⟩
  have U2 := U1.more ab (new := [(da, arD d2 l), (a, instObj 85 da), (l, listOf #[] 0), (dr, refD rd a), (r, instObj 162 dr)]) (by (simp only [Chain, and_true]; omega))
  have P1 := @led_split f pre post ⟨x', dx, d, .arr r dr a da l 0 rd d2 #[]⟩ n' tn' zs ze R
  have U3 : Uq ([(da, arD d2 l), (a, instObj 85 da), (l, listOf #[] 0), (dr, refD rd a), (r, instObj 162 dr)] ++ vT f x' dx (scD d (.ref r)) n' tn' zs ze (Zof pre post R)) := U2.addr rfl
  refine ⟨⟨(pre ++ ⟨x', dx, d, .none⟩ :: post).set pre.length ⟨x', dx, d, .arr r dr a da l 0 rd d2 #[]⟩, n', tn', zs, ze⟩, ⟨x', dx, d, .arr r dr a da l 0 rd d2 #[]⟩, ⟨⟨?_, by simpa using len, CMs.set cm hn rfl ⟨by decide, .nil⟩⟩, ?_, fun c y hcy => (congrFun (Xof_set (n' := ⟨x', dx, d, .arr r dr a da l 0 rd d2 #[]⟩) hn rfl) c).trans hcy, rfl, rfl⟩, ?_, rfl⟩
  · rw [set_mid]
    exact (U3.fit (l' := PN.blk ⟨x', dx, d, .arr r dr a da l 0 rd d2 #[]⟩ ++ fixedL f n' tn' zs ze (Zof pre post R)) (by show Fits ((x', instObj 66 dx) :: (dx, scD d (.ref r)) :: (r, instObj 162 dr) :: (dr, refD rd a) :: (a, instObj 85 da) :: (da, arD d2 l) :: (l, listOf #[] 0) :: fixedL f n' tn' zs ze (Zof pre post R)) ((da, arD d2 l) :: (a, instObj 85 da) :: (l, listOf #[] 0) :: (dr, refD rd a) :: (r, instObj 162 dr) :: vT f x' dx (scD d (.ref r)) n' tn' zs ze (Zof pre post R)); exact fits_of [5, 5, 4, 3, 1, 0, 0, 0, 0, 5, 5] rfl)).perm P1.symm
  · rw [set_mid]
    refine fun q hq => hh q ((Fits.has (T := PN.blk ⟨x', dx, d, .arr r dr a da l 0 rd d2 #[]⟩ ++ fixedL f n' tn' zs ze (Zof pre post R)) (by show Fits ((x', instObj 66 dx) :: (dx, scD d (.ref r)) :: (r, instObj 162 dr) :: (dr, refD rd a) :: (a, instObj 85 da) :: (da, arD d2 l) :: (l, listOf #[] 0) :: fixedL f n' tn' zs ze (Zof pre post R)) _; exact fits_of [0, 0, 0, 0, 0, 0, 0, 0, 0, 5, 5] rfl)) q (P1.mem_iff.mp hq))
  · dsimp only
    rw [set_mid]; simp
theorem viv_s_none_H {prog : Program} {w : World} {f : Fix} {S : PS} {R : Led} {σ : List Cont} {j x : Nat} {tk : Tok} (ok : f.Ok prog w) (G : PGood prog w f S R σ) (hx : Xof S.ps j = some x) (hc : σ[j]? = some .none) :
    Tel prog w 420 [.ref f.rn, .ref x, .str "H" tk] 30 150 (S.led f R)
      (fun v news' => ∃ S' n', PStep prog w f S S' R (σ.set j (.hash [])) news' ∧ S'.ps[j]? = some n' ∧ v = .ref n'.b.thing) (fun xx9 => False) := by
  obtain ⟨ps, i, tn, zs, ze⟩ := S
  obtain ⟨uq, len, cm⟩ := G
  dsimp only at uq len cm hx ⊢
  obtain ⟨⟨x', dx, d, b⟩, hn, rfl⟩ := Option.map_eq_some_iff.mp hx
  have hb := cm _ _ _ hn hc
  cases b <;> try exact hb.elim
  obtain ⟨pre, post, rfl, rfl⟩ := split_at hn
  dsimp only
  have P0 := @led_split f pre post ⟨x', dx, d, .none⟩ i tn zs ze R
  have fit : Fits (vT f x' dx (scD d .none) i tn zs ze (Zof pre post R)) ((x', instObj 66 dx) :: (dx, scD d .none) :: fixedL f i tn zs ze (Zof pre post R)) := by exact fits_of [0, 0, 0, 0, 2, 2, 2, 2, 2] rfl
  have U1 := (uq.perm P0).fit fit
  have K1 := U1.ne (d := dx) (by exact ext_of 1 rfl)
  have K2 := U1.ne (d := f.dhp) (by exact ext_of 7 rfl)
  refine Tel.mono (viv_none_H ok (by exact apart_of K1 [0, 1, 2, 3, 4, 5, 6, 7] rfl) (fun p hp => K1 _ _ (by exact List.mem_of_mem_drop (i := 8) hp)) (by exact apart_of K2 [0, 2, 3, 4, 5, 6, 7] rfl) (fun p hp => K2 _ _ (by exact List.mem_of_mem_drop (i := 8) hp))) (fun q hq => P0.mem_iff.mpr (fit.has q hq)) ?_ fun xx9 h => h
  rintro v news' ⟨a, da, l, r, dr, d2, rd, n', tn', t9, ot, rfl, hh, ab, o1, o2, o3, o4, hot⟩
  have U2 := U1.more ab (new := [(da, haD d2 l 0 t9), (a, instObj 104 da), (l, ot), (dr, refD rd a), (r, instObj 162 dr)]) (by (simp only [Chain, and_true]; omega))
  have P1 := @led_split f pre post ⟨x', dx, d, .hash r dr a da l rd d2 0 t9 ot []⟩ n' tn' zs ze R
  have U3 : Uq ([(da, haD d2 l 0 t9), (a, instObj 104 da), (l, ot), (dr, refD rd a), (r, instObj 162 dr)] ++ vT f x' dx (scD d (.ref r)) n' tn' zs ze (Zof pre post R)) := U2.addr rfl
  refine ⟨⟨(pre ++ ⟨x', dx, d, .none⟩ :: post).set pre.length ⟨x', dx, d, .hash r dr a da l rd d2 0 t9 ot []⟩, n', tn', zs, ze⟩, ⟨x', dx, d, .hash r dr a da l rd d2 0 t9 ot []⟩, ⟨⟨?_, by simpa using len, CMs.set cm hn rfl ⟨hot, by omega, .nil⟩⟩, ?_, fun c y hcy => (congrFun (Xof_set (n' := ⟨x', dx, d, .hash r dr a da l rd d2 0 t9 ot []⟩) hn rfl) c).trans hcy, rfl, rfl⟩, ?_, rfl⟩
  · rw [set_mid]
    exact (U3.fit (l' := PN.blk ⟨x', dx, d, .hash r dr a da l rd d2 0 t9 ot []⟩ ++ fixedL f n' tn' zs ze (Zof pre post R)) (by show Fits ((x', instObj 66 dx) :: (dx, scD d (.ref r)) :: (r, instObj 162 dr) :: (dr, refD rd a) :: (a, instObj 104 da) :: (da, haD d2 l 0 t9) :: (l, ot) :: fixedL f n' tn' zs ze (Zof pre post R)) ((da, haD d2 l 0 t9) :: (a, instObj 104 da) :: (l, ot) :: (dr, refD rd a) :: (r, instObj 162 dr) :: vT f x' dx (scD d (.ref r)) n' tn' zs ze (Zof pre post R)); exact fits_of [5, 5, 4, 3, 1, 0, 0, 0, 0, 5, 5] rfl)).perm P1.symm
  · rw [set_mid]
    refine fun q hq => hh q ((Fits.has (T := PN.blk ⟨x', dx, d, .hash r dr a da l rd d2 0 t9 ot []⟩ ++ fixedL f n' tn' zs ze (Zof pre post R)) (by show Fits ((x', instObj 66 dx) :: (dx, scD d (.ref r)) :: (r, instObj 162 dr) :: (dr, refD rd a) :: (a, instObj 104 da) :: (da, haD d2 l 0 t9) :: (l, ot) :: fixedL f n' tn' zs ze (Zof pre post R)) _; exact fits_of [0, 0, 0, 0, 0, 0, 0, 0, 0, 5, 5] rfl)) q (P1.mem_iff.mp hq))
  · dsimp only
    rw [set_mid]; simp
theorem viv_s_none_S {prog : Program} {w : World} {f : Fix} {S : PS} {R : Led} {σ : List Cont} {j x : Nat} {tk : Tok} (ok : f.Ok prog w) (G : PGood prog w f S R σ) (hx : Xof S.ps j = some x) (hc : σ[j]? = some .none) :
    Tel prog w 420 [.ref f.rn, .ref x, .str "S" tk] 30 150 (S.led f R)
      (fun v news' => ∃ S' n', PStep prog w f S S' R ((σ ++ [Cont.none]).set j (.sc σ.length)) news' ∧ S'.ps[j]? = some n' ∧ v = .ref n'.b.thing) (fun xx9 => False) := by
  obtain ⟨ps, i, tn, zs, ze⟩ := S
  obtain ⟨uq, len, cm⟩ := G
  dsimp only at uq len cm hx ⊢
  obtain ⟨⟨x', dx, d, b⟩, hn, rfl⟩ := Option.map_eq_some_iff.mp hx
  have hb := cm _ _ _ hn hc
  cases b <;> try exact hb.elim
  obtain ⟨pre, post, rfl, rfl⟩ := split_at hn
  dsimp only
  have P0 := @led_split f pre post ⟨x', dx, d, .none⟩ i tn zs ze R
  have fit : Fits (vT f x' dx (scD d .none) i tn zs ze (Zof pre post R)) ((x', instObj 66 dx) :: (dx, scD d .none) :: fixedL f i tn zs ze (Zof pre post R)) := by exact fits_of [0, 0, 0, 0, 2, 2, 2, 2, 2] rfl
  have U1 := (uq.perm P0).fit fit
  have K1 := U1.ne (d := dx) (by exact ext_of 1 rfl)
  have K2 := U1.ne (d := f.dhp) (by exact ext_of 7 rfl)
  refine Tel.mono (viv_none_S ok (by exact apart_of K1 [0, 1, 2, 3, 4, 5, 6, 7] rfl) (fun p hp => K1 _ _ (by exact List.mem_of_mem_drop (i := 8) hp)) (by exact apart_of K2 [0, 2, 3, 4, 5, 6, 7] rfl) (fun p hp => K2 _ _ (by exact List.mem_of_mem_drop (i := 8) hp))) (fun q hq => P0.mem_iff.mpr (fit.has q hq)) ?_ fun xx9 h => h
  rintro v news' ⟨a, da, r, dr, d2, rd, n', tn', rfl, hh, ab, o1, o2, o3⟩
  have U2 := U1.more ab (new := [(da, scD d2 .none), (a, instObj 66 da), (dr, refD rd a), (r, instObj 162 dr)]) (by (simp only [Chain, and_true]; omega))
  have P1 := @led_snoc f pre post ⟨x', dx, d, .sc r dr a rd⟩ ⟨a, da, d2, .none⟩ n' tn' zs ze R
  have hn2 : ((pre ++ ⟨x', dx, d, .none⟩ :: post) ++ [(⟨a, da, d2, .none⟩ : PN)])[pre.length]? = some ⟨x', dx, d, .none⟩ := by simp
  have U3 : Uq ([(da, scD d2 .none), (a, instObj 66 da), (dr, refD rd a), (r, instObj 162 dr)] ++ vT f x' dx (scD d (.ref r)) n' tn' zs ze (Zof pre post R)) := U2.addr rfl
  refine ⟨⟨((pre ++ ⟨x', dx, d, .none⟩ :: post) ++ [(⟨a, da, d2, .none⟩ : PN)]).set pre.length ⟨x', dx, d, .sc r dr a rd⟩, n', tn', zs, ze⟩, ⟨x', dx, d, .sc r dr a rd⟩, ⟨⟨?_, by simp at len ⊢; omega, CMs.set (n' := ⟨x', dx, d, .sc r dr a rd⟩) (c' := .sc σ.length) (CMs.add cm len rfl) hn2 rfl (by show Xof _ _ = _; unfold Xof; rw [← len]; simp)⟩, ?_, fun c y hcy => (congrFun (Xof_set (n' := ⟨x', dx, d, .sc r dr a rd⟩) hn2 rfl) c).trans (Xof_add c y hcy), rfl, rfl⟩, ?_, rfl⟩
  · rw [set_mid2]
    exact (U3.fit (l' := PN.blk ⟨x', dx, d, .sc r dr a rd⟩ ++ fixedL f n' tn' zs ze (PN.blk ⟨a, da, d2, .none⟩ ++ Zof pre post R)) (by show Fits ((x', instObj 66 dx) :: (dx, scD d (.ref r)) :: (r, instObj 162 dr) :: (dr, refD rd a) :: fixedL f n' tn' zs ze ((a, instObj 66 da) :: (da, scD d2 .none) :: Zof pre post R)) ((da, scD d2 .none) :: (a, instObj 66 da) :: (dr, refD rd a) :: (r, instObj 162 dr) :: vT f x' dx (scD d (.ref r)) n' tn' zs ze (Zof pre post R)); exact fits_of [4, 4, 3, 2, 2, 2, 7, 7, 2, 2, 2, 2, 2, 2, 1] rfl) |>.perm (snoc_perm (n := ⟨x', dx, d, .sc r dr a rd⟩)).symm).perm P1.symm
  · rw [set_mid2]
    refine fun q hq => hh q ((Fits.has (T := PN.blk ⟨x', dx, d, .sc r dr a rd⟩ ++ fixedL f n' tn' zs ze (PN.blk ⟨a, da, d2, .none⟩ ++ Zof pre post R)) (by show Fits ((x', instObj 66 dx) :: (dx, scD d (.ref r)) :: (r, instObj 162 dr) :: (dr, refD rd a) :: fixedL f n' tn' zs ze ((a, instObj 66 da) :: (da, scD d2 .none) :: Zof pre post R)) _; exact fits_of [0, 0, 0, 0, 2, 2, 7, 7, 2, 2, 2, 2, 2, 2] rfl)) q (snoc_perm.mem_iff.mp (P1.mem_iff.mp hq)))
  · dsimp only
    rw [set_mid2]; simp
end
section
theorem flatMap_has {ps : List PN} {j : Nat} {n : PN} (h : ps[j]? = some n) : Has n.blk (ps.flatMap PN.blk) := fun p hp => List.mem_flatMap.mpr ⟨n, List.mem_of_getElem? h, hp⟩
theorem blk_has {f : Fix} {S : PS} {R : Led} {j : Nat} {n : PN} (h : S.ps[j]? = some n) : Has n.blk (S.led f R) := fun p hp => by
  unfold PS.led
  iterate 10 apply List.Mem.tail
  exact List.mem_append_left _ (flatMap_has h p hp)
theorem rest_has {f : Fix} {S : PS} {R : Led} : Has R (S.led f R) := fun p hp => by
  unfold PS.led
  iterate 10 apply List.Mem.tail
  exact List.mem_append_right _ hp
theorem has_tail {p : Addr × Obj} {l l' : Led} (h : Has (p :: l) l') : Has l l' := fun q hq => h q (.tail _ hq)
theorem PStep.same {prog : Program} {w : World} {f : Fix} {S : PS} {R : Led} {σ : List Cont} {news : Led} (G : PGood prog w f S R σ) (h : Has (S.led f R) news) : PStep prog w f S S R σ news := ⟨G, h, fun xx9 xx9 h => h, rfl, rfl⟩
theorem vivS_some {σ : List Cont} {j : Nat} {k : Kd} {c : Cont} (hc : σ[j]? = some c) (hk : c.kd = some k) : vivS σ j k = some σ := by
  unfold vivS; rw [hc]; cases c <;> simp_all [Cont.kd]
theorem vivS_no {σ : List Cont} {j : Nat} {k : Kd} {c : Cont} (hc : σ[j]? = some c) (h0 : c ≠ .none) (hk : c.kd ≠ some k) : vivS σ j k = Option.none := by
  unfold vivS; rw [hc]; cases c <;> simp_all [Cont.kd]
theorem vivS_n {σ : List Cont} {j : Nat} (hc : σ[j]? = some .none) : vivS σ j .A = some (σ.set j (.arr [])) ∧ vivS σ j .H = some (σ.set j (.hash [])) ∧ vivS σ j .S = some ((σ ++ [Cont.none]).set j (.sc σ.length)) := by
  unfold vivS; rw [hc]; exact ⟨rfl, rfl, rfl⟩
theorem CM.invA {prog : Program} {w : World} {X : Nat → Option Nat} {b : PB} {items : List (Option Nat)} (h : CM prog w X b (.arr items)) : ∃ r dr a da l e rd td vs, b = .arr r dr a da l e rd td vs := by
  cases b <;> first | exact h.elim | exact ⟨_, _, _, _, _, _, _, _, _, rfl⟩
theorem CM.invH {prog : Program} {w : World} {X : Nat → Option Nat} {b : PB} {ks : List (Str × Nat)} (h : CM prog w X b (.hash ks)) : ∃ r dr a da l rd td i9 t9 op kp, b = .hash r dr a da l rd td i9 t9 op kp := by
  cases b <;> first | exact h.elim | exact ⟨_, _, _, _, _, _, _, _, _, _, _, rfl⟩
theorem CM.invS {prog : Program} {w : World} {X : Nat → Option Nat} {b : PB} {c : Nat} (h : CM prog w X b (.sc c)) : ∃ r dr y rd, b = .sc r dr y rd := by
  cases b <;> first | exact h.elim | exact ⟨_, _, _, _, rfl⟩
theorem viv_kind {prog : Program} {w : World} {f : Fix} {S : PS} {R : Led} {b : PB} {c : Cont} {kk : Kd} (h : CM prog w (Xof S.ps) b c) (hk : c.kd = some kk) :
    ∃ r dr rd a cl da od, b.val = .ref r ∧ b.thing = a ∧ ((r, instObj 162 dr) : Addr × Obj) ∈ b.led ∧ (dr, refD rd a) ∈ b.led ∧ (∀ G, Has b.led G → Has (S.led f R) G → (a, instObj cl da) ∈ G ∧ (da, od) ∈ G) ∧ (cl = 66 ∨ cl = 85 ∨ cl = 104) ∧ ∀ k : Kd, ofKind k.str cl = decide (k = kk) := by
  cases c with
  | none => cases hk
  | int => cases hk
  | str => cases hk
  | arr =>
    cases hk
    cases b <;> first | exact h.elim | exact ⟨_, _, _, _, 85, _, _, rfl, rfl, at_ 0 rfl, at_ 1 rfl, fun G h xx9 => ⟨h _ (at_ 2 rfl), h _ (at_ 3 rfl)⟩, .inr (.inl rfl), fun k => by cases k <;> decide +kernel⟩
  | hash =>
    cases hk
    cases b <;> first | exact h.elim | exact ⟨_, _, _, _, 104, _, _, rfl, rfl, at_ 0 rfl, at_ 1 rfl, fun G h xx9 => ⟨h _ (at_ 2 rfl), h _ (at_ 3 rfl)⟩, .inr (.inr rfl), fun k => by cases k <;> decide +kernel⟩
  | sc =>
    cases hk
    cases b <;> first | exact h.elim | skip
    obtain ⟨n2, hn2, rfl⟩ := Option.map_eq_some_iff.mp h
    exact ⟨_, _, _, _, 66, _, _, rfl, rfl, at_ 0 rfl, at_ 1 rfl, fun G xx9 h => ⟨h _ (blk_has hn2 _ (.head _)), h _ (blk_has hn2 _ (.tail _ (.head _)))⟩, .inl rfl, fun k => by cases k <;> decide +kernel⟩
theorem viv_s {prog : Program} {w : World} {f : Fix} {S : PS} {R : Led} {σ : List Cont} {j x : Nat} {k : Kd} {tk : Tok} (ok : f.Ok prog w) (G : PGood prog w f S R σ) (hx : Xof S.ps j = some x) :
    Tel prog w 420 [.ref f.rn, .ref x, .str k.str tk] 30 150 (S.led f R)
      (fun v news' => ∃ S' n' σ', vivS σ j k = some σ' ∧ PStep prog w f S S' R σ' news' ∧ S'.ps[j]? = some n' ∧ v = .ref n'.b.thing) (fun news' => vivS σ j k = none ∧ Has (S.led f R) news') := by
  obtain ⟨⟨x, dx, d, b⟩, hn, rfl⟩ := Option.map_eq_some_iff.mp hx
  obtain ⟨hj, -⟩ := List.getElem?_eq_some_iff.mp hn
  have hc : σ[j]? = some (σ[j]'(by rw [← G.len]; exact hj)) := List.getElem?_eq_getElem _
  generalize σ[j]'(by rw [← G.len]; exact hj) = c at hc
  have hb := G.cm _ _ _ hn hc
  have hB : Has (PN.blk ⟨x, dx, d, b⟩) (S.led f R) := blk_has hn
  cases hk : c.kd with
  | none =>
    rcases Classical.em (c = .none) with rfl | h0
    · obtain ⟨v1, v2, v3⟩ := vivS_n hc
      cases k with
      | A => exact Tel.mono (viv_s_none_A ok G hx hc) (fun xx9 h => h) (fun v n ⟨S', n', h⟩ => ⟨S', n', _, v1, h⟩) fun xx9 h => h.elim
      | H => exact Tel.mono (viv_s_none_H ok G hx hc) (fun xx9 h => h) (fun v n ⟨S', n', h⟩ => ⟨S', n', _, v2, h⟩) fun xx9 h => h.elim
      | S => exact Tel.mono (viv_s_none_S ok G hx hc) (fun xx9 h => h) (fun v n ⟨S', n', h⟩ => ⟨S', n', _, v3, h⟩) fun xx9 h => h.elim
    · have hv : vivS σ j k = none := vivS_no hc h0 (by rw [hk]; exact nofun)
      have hs : Has ((x, instObj 66 dx) :: (dx, scD d b.val) :: S.led f R) (S.led f R) := has_cons (hB _ (.head _)) (has_cons (hB _ (.tail _ (.head _))) fun xx9 h => h)
      cases c <;> first | exact absurd rfl h0 | (cases hk; done) | skip
      · cases b <;> first | exact hb.elim | exact Tel.mono (viv_int (d := d) (dx := dx) (rest := S.led f R) (hb.1 ▸ hb.2.1) (hb.1 ▸ hb.2.2)) hs (fun xx9 xx9 h => h.elim) fun n h => ⟨hv, has_tail (has_tail h)⟩
      · cases b <;> first | exact hb.elim | exact Tel.mono (viv_str (d := d) (dx := dx) (rest := S.led f R) (hb.1 ▸ hb.2)) hs (fun xx9 xx9 h => h.elim) fun n h => ⟨hv, has_tail (has_tail h)⟩
  | some kk =>
    obtain ⟨r, dr, rd, a, cl, da, od, e1, e2, m1, m2, m3, h3, hK⟩ := viv_kind (f := f) (R := R) hb hk
    have h0 : c ≠ .none := fun e => by rw [e] at hk; cases hk
    have hL : Has b.led (S.led f R) := fun p hp => hB p (.tail _ (.tail _ hp))
    obtain ⟨m4, m5⟩ := m3 _ hL fun xx9 h => h
    refine Tel.mono (viv_ref (d := d) (dx := dx) (r := r) (dr := dr) (rd := rd) (a := a) (c := cl) (da := da) (od := od) (rest := S.led f R) h3) (has_cons (hB _ (.head _)) (has_cons (e1 ▸ hB _ (.tail _ (.head _))) (has_cons (hL _ m1) (has_cons (hL _ m2) (has_cons m4 (has_cons m5 fun xx9 h => h)))))) ?_ ?_
    · rintro v n ⟨h1, h2, h4⟩
      rw [hK] at h1
      cases of_decide_eq_true h1
      exact ⟨S, _, σ, vivS_some hc hk, .same G (has_tail (has_tail (has_tail (has_tail (has_tail (has_tail h4)))))), hn, by rw [h2]; exact congrArg Value.ref e2.symm⟩
    · rintro n ⟨h1, h4⟩
      rw [hK] at h1
      exact ⟨vivS_no hc h0 (by rw [hk]; intro e; exact of_decide_eq_false h1 (Option.some.inj e).symm), has_tail (has_tail (has_tail (has_tail (has_tail (has_tail h4)))))⟩
end
section
noncomputable def elemS (σ : List Cont) (j : Nat) (i : Int) : Option (List Cont × Nat) :=
  match σ[j]? with
  | some (.arr items) =>
    if placeOf items.length i < 0 ∨ 8 ≤ placeOf items.length i then Option.none
    else match items[(placeOf items.length i).toNat]? with
      | some (some c) => some (σ, c)
      | some Option.none => some ((σ ++ [Cont.none]).set j (.arr (items.set (placeOf items.length i).toNat (some σ.length))), σ.length)
      | Option.none => some ((σ ++ [Cont.none]).set j (.arr ((items ++ List.replicate (placeOf items.length i + 1 - items.length).toNat Option.none).set (placeOf items.length i).toNat (some σ.length))), σ.length)
  | _ => Option.none
noncomputable abbrev eT (f : Fix) (a da l x dx r dr : Nat) (d td : TD) (rd : RD) (lst : Obj) (i : Int) (tn : Tok) (zs : Array Value) (ze : Nat) (Z : Led) : Led :=
  (a, instObj 85 da) :: (da, arD td l) :: (l, lst) :: (f.rn, runO f) :: (f.drn, runD f) :: (f.li, limO f) :: (f.dli, limD f) :: (f.ct, ctrO f) :: (f.dct, ctrD f) :: (f.hp, heapO f) :: (f.dhp, heapD f i tn) ::
  (x, instObj 66 dx) :: (dx, scD d (.ref r)) :: (r, instObj 162 dr) :: (dr, refD rd a) :: (f.pl, f.po) :: (f.zr, listOf zs ze) :: Z
theorem elem_new_s {prog : Program} {w : World} {f : Fix} {pre post : List PN} {x dx r dr a da l e : Nat} {d td : TD} {rd : RD} {vs : Array Value} {n : Int} {tn : Tok} {zs : Array Value} {ze : Nat} {R : Led} {σ : List Cont} {items items' : List (Option Nat)} {i : Int} {ti : Tok} (vs' : Nat → Array Value)
    (G : PGood prog w f ⟨pre ++ ⟨x, dx, d, .arr r dr a da l e rd td vs⟩ :: post, n, tn, zs, ze⟩ R σ)
    (C : ∀ rest : Led, Apart l [a, da, f.rn, f.drn, f.li, f.dli, f.ct, f.dct, f.hp, f.dhp] → (∀ p ∈ rest, p.1 ≠ l) → Apart f.dhp [a, da, l, f.rn, f.drn, f.li, f.dli, f.ct, f.dct, f.hp] → (∀ p ∈ rest, p.1 ≠ f.dhp) →
      Tel prog w 427 [.ref f.rn, .ref a, .int i ti] 40 180 ((a, instObj 85 da) :: (da, arD td l) :: (l, listOf vs e) :: (f.rn, runO f) :: (f.drn, runD f) :: (f.li, limO f) :: (f.dli, limD f) :: (f.ct, ctrO f) :: (f.dct, ctrD f) :: (f.hp, heapO f) :: (f.dhp, heapD f n tn) :: rest)
        (fun v news' => ∃ (x' dx' : Nat) (d2 : TD) (n' : Int) (tn' : Tok) (e' : Nat), v = .ref x' ∧ Has ((x', instObj 66 dx') :: (dx', scD d2 .none) :: (a, instObj 85 da) :: (da, arD td l) :: (l, listOf (vs' x') e') :: (f.rn, runO f) :: (f.drn, runD f) :: (f.li, limO f) :: (f.dli, limD f) :: (f.ct, ctrO f) :: (f.dct, ctrD f) :: (f.hp, heapO f) :: (f.dhp, heapD f n' tn') :: rest) news' ∧
          Above dx' ((a, instObj 85 da) :: (da, arD td l) :: (l, listOf (vs' x') e') :: (f.rn, runO f) :: (f.drn, runD f) :: (f.li, limO f) :: (f.dli, limD f) :: (f.ct, ctrO f) :: (f.dct, ctrD f) :: (f.hp, heapO f) :: (f.dhp, heapD f n tn) :: rest) ∧ dx' < x') (fun xx9 => False))
    (hs : ∀ x', (vs' x').size ≤ 8) (hi : ∀ (X : Nat → Option Nat) (x' : Nat), X σ.length = some x' → All2 (ItemR X) vs.toList items → All2 (ItemR X) (vs' x').toList items') (hc : σ[pre.length]? = some (.arr items)) :
    Tel prog w 427 [.ref f.rn, .ref a, .int i ti] 40 180 (PS.led f ⟨pre ++ ⟨x, dx, d, .arr r dr a da l e rd td vs⟩ :: post, n, tn, zs, ze⟩ R)
      (fun v news' => ∃ S' y, PStep prog w f ⟨pre ++ ⟨x, dx, d, .arr r dr a da l e rd td vs⟩ :: post, n, tn, zs, ze⟩ S' R ((σ ++ [Cont.none]).set pre.length (.arr items')) news' ∧ Xof S'.ps σ.length = some y ∧ v = .ref y) (fun xx9 => False) := by
  obtain ⟨uq, len, cm⟩ := G
  dsimp only at uq len cm
  have hn : (pre ++ (⟨x, dx, d, .arr r dr a da l e rd td vs⟩ : PN) :: post)[pre.length]? = some ⟨x, dx, d, .arr r dr a da l e rd td vs⟩ := by simp
  have P0 := @led_split f pre post ⟨x, dx, d, .arr r dr a da l e rd td vs⟩ n tn zs ze R
  have fit : Fits (eT f a da l x dx r dr d td rd (listOf vs e) n tn zs ze (Zof pre post R)) ((x, instObj 66 dx) :: (dx, scD d (.ref r)) :: (r, instObj 162 dr) :: (dr, refD rd a) :: (a, instObj 85 da) :: (da, arD td l) :: (l, listOf vs e) :: fixedL f n tn zs ze (Zof pre post R)) := by exact fits_of [4, 4, 4, 4, 4, 4, 4, 4, 4, 4, 4] rfl
  have U1 := (uq.perm P0).fit fit
  have K1 := U1.ne (d := l) (by exact ext_of 2 rfl)
  have K2 := U1.ne (d := f.dhp) (by exact ext_of 10 rfl)
  refine Tel.mono (C _ (by exact apart_of K1 [0, 1, 2, 3, 4, 5, 6, 7, 8, 9] rfl) (fun p hp => K1 _ _ (by exact List.mem_of_mem_drop (i := 10) hp)) (by exact apart_of K2 [0, 1, 2, 3, 4, 5, 6, 7, 8, 9] rfl) (fun p hp => K2 _ _ (by exact List.mem_of_mem_drop (i := 10) hp))) (fun q hq => P0.mem_iff.mpr (fit.has q hq)) ?_ fun xx9 h => h
  rintro v news' ⟨x', dx', d2, n', tn', e', rfl, hh, ab, o1⟩
  have U2 : Uq ([(dx', scD d2 .none), (x', instObj 66 dx')] ++ eT f a da l x dx r dr d td rd (listOf (vs' x') e') n tn zs ze (Zof pre post R)) := (U1.addr (l' := eT f a da l x dx r dr d td rd (listOf (vs' x') e') n tn zs ze (Zof pre post R)) rfl).more ab (by (simp only [Chain, and_true]; omega))
  have P1 := @led_snoc f pre post ⟨x, dx, d, .arr r dr a da l e' rd td (vs' x')⟩ ⟨x', dx', d2, .none⟩ n' tn' zs ze R
  have hn2 : ((pre ++ (⟨x, dx, d, .arr r dr a da l e rd td vs⟩ : PN) :: post) ++ [(⟨x', dx', d2, .none⟩ : PN)])[pre.length]? = some ⟨x, dx, d, .arr r dr a da l e rd td vs⟩ := by simp
  have U3 : Uq ([(dx', scD d2 .none), (x', instObj 66 dx')] ++ eT f a da l x dx r dr d td rd (listOf (vs' x') e') n' tn' zs ze (Zof pre post R)) := U2.addr rfl
  have hX : Xof ((pre ++ (⟨x, dx, d, .arr r dr a da l e rd td vs⟩ : PN) :: post) ++ [(⟨x', dx', d2, .none⟩ : PN)]) σ.length = some x' := by unfold Xof; rw [← len]; simp
  refine ⟨⟨((pre ++ (⟨x, dx, d, .arr r dr a da l e rd td vs⟩ : PN) :: post) ++ [(⟨x', dx', d2, .none⟩ : PN)]).set pre.length ⟨x, dx, d, .arr r dr a da l e' rd td (vs' x')⟩, n', tn', zs, ze⟩, x',
    ⟨⟨?_, by simp at len ⊢; omega, CMs.set (n' := ⟨x, dx, d, .arr r dr a da l e' rd td (vs' x')⟩) (c' := .arr items') (CMs.add cm len rfl) hn2 rfl ⟨hs x', hi _ x' hX ((cm _ _ _ hn hc).2.mono (ItemR.mono Xof_add))⟩⟩, ?_,
      fun c y hcy => (congrFun (Xof_set (n' := ⟨x, dx, d, .arr r dr a da l e' rd td (vs' x')⟩) hn2 rfl) c).trans (Xof_add c y hcy), rfl, rfl⟩, (congrFun (Xof_set (n' := ⟨x, dx, d, .arr r dr a da l e' rd td (vs' x')⟩) hn2 rfl) _).trans hX, rfl⟩
  · rw [set_mid2]
    exact ((U3.fit (l' := PN.blk ⟨x, dx, d, .arr r dr a da l e' rd td (vs' x')⟩ ++ fixedL f n' tn' zs ze (PN.blk ⟨x', dx', d2, .none⟩ ++ Zof pre post R)) (by
      show Fits ((x, instObj 66 dx) :: (dx, scD d (.ref r)) :: (r, instObj 162 dr) :: (dr, refD rd a) :: (a, instObj 85 da) :: (da, arD td l) :: (l, listOf (vs' x') e') :: fixedL f n' tn' zs ze ((x', instObj 66 dx') :: (dx', scD d2 .none) :: Zof pre post R)) ((dx', scD d2 .none) :: (x', instObj 66 dx') :: eT f a da l x dx r dr d td rd (listOf (vs' x') e') n' tn' zs ze (Zof pre post R))
      exact fits_of [13, 13, 13, 13, 2, 2, 2, 2, 2, 2, 2, 2, 2, 2, 2, 2, 2, 1] rfl)).perm snoc_perm.symm).perm P1.symm
  · rw [set_mid2]
    refine fun q hq => hh q ((Fits.has (T := PN.blk ⟨x, dx, d, .arr r dr a da l e' rd td (vs' x')⟩ ++ fixedL f n' tn' zs ze (PN.blk ⟨x', dx', d2, .none⟩ ++ Zof pre post R)) ?_) q (snoc_perm.mem_iff.mp (P1.mem_iff.mp hq)))
    show Fits ((x, instObj 66 dx) :: (dx, scD d (.ref r)) :: (r, instObj 162 dr) :: (dr, refD rd a) :: (a, instObj 85 da) :: (da, arD td l) :: (l, listOf (vs' x') e') :: fixedL f n' tn' zs ze ((x', instObj 66 dx') :: (dx', scD d2 .none) :: Zof pre post R)) _
    exact fits_of [13, 13, 13, 13, 2, 2, 2, 2, 2, 2, 2, 2, 2, 2, 2, 2, 2] rfl
theorem elem_s {prog : Program} {w : World} {f : Fix} {S : PS} {R : Led} {σ : List Cont} {j : Nat} {n : PN} {items : List (Option Nat)} {i : Int} {ti : Tok} (ok : f.Ok prog w) (G : PGood prog w f S R σ) (hn : S.ps[j]? = some n) (hc : σ[j]? = some (.arr items)) :
    Tel prog w 427 [.ref f.rn, .ref n.b.thing, .int i ti] 40 180 (S.led f R)
      (fun v news' => ∃ S' σ' c y, elemS σ j i = some (σ', c) ∧ PStep prog w f S S' R σ' news' ∧ Xof S'.ps c = some y ∧ v = .ref y) (fun news' => elemS σ j i = none ∧ Has (S.led f R) news') := by
  have hb := G.cm _ _ _ hn hc
  obtain ⟨x, dx, d, b⟩ := n
  obtain ⟨r, dr, a, da, l, e, rd, td, vs, rfl⟩ := CM.invA hb
  obtain ⟨hsz, hit⟩ := hb
  have hlen : items.length = vs.size := by rw [← hit.length]; simp
  have hB := blk_has (f := f) (R := R) hn
  have hF : Has (fixedL f S.n S.tn S.zs S.ze (S.ps.flatMap PN.blk ++ R)) (S.led f R) := fun xx9 h => h
  generalize hq : placeOf vs.size i = q
  have hT : Has ((a, instObj 85 da) :: (da, arD td l) :: (l, listOf vs e) :: (f.rn, runO f) :: (f.drn, runD f) :: (f.li, limO f) :: (f.dli, limD f) :: (f.ct, ctrO f) :: (f.dct, ctrD f) :: S.led f R) (S.led f R) :=
    has_cons (hB _ (at_ 4 rfl)) (has_cons (hB _ (at_ 5 rfl)) (has_cons (hB _ (at_ 6 rfl)) (has_cons (hF _ (at_ 0 rfl)) (has_cons (hF _ (at_ 1 rfl)) (has_cons (hF _ (at_ 2 rfl)) (has_cons (hF _ (at_ 3 rfl)) (has_cons (hF _ (at_ 4 rfl)) (has_cons (hF _ (at_ 5 rfl)) fun xx9 h => h))))))))
  have hU : ∀ news, Has ((a, instObj 85 da) :: (da, arD td l) :: (l, listOf vs e) :: (f.rn, runO f) :: (f.drn, runD f) :: (f.li, limO f) :: (f.dli, limD f) :: (f.ct, ctrO f) :: (f.dct, ctrD f) :: S.led f R) news → Has (S.led f R) news :=
    fun xx9 h => has_tail (has_tail (has_tail (has_tail (has_tail (has_tail (has_tail (has_tail (has_tail h))))))))
  by_cases hbad : q < 0 ∨ 8 ≤ q
  · refine Tel.mono (elem_bad (rest := S.led f R) ok hsz hq hbad) hT (fun xx9 xx9 h => h.elim) fun n h => ⟨?_, hU _ h⟩
    unfold elemS; rw [hc]; dsimp only; rw [hlen, hq, if_pos hbad]
  · have h0 : 0 ≤ q := by omega
    have h8 : q < 8 := by omega
    cases hv : items[q.toNat]? with
    | some o =>
      obtain ⟨v, hv1, hv2⟩ := hit.get hv
      have hv3 : vs[q.toNat]? = some v := by simpa using hv1
      cases o with
      | some c =>
        obtain ⟨y, hy, rfl⟩ := hv2
        refine Tel.mono (elem_old (rest := S.led f R) ok hsz hq h0 h8 hv3) hT (fun v n h => ?_) fun xx9 h => h.elim
        refine ⟨S, σ, c, y, ?_, .same G (hU _ h.2), hy, h.1⟩
        unfold elemS; rw [hc]; dsimp only; rw [hlen, hq, if_neg hbad, hv]
      | none =>
        have hv2' : v = .none := hv2
        subst hv2'
        clear hT hU hF hB
        obtain ⟨ps, n, tn, zs, ze⟩ := S
        obtain ⟨pre, post, rfl, rfl⟩ := split_at hn
        refine Tel.mono (elem_new_s (items' := items.set q.toNat (some σ.length)) (fun x' => vs.setIfInBounds q.toNat (.ref x')) G (fun rest a1 b1 a2 b2 => elem_none ok hsz hq h0 h8 hv3 a1 b1 a2 b2) (by simp; exact hsz) ?_ hc) (fun xx9 h => h) ?_ fun xx9 h => h.elim
        · intro X x' hX hall
          rw [Array.toList_setIfInBounds]
          exact hall.set (b := some σ.length) ⟨x', hX, rfl⟩ _
        · rintro v news ⟨S', y, h1, h2, h3⟩
          refine ⟨S', _, _, y, ?_, h1, h2, h3⟩
          unfold elemS; rw [hc]; dsimp only; rw [hlen, hq, if_neg hbad, hv]
    | none =>
      have hge : vs.size ≤ q := by
        have := List.getElem?_eq_none_iff.mp hv
        omega
      clear hT hU hF hB
      obtain ⟨ps, n, tn, zs, ze⟩ := S
      obtain ⟨pre, post, rfl, rfl⟩ := split_at hn
      refine Tel.mono (elem_new_s (items' := (items ++ List.replicate (q + 1 - vs.size).toNat Option.none).set q.toNat (some σ.length)) (fun x' => (vs ++ Array.replicate (q + 1 - vs.size).toNat Value.none).setIfInBounds q.toNat (.ref x')) G (fun rest a1 b1 a2 b2 => elem_grow ok hsz hq hge h8 a1 b1 a2 b2) (fun x' => by simp; omega) ?_ hc) (fun xx9 h => h) ?_ fun xx9 h => h.elim
      · intro X x' hX hall
        rw [Array.toList_setIfInBounds, Array.toList_append, Array.toList_replicate]
        exact (hall.append (All2.replicate (R := ItemR X) (a := Value.none) (b := Option.none) rfl _)).set (b := some σ.length) ⟨x', hX, rfl⟩ _
      · rintro v news ⟨S', y, h1, h2, h3⟩
        refine ⟨S', _, _, y, ?_, h1, h2, h3⟩
        unfold elemS; rw [hc]; dsimp only; rw [hlen, hq, if_neg hbad, hv]
end
section
noncomputable def lookS (ks : List (Str × Nat)) (k : Str) : Option Nat := (ks.find? fun p => p.1 = k).map (·.2)
noncomputable def helemS (σ : List Cont) (j : Nat) (k : Str) : Option (List Cont × Nat) :=
  match σ[j]? with
  | some (.hash ks) => match lookS ks k with
    | some c => some (σ, c)
    | Option.none => some ((σ ++ [Cont.none]).set j (.hash (ks ++ [(k, σ.length)])), σ.length)
  | _ => Option.none
theorem look_kv {X : Nat → Option Nat} {k : Str} : ∀ {kvs : List (Str × Value)} {ks : List (Str × Nat)}, All2 (KvR X) kvs ks → match lookS ks k with | some c => ∃ y, X c = some y ∧ valueAt kvs k = some (.ref y) | Option.none => valueAt kvs k = none
  | _, _, .nil => by simp [lookS, valueAt]
  | (k1, v1) :: kvs, (k2, c2) :: ks, .cons h r => by
    obtain ⟨rfl, y, hy, rfl⟩ := h
    by_cases e : k1 = k
    · simp only [lookS, valueAt, List.find?_cons, e, decide_true, Option.map_some]
      exact ⟨y, hy, rfl⟩
    · have ih := look_kv (k := k) r
      simp only [lookS, valueAt, List.find?_cons, e, decide_false] at ih ⊢
      exact ih
noncomputable abbrev hT (f : Fix) (a da l x dx r dr : Nat) (d td : TD) (rd : RD) (i9 : Int) (t9 : Tok) (ot : Obj) (i : Int) (tn : Tok) (zs : Array Value) (ze : Nat) (Z : Led) : Led :=
  (a, instObj 104 da) :: (da, haD td l i9 t9) :: (l, ot) :: (f.rn, runO f) :: (f.drn, runD f) :: (f.ct, ctrO f) :: (f.dct, ctrD f) :: (f.hp, heapO f) :: (f.dhp, heapD f i tn) ::
  (x, instObj 66 dx) :: (dx, scD d (.ref r)) :: (r, instObj 162 dr) :: (dr, refD rd a) :: (f.li, limO f) :: (f.dli, limD f) :: (f.pl, f.po) :: (f.zr, listOf zs ze) :: Z
theorem helem_new_s {prog : Program} {w : World} {f : Fix} {pre post : List PN} {x dx r dr a da l : Nat} {d td : TD} {rd : RD} {i9 : Int} {t9 : Tok} {ot : Obj} {kvs : List (Str × Value)} {k : Str} {n : Int} {tn : Tok} {zs : Array Value} {ze : Nat} {R : Led} {σ : List Cont} {ks : List (Str × Nat)} {tk : Tok}
    (G : PGood prog w f ⟨pre ++ ⟨x, dx, d, .hash r dr a da l rd td i9 t9 ot kvs⟩ :: post, n, tn, zs, ze⟩ R σ)
    (C : ∀ rest : Led, Apart l [a, da, f.rn, f.drn, f.ct, f.dct, f.hp, f.dhp] → (∀ p ∈ rest, p.1 ≠ l) → Apart f.dhp [a, da, l, f.rn, f.drn, f.ct, f.dct, f.hp] → (∀ p ∈ rest, p.1 ≠ f.dhp) →
      Tel prog w 434 [.ref f.rn, .ref a, .str k tk] 40 180 ((a, instObj 104 da) :: (da, haD td l i9 t9) :: (l, ot) :: (f.rn, runO f) :: (f.drn, runD f) :: (f.ct, ctrO f) :: (f.dct, ctrD f) :: (f.hp, heapO f) :: (f.dhp, heapD f n tn) :: rest)
        (fun v news' => ∃ (x' dx' : Nat) (d2 : TD) (n' : Int) (tn' : Tok) (ot2 : Obj), v = .ref x' ∧ Has ((x', instObj 66 dx') :: (dx', scD d2 .none) :: (a, instObj 104 da) :: (da, haD td l i9 t9) :: (l, ot2) :: (f.rn, runO f) :: (f.drn, runD f) :: (f.ct, ctrO f) :: (f.dct, ctrD f) :: (f.hp, heapO f) :: (f.dhp, heapD f n' tn') :: rest) news' ∧
          Above dx' ((a, instObj 104 da) :: (da, haD td l i9 t9) :: (l, ot) :: (f.rn, runO f) :: (f.drn, runD f) :: (f.ct, ctrO f) :: (f.dct, ctrD f) :: (f.hp, heapO f) :: (f.dhp, heapD f n tn) :: rest) ∧ dx' < x' ∧ ot2.IsDictOf (strKind prog w) (kvs ++ [(k, .ref x')])) (fun xx9 => False))
    (hc : σ[pre.length]? = some (.hash ks)) :
    Tel prog w 434 [.ref f.rn, .ref a, .str k tk] 40 180 (PS.led f ⟨pre ++ ⟨x, dx, d, .hash r dr a da l rd td i9 t9 ot kvs⟩ :: post, n, tn, zs, ze⟩ R)
      (fun v news' => ∃ S' y, PStep prog w f ⟨pre ++ ⟨x, dx, d, .hash r dr a da l rd td i9 t9 ot kvs⟩ :: post, n, tn, zs, ze⟩ S' R ((σ ++ [Cont.none]).set pre.length (.hash (ks ++ [(k, σ.length)]))) news' ∧ Xof S'.ps σ.length = some y ∧ v = .ref y) (fun xx9 => False) := by
  obtain ⟨uq, len, cm⟩ := G
  dsimp only at uq len cm
  have hn : (pre ++ (⟨x, dx, d, .hash r dr a da l rd td i9 t9 ot kvs⟩ : PN) :: post)[pre.length]? = some ⟨x, dx, d, .hash r dr a da l rd td i9 t9 ot kvs⟩ := by simp
  have P0 := @led_split f pre post ⟨x, dx, d, .hash r dr a da l rd td i9 t9 ot kvs⟩ n tn zs ze R
  have fit : Fits (hT f a da l x dx r dr d td rd i9 t9 ot n tn zs ze (Zof pre post R)) ((x, instObj 66 dx) :: (dx, scD d (.ref r)) :: (r, instObj 162 dr) :: (dr, refD rd a) :: (a, instObj 104 da) :: (da, haD td l i9 t9) :: (l, ot) :: fixedL f n tn zs ze (Zof pre post R)) := by exact fits_of [4, 4, 4, 4, 4, 6, 6, 6, 6] rfl
  have U1 := (uq.perm P0).fit fit
  have K1 := U1.ne (d := l) (by exact ext_of 2 rfl)
  have K2 := U1.ne (d := f.dhp) (by exact ext_of 8 rfl)
  refine Tel.mono (C _ (by exact apart_of K1 [0, 1, 2, 3, 4, 5, 6, 7] rfl) (fun p hp => K1 _ _ (by exact List.mem_of_mem_drop (i := 8) hp)) (by exact apart_of K2 [0, 1, 2, 3, 4, 5, 6, 7] rfl) (fun p hp => K2 _ _ (by exact List.mem_of_mem_drop (i := 8) hp))) (fun q hq => P0.mem_iff.mpr (fit.has q hq)) ?_ fun xx9 h => h
  rintro v news' ⟨x', dx', d2, n', tn', ot2, rfl, hh, ab, o1, ho2⟩
  have U2 : Uq ([(dx', scD d2 .none), (x', instObj 66 dx')] ++ hT f a da l x dx r dr d td rd i9 t9 ot n tn zs ze (Zof pre post R)) := U1.more ab (by (simp only [Chain, and_true]; omega))
  have P1 := @led_snoc f pre post ⟨x, dx, d, .hash r dr a da l rd td i9 t9 ot2 (kvs ++ [(k, .ref x')])⟩ ⟨x', dx', d2, .none⟩ n' tn' zs ze R
  have hn2 : ((pre ++ (⟨x, dx, d, .hash r dr a da l rd td i9 t9 ot kvs⟩ : PN) :: post) ++ [(⟨x', dx', d2, .none⟩ : PN)])[pre.length]? = some ⟨x, dx, d, .hash r dr a da l rd td i9 t9 ot kvs⟩ := by simp
  have U3 : Uq ([(dx', scD d2 .none), (x', instObj 66 dx')] ++ hT f a da l x dx r dr d td rd i9 t9 ot2 n' tn' zs ze (Zof pre post R)) := U2.addr rfl
  have hX : Xof ((pre ++ (⟨x, dx, d, .hash r dr a da l rd td i9 t9 ot kvs⟩ : PN) :: post) ++ [(⟨x', dx', d2, .none⟩ : PN)]) σ.length = some x' := by unfold Xof; rw [← len]; simp
  refine ⟨⟨((pre ++ (⟨x, dx, d, .hash r dr a da l rd td i9 t9 ot kvs⟩ : PN) :: post) ++ [(⟨x', dx', d2, .none⟩ : PN)]).set pre.length ⟨x, dx, d, .hash r dr a da l rd td i9 t9 ot2 (kvs ++ [(k, .ref x')])⟩, n', tn', zs, ze⟩, x',
    ⟨⟨?_, by simp at len ⊢; omega, CMs.set (n' := ⟨x, dx, d, .hash r dr a da l rd td i9 t9 ot2 (kvs ++ [(k, .ref x')])⟩) (c' := .hash (ks ++ [(k, σ.length)])) (CMs.add cm len rfl) hn2 rfl ⟨ho2, (cm _ _ _ hn hc).2.1, ((cm _ _ _ hn hc).2.2.mono (KvR.mono Xof_add)).append (.cons ⟨rfl, x', hX, rfl⟩ .nil)⟩⟩, ?_,
      fun c y hcy => (congrFun (Xof_set (n' := ⟨x, dx, d, .hash r dr a da l rd td i9 t9 ot2 (kvs ++ [(k, .ref x')])⟩) hn2 rfl) c).trans (Xof_add c y hcy), rfl, rfl⟩, (congrFun (Xof_set (n' := ⟨x, dx, d, .hash r dr a da l rd td i9 t9 ot2 (kvs ++ [(k, .ref x')])⟩) hn2 rfl) _).trans hX, rfl⟩
  · rw [set_mid2]
    exact ((U3.fit (l' := PN.blk ⟨x, dx, d, .hash r dr a da l rd td i9 t9 ot2 (kvs ++ [(k, .ref x')])⟩ ++ fixedL f n' tn' zs ze (PN.blk ⟨x', dx', d2, .none⟩ ++ Zof pre post R)) (by
      show Fits ((x, instObj 66 dx) :: (dx, scD d (.ref r)) :: (r, instObj 162 dr) :: (dr, refD rd a) :: (a, instObj 104 da) :: (da, haD td l i9 t9) :: (l, ot2) :: fixedL f n' tn' zs ze ((x', instObj 66 dx') :: (dx', scD d2 .none) :: Zof pre post R)) ((dx', scD d2 .none) :: (x', instObj 66 dx') :: hT f a da l x dx r dr d td rd i9 t9 ot2 n' tn' zs ze (Zof pre post R))
      exact fits_of [11, 11, 11, 11, 2, 2, 2, 2, 2, 6, 6, 2, 2, 2, 2, 2, 2, 1] rfl)).perm snoc_perm.symm).perm P1.symm
  · rw [set_mid2]
    refine fun q hq => hh q ((Fits.has (T := PN.blk ⟨x, dx, d, .hash r dr a da l rd td i9 t9 ot2 (kvs ++ [(k, .ref x')])⟩ ++ fixedL f n' tn' zs ze (PN.blk ⟨x', dx', d2, .none⟩ ++ Zof pre post R)) ?_) q (snoc_perm.mem_iff.mp (P1.mem_iff.mp hq)))
    show Fits ((x, instObj 66 dx) :: (dx, scD d (.ref r)) :: (r, instObj 162 dr) :: (dr, refD rd a) :: (a, instObj 104 da) :: (da, haD td l i9 t9) :: (l, ot2) :: fixedL f n' tn' zs ze ((x', instObj 66 dx') :: (dx', scD d2 .none) :: Zof pre post R)) _
    exact fits_of [11, 11, 11, 11, 2, 2, 2, 2, 2, 6, 6, 2, 2, 2, 2, 2, 2] rfl
theorem helem_s {prog : Program} {w : World} {f : Fix} {S : PS} {R : Led} {σ : List Cont} {j : Nat} {n : PN} {ks : List (Str × Nat)} {k : Str} {tk : Tok} (ok : f.Ok prog w) (G : PGood prog w f S R σ) (hn : S.ps[j]? = some n) (hc : σ[j]? = some (.hash ks)) (hsz : ks.length ≤ 1000) :
    Tel prog w 434 [.ref f.rn, .ref n.b.thing, .str k tk] 40 180 (S.led f R)
      (fun v news' => ∃ S' σ' c y, helemS σ j k = some (σ', c) ∧ PStep prog w f S S' R σ' news' ∧ Xof S'.ps c = some y ∧ v = .ref y) (fun xx9 => False) := by
  have hb := G.cm _ _ _ hn hc
  obtain ⟨x, dx, d, b⟩ := n
  obtain ⟨r, dr, a, da, l, rd, td, i9, t9, ot, kvs, rfl⟩ := CM.invH hb
  obtain ⟨hot, hl, hit⟩ := hb
  have hlen := hit.length
  have hB := blk_has (f := f) (R := R) hn
  have hF : Has (fixedL f S.n S.tn S.zs S.ze (S.ps.flatMap PN.blk ++ R)) (S.led f R) := fun xx9 h => h
  have hT : Has ((a, instObj 104 da) :: (da, haD td l i9 t9) :: (l, ot) :: (f.rn, runO f) :: (f.drn, runD f) :: (f.ct, ctrO f) :: (f.dct, ctrD f) :: S.led f R) (S.led f R) :=
    has_cons (hB _ (at_ 4 rfl)) (has_cons (hB _ (at_ 5 rfl)) (has_cons (hB _ (at_ 6 rfl)) (has_cons (hF _ (at_ 0 rfl)) (has_cons (hF _ (at_ 1 rfl)) (has_cons (hF _ (at_ 4 rfl)) (has_cons (hF _ (at_ 5 rfl)) fun xx9 h => h))))))
  have hU : ∀ news, Has ((a, instObj 104 da) :: (da, haD td l i9 t9) :: (l, ot) :: (f.rn, runO f) :: (f.drn, runD f) :: (f.ct, ctrO f) :: (f.dct, ctrD f) :: S.led f R) news → Has (S.led f R) news :=
    fun xx9 h => has_tail (has_tail (has_tail (has_tail (has_tail (has_tail (has_tail h))))))
  have hlk := look_kv (k := k) hit
  cases hv : lookS ks k with
  | some c =>
    rw [hv] at hlk
    obtain ⟨y, hy, hva⟩ := hlk
    refine Tel.mono (helem_old (rest := S.led f R) ok hot hl (by omega) hva) hT (fun v n h => ?_) fun xx9 h => h.elim
    refine ⟨S, σ, c, y, ?_, .same G (hU _ h.2), hy, h.1⟩
    unfold helemS; rw [hc]; dsimp only; rw [hv]
  | none =>
    rw [hv] at hlk
    clear hT hU hF hB
    obtain ⟨ps, n, tn, zs, ze⟩ := S
    obtain ⟨pre, post, rfl, rfl⟩ := split_at hn
    refine Tel.mono (helem_new_s G (fun rest a1 b1 a2 b2 => helem_new ok hot hl (by omega) hlk a1 b1 a2 b2) hc) (fun xx9 h => h) ?_ fun xx9 h => h.elim
    rintro v news ⟨S', y, h1, h2, h3⟩
    refine ⟨S', _, _, y, ?_, h1, h2, h3⟩
    unfold helemS; rw [hc]; dsimp only; rw [hv]
end
section
inductive Stp where | A (i : Int) | H (k : Str) | S
noncomputable def Stp.kd : Stp → Kd | .A _ => .A | .H _ => .H | .S => .S
noncomputable def stepS (σ : List Cont) (j : Nat) (s : Stp) : List Cont × Option Nat :=
  match vivS σ j s.kd with
  | none => (σ, none)
  | some σ1 => match s with
    | .A i => match elemS σ1 j i with | none => (σ1, none) | some (σ2, c) => (σ2, some c)
    | .H k => match helemS σ1 j k with | none => (σ1, none) | some (σ2, c) => (σ2, some c)
    | .S => match σ1[j]? with | some (.sc c) => (σ1, some c) | _ => (σ1, none)
noncomputable def walkS : List Cont → Nat → List Stp → List Cont × Option Nat
  | σ, j, [] => (σ, some j)
  | σ, j, s :: r => match stepS σ j s with | (σ', some c) => walkS σ' c r | (σ', none) => (σ', none)
noncomputable def Stp.arg : Stp → Value → Prop
  | .A i, v => ∃ t, v = .int i t ∧ -2 ≤ i ∧ i ≤ 8
  | .H k, v => ∃ t, v = .str k t
  | .S, v => ∃ t, v = .int 0 t
noncomputable def StepR (R : Led) (v : Value) (s : Stp) : Prop := ∃ (T n : Nat) (tk : Tok) (u : Value), v = .ref T ∧ (T, ({ cls := .type "tuple", data := .seq #[.str s.kd.str tk, u] n } : Obj)) ∈ R ∧ s.arg u
theorem led_cons {f : Fix} {S : PS} {R : Led} {q : Addr × Obj} : (S.led f (q :: R)).Perm (q :: S.led f R) := by
  unfold PS.led
  have h : ∀ A B : Led, (A ++ q :: B).Perm (q :: (A ++ B)) := fun A B => List.perm_middle
  have h1 := h [(f.rn, runO f), (f.drn, runD f), (f.li, limO f), (f.dli, limD f), (f.ct, ctrO f), (f.dct, ctrD f), (f.hp, heapO f), (f.dhp, heapD f S.n S.tn), (f.pl, f.po), (f.zr, listOf S.zs S.ze)] (S.ps.flatMap PN.blk ++ R)
  refine List.Perm.trans ?_ h1
  exact (h (S.ps.flatMap PN.blk) R).append_left [(f.rn, runO f), (f.drn, runD f), (f.li, limO f), (f.dli, limD f), (f.ct, ctrO f), (f.dct, ctrD f), (f.hp, heapO f), (f.dhp, heapD f S.n S.tn), (f.pl, f.po), (f.zr, listOf S.zs S.ze)]
theorem Uq.cons {q : Addr × Obj} {l : Led} (h : Uq l) (o : ∀ p ∈ l, p.1 ≠ q.1) : Uq (q :: l) := by
  unfold Uq at *
  rw [List.map_cons, List.nodup_cons]
  refine ⟨fun hm => ?_, h⟩
  obtain ⟨p, hp, e⟩ := List.mem_map.mp hm
  exact o p hp e
theorem PGood.cons {prog : Program} {w : World} {f : Fix} {S : PS} {R : Led} {σ : List Cont} {q : Addr × Obj} (G : PGood prog w f S R σ) (o : ∀ p ∈ S.led f R, p.1 ≠ q.1) : PGood prog w f S (q :: R) σ := ⟨(G.uq.cons o).perm led_cons.symm, G.len, G.cm⟩
theorem PGood.tail {prog : Program} {w : World} {f : Fix} {S : PS} {R : Led} {σ : List Cont} {q : Addr × Obj} (G : PGood prog w f S (q :: R) σ) : PGood prog w f S R σ ∧ ∀ p ∈ S.led f R, p.1 ≠ q.1 := by
  have h := G.uq.perm led_cons
  unfold Uq at h
  rw [List.map_cons, List.nodup_cons] at h
  exact ⟨⟨h.2, G.len, G.cm⟩, fun p hp e => h.1 (List.mem_map.mpr ⟨p, hp, e⟩)⟩
theorem m_two {m : Str → Option Value} {k1 k2 : Str} {v1 v2 : Value} (h1 : m k1 = some v1) (h2 : m k2 = some v2) : m = fun y => if y = k1 then some v1 else if y = k2 then some v2 else m y := by
  funext y
  by_cases e1 : y = k1
  · rw [if_pos e1, e1]; exact h1
  · rw [if_neg e1]
    by_cases e2 : y = k2
    · rw [if_pos e2, e2]; exact h2
    · rw [if_neg e2]
structure Wf (σ : List Cont) (k : Nat) : Prop where
  len : σ.length + 2 * k ≤ 900
  hash : ∀ (j : Nat) (ks : List (Str × Nat)), σ[j]? = some (.hash ks) → ks.length ≤ σ.length
structure WInv (prog : Program) (w : World) (f : Fix) (S : PS) (R : Led) (σ : List Cont) (j : Nat) (path : List Stp) (I : Addr) (vs1 : List Value) (m : Str → Option Value) (news : Led) (S1 : PS) (σ1 : List Cont) (j1 x1 : Nat) (path1 : List Stp) : Prop where
  led : news = S1.led f R
  off : ∀ p ∈ S1.led f R, p.1 ≠ I
  step : PStep prog w f S S1 R σ1 news
  x : Xof S1.ps j1 = some x1
  walk : walkS σ j path = walkS σ1 j1 path1
  items : All2 (StepR R) vs1 path1
  run : m "run" = some (.ref f.rn)
  scalar : m "scalar" = some (.ref x1)
  wf : Wf σ1 path1.length
set_option tactic.hygienic true in
theorem vivS_at {σ σ' : List Cont} {j : Nat} {k : Kd} (h : vivS σ j k = some σ') : ∃ c, σ'[j]? = some c ∧ c.kd = some k := by
  unfold vivS at h
  cases e : σ[j]? with
  | none => rw [e] at h; cases h
  | some c =>
    obtain ⟨hj, -⟩ := List.getElem?_eq_some_iff.mp e
    rw [e] at h
    cases c with
    | none =>
      cases k <;> (cases h; exact ⟨_, by rw [List.getElem?_set_self (by first | exact hj | (simp; omega))], rfl⟩)
    | _ =>
      dsimp only at h
      split at h
      · rename_i hk; cases h; exact ⟨_, e, hk⟩
      · cases h
theorem vivS_A {σ σ' : List Cont} {j : Nat} (h : vivS σ j .A = some σ') : ∃ items, σ'[j]? = some (.arr items) := by
  obtain ⟨c, h1, h2⟩ := vivS_at h
  cases c <;> first | cases h2; done | exact ⟨_, h1⟩
theorem vivS_H {σ σ' : List Cont} {j : Nat} (h : vivS σ j .H = some σ') : ∃ ks, σ'[j]? = some (.hash ks) := by
  obtain ⟨c, h1, h2⟩ := vivS_at h
  cases c <;> first | cases h2; done | exact ⟨_, h1⟩
theorem vivS_S {σ σ' : List Cont} {j : Nat} (h : vivS σ j .S = some σ') : ∃ c, σ'[j]? = some (.sc c) := by
  obtain ⟨c, h1, h2⟩ := vivS_at h
  cases c <;> first | cases h2; done | exact ⟨_, h1⟩
theorem set_hash {σ : List Cont} {i j : Nat} {c : Cont} {ks : List (Str × Nat)} (h : (σ.set i c)[j]? = some (.hash ks)) : c = .hash ks ∨ σ[j]? = some (.hash ks) := by
  rw [List.getElem?_set] at h
  split at h
  · split at h
    · left; cases h; rfl
    · cases h
  · exact .inr h
theorem add_hash {σ : List Cont} {j : Nat} {ks : List (Str × Nat)} (h : (σ ++ [Cont.none])[j]? = some (.hash ks)) : σ[j]? = some (.hash ks) := by
  by_cases hj : j < σ.length
  · rwa [List.getElem?_append_left hj] at h
  · rw [List.getElem?_append_right (by omega)] at h
    cases e : j - σ.length with
    | zero => rw [e] at h; simp at h
    | succ k => rw [e] at h; simp at h
theorem Wf.viv {σ σ' : List Cont} {k : Kd} {j n : Nat} (W : Wf σ n) (h : vivS σ j k = some σ') : (∀ (j : Nat) (ks : List (Str × Nat)), σ'[j]? = some (.hash ks) → ks.length ≤ σ'.length) ∧ σ.length ≤ σ'.length ∧ σ'.length ≤ σ.length + 1 ∧ (k ≠ .S → σ'.length = σ.length) := by
  unfold vivS at h
  cases e : σ[j]? with
  | none => rw [e] at h; cases h
  | some c =>
    rw [e] at h
    cases c with
    | none =>
      cases k with
      | A => cases h; exact ⟨fun i ks hi => by rw [List.length_set]; rcases set_hash hi with h | h; cases h; exact W.hash _ _ h, by simp, by simp, by simp⟩
      | H => cases h; exact ⟨fun i ks hi => by rw [List.length_set]; rcases set_hash hi with h | h; (cases h; exact Nat.zero_le _); exact W.hash _ _ h, by simp, by simp, by simp⟩
      | S => cases h; exact ⟨fun i ks hi => by rw [List.length_set, List.length_append]; rcases set_hash hi with h | h; cases h; exact Nat.le_trans (W.hash _ _ (add_hash h)) (Nat.le_add_right _ _), by simp, by simp, by simp⟩
    | _ =>
      dsimp only at h
      split at h
      · cases h; exact ⟨W.hash, Nat.le_refl _, Nat.le_succ _, fun xx9 => rfl⟩
      · cases h
theorem vivS_Hlen {σ σ' : List Cont} {j n : Nat} {k : Kd} {ks : List (Str × Nat)} (h : vivS σ j k = some σ') (W : Wf σ n) (hk : σ'[j]? = some (.hash ks)) : ks.length ≤ 1000 := by
  have h1 := W.viv h
  have h2 := h1.1 _ _ hk
  have h3 := W.len
  omega
theorem Wf.elem {σ σ' : List Cont} {j c n : Nat} {i : Int} (h0 : ∀ (j : Nat) (ks : List (Str × Nat)), σ[j]? = some (.hash ks) → ks.length ≤ σ.length) (hl : σ.length + 2 * n ≤ 899) (h : elemS σ j i = some (σ', c)) : Wf σ' n := by
  have up : ∀ its, Wf ((σ ++ [Cont.none]).set j (.arr its)) n := fun its => ⟨by simp; omega, fun i ks hi => by
    rw [List.length_set, List.length_append]
    rcases set_hash hi with h | h
    · cases h
    · exact Nat.le_trans (h0 _ _ (add_hash h)) (Nat.le_add_right _ _)⟩
  unfold elemS at h
  split at h
  · split at h
    · cases h
    · split at h <;> cases h
      · exact ⟨by omega, h0⟩
      · exact up _
      · exact up _
  · cases h
set_option tactic.hygienic true in
theorem Wf.helem {σ σ' : List Cont} {j c n : Nat} {k : Str} (h0 : ∀ (j : Nat) (ks : List (Str × Nat)), σ[j]? = some (.hash ks) → ks.length ≤ σ.length) (hl : σ.length + 2 * n ≤ 899) (h : helemS σ j k = some (σ', c)) : Wf σ' n := by
  unfold helemS at h
  split at h
  · rename_i ks0 e
    split at h <;> cases h
    · exact ⟨by omega, h0⟩
    · refine ⟨by simp; omega, fun i ks hi => ?_⟩
      rw [List.length_set, List.length_append]
      rcases set_hash hi with h | h
      · cases h
        have := h0 _ _ e
        simp
        omega
      · exact Nat.le_trans (h0 _ _ (add_hash h)) (Nat.le_add_right _ _)
  · cases h
theorem PStep.trans {prog : Program} {w : World} {f : Fix} {S S1 S2 : PS} {R : Led} {σ1 σ2 : List Cont} {n1 n2 : Led} (a : PStep prog w f S S1 R σ1 n1) (b : PStep prog w f S1 S2 R σ2 n2) : PStep prog w f S S2 R σ2 n2 :=
  ⟨b.good, b.has, fun c y h => b.keep c y (a.keep c y h), b.zs.trans a.zs, b.ze.trans a.ze⟩
theorem PStep.off {prog : Program} {w : World} {f : Fix} {S S1 : PS} {R : Led} {q : Addr × Obj} {σ1 : List Cont} {n1 n2 : Led} (b : PStep prog w f S S1 (q :: R) σ1 n1) (h : Has (S1.led f R) n2) : PStep prog w f S S1 R σ1 n2 := ⟨b.good.tail.1, h, b.keep, b.zs, b.ze⟩
theorem PStep.less {prog : Program} {w : World} {f : Fix} {S S1 : PS} {R : Led} {σ1 : List Cont} {n1 n2 : Led} (b : PStep prog w f S S1 R σ1 n1) (h : Has (S1.led f R) n2) : PStep prog w f S S1 R σ1 n2 := ⟨b.good, h, b.keep, b.zs, b.ze⟩
theorem led_off {f : Fix} {S : PS} {R : Led} {q : Addr × Obj} {n : Led} (h : Has (S.led f (q :: R)) n) : Has (S.led f R) n := fun p hp => h p (led_cons.mem_iff.mpr (.tail _ hp))
theorem WInv.next {prog : Program} {w : World} {f : Fix} {S S1 S3 : PS} {R : Led} {σ σ1 σ3 : List Cont} {j j1 c3 y3 I : Nat} {o : Obj} {path path2 : List Stp} {stp : Stp} {vs1 : List Value} {m : Str → Option Value} {n1 n3 : Led}
    (w3 : PStep prog w f S S1 R σ1 n1) (st : PStep prog w f S1 S3 ((I, o) :: R) σ3 n3) (hX : Xof S3.ps c3 = some y3) (w5 : walkS σ j path = walkS σ1 j1 (stp :: path2)) (hs : stepS σ1 j1 stp = (σ3, some c3)) (w6 : All2 (StepR R) vs1 path2)
    (hr : m "run" = some (.ref f.rn)) (hsc : m "scalar" = some (.ref y3)) (wf : Wf σ3 path2.length) : WInv prog w f S R σ j path I vs1 m (S3.led f R) S3 σ3 c3 y3 path2 :=
  ⟨rfl, st.good.tail.2, w3.trans (st.off fun xx9 h => h), hX, by rw [w5, walkS, hs], w6, hr, hsc, wf⟩
theorem stepS_A {σ σ1 σ2 : List Cont} {j c : Nat} {i : Int} (h1 : vivS σ j .A = some σ1) (h2 : elemS σ1 j i = some (σ2, c)) : stepS σ j (.A i) = (σ2, some c) := by
  unfold stepS; rw [show (Stp.A i).kd = .A from rfl, h1]; dsimp only; rw [h2]
theorem stepS_An {σ σ1 : List Cont} {j : Nat} {i : Int} (h1 : vivS σ j .A = some σ1) (h2 : elemS σ1 j i = none) : stepS σ j (.A i) = (σ1, none) := by
  unfold stepS; rw [show (Stp.A i).kd = .A from rfl, h1]; dsimp only; rw [h2]
theorem stepS_H {σ σ1 σ2 : List Cont} {j c : Nat} {k : Str} (h1 : vivS σ j .H = some σ1) (h2 : helemS σ1 j k = some (σ2, c)) : stepS σ j (.H k) = (σ2, some c) := by
  unfold stepS; rw [show (Stp.H k).kd = .H from rfl, h1]; dsimp only; rw [h2]
theorem stepS_S {σ σ1 : List Cont} {j c : Nat} (h1 : vivS σ j .S = some σ1) (h2 : σ1[j]? = some (.sc c)) : stepS σ j .S = (σ1, some c) := by
  unfold stepS; rw [show Stp.S.kd = .S from rfl, h1]; dsimp only; rw [h2]
theorem stepS_n {σ : List Cont} {j : Nat} {s : Stp} (h1 : vivS σ j s.kd = none) : stepS σ j s = (σ, none) := by
  unfold stepS; rw [h1]
theorem walkS_n {σ σ0 σ1 : List Cont} {j j0 : Nat} {s : Stp} {r p0 : List Stp} (w : walkS σ0 j0 p0 = walkS σ j (s :: r)) (h : stepS σ j s = (σ1, none)) : walkS σ0 j0 p0 = (σ1, none) := by
  rw [w, walkS, h]
theorem Wf.A {σ σ1 σ2 : List Cont} {j c n : Nat} {i : Int} (W : Wf σ (n + 1)) (h1 : vivS σ j .A = some σ1) (h2 : elemS σ1 j i = some (σ2, c)) : Wf σ2 n := by
  obtain ⟨a, b, d, e⟩ := W.viv h1
  have := W.len
  exact Wf.elem a (by omega) h2
theorem Wf.H {σ σ1 σ2 : List Cont} {j c n : Nat} {k : Str} (W : Wf σ (n + 1)) (h1 : vivS σ j .H = some σ1) (h2 : helemS σ1 j k = some (σ2, c)) : Wf σ2 n := by
  obtain ⟨a, b, d, e⟩ := W.viv h1
  have := W.len
  exact Wf.helem a (by omega) h2
theorem Wf.S {σ σ1 : List Cont} {j n : Nat} (W : Wf σ (n + 1)) (h1 : vivS σ j .S = some σ1) : Wf σ1 n := by
  obtain ⟨a, b, d, e⟩ := W.viv h1
  have := W.len
  exact ⟨by omega, a⟩
theorem thing_S {prog : Program} {w : World} {f : Fix} {S : PS} {R : Led} {σ0 σ : List Cont} {j : Nat} {n : PN} (G : PGood prog w f S R σ) (hn : S.ps[j]? = some n) (h : vivS σ0 j .S = some σ) : ∃ c, σ[j]? = some (.sc c) ∧ Xof S.ps c = some n.b.thing := by
  obtain ⟨c, hc⟩ := vivS_S h
  have hb := G.cm _ _ _ hn hc
  obtain ⟨x, dx, d, b⟩ := n
  cases b <;> try exact hb.elim
  exact ⟨c, hc, hb⟩
theorem walk_tel {prog : Program} {w : World} {f : Fix} {S : PS} {R : Led} {σ : List Cont} {j x pl e : Nat} {vs : List Value} {path : List Stp} (ok : f.Ok prog w) (G : PGood prog w f S R σ) (hx : Xof S.ps j = some x) (hp : (pl, listOf vs.toArray e) ∈ R) (hv : All2 (StepR R) vs path) (hw : Wf σ path.length) :
    Tel prog w 455 [.ref f.rn, .ref x, .ref pl] 60 300 (S.led f R)
      (fun v news' => ∃ S' σ' c y, walkS σ j path = (σ', some c) ∧ PStep prog w f S S' R σ' news' ∧ Xof S'.ps c = some y ∧ v = .ref y) (fun news' => ∃ S' σ', walkS σ j path = (σ', none) ∧ PStep prog w f S S' R σ' news') := by
  k_dflt (refine' Tel.ofM (dn := 59) (un' := 297) ?k6 ?k7 ?k9 ?kB ?c2 ?c3 ?c4 ?c5 ?_; (case k6 => k_is); (case k7 => k_is); (case k9 => exact fun s X => BindsTo.of_eq rfl); (case kB => exact locs rfl); (case c5 => decide); (case c2 => exact rfl); (case c3 => exact rfl); (case c4 => exact rfl))
  intro Q Z q1 _ z Γ
  refine M.forPairs rfl rfl rfl (rest_has _ hp) rfl rfl (fun I vs1 m1 G1 => ∃ S1 σ1 j1 x1 path1, WInv prog w f S R σ j path I vs1 m1 G1 S1 σ1 j1 x1 path1)
    (fun I hI => ⟨S, σ, j, x, path, rfl, fun p hp => Nat.ne_of_lt (hI p hp), .same G fun xx9 h => h, hx, rfl, hv, look_at rfl, look_at rfl, hw⟩) (fun I v vs1 m1 G1 hi => ?_) fun I m1 G1 hi => ?_
  · obtain ⟨S1, σ1, j1, x1, path1, rfl, w2, w3, w4, w5, w6, w7, w8, w9⟩ := hi
    cases w6 with
    | @cons xx9 stp xx9 path2 hst w6 =>
    obtain ⟨T', n, tk', u, rfl, hTm, hua⟩ := hst
    refine ⟨T', n, .str stp.kd.str tk', u, [("run", .ref f.rn), ("scalar", .ref x1)], rfl, rest_has _ hTm, look_add1 (look_add1 look_base w8) w7, fun o Q2 xx9 qn => Cx.N_ok (n := 90) (M.lets ?_)⟩
    intro Γw mlw gw
    have G1 := PGood.cons (q := (I, o)) w3.good w2
    refine M.tel (viv_s (k := stp.kd) ok G1 w4) (has_perm' led_cons) (Nat.le_of_ble_eq_true rfl) (Nat.le_of_ble_eq_true rfl) (fun G' q => z G' ⟨S1, σ1, walkS_n w5 (stepS_n q.1), PStep.less (R := R) ⟨w3.good, fun xx9 h => h, w3.keep, w3.zs, w3.ze⟩ (led_off q.2)⟩) ?_
    rintro _ G2 ⟨S2, n2, σ2, hv2, st2, hn2, rfl⟩
    cases stp with
    | A i =>
      obtain ⟨tu, rfl, hi0, hi1⟩ := hua
      intro t1
      refine M.eqS true (by show (("A" : Str) == ("A" : Str)) = true; decide +kernel) ?_
      have hA := (vivS_A hv2).choose_spec
      refine M.tel (elem_s ok st2.good hn2 hA) st2.has (Nat.le_of_ble_eq_true rfl) (Nat.le_of_ble_eq_true rfl) (fun G' q => z G' ⟨_, _, walkS_n w5 (stepS_An hv2 q.1), PStep.trans w3 (PStep.off (q := (I, o)) st2 (led_off q.2))⟩) ?_
      rintro _ G3 ⟨S3, σ3, c3, y3, he3, st3, hX3, rfl⟩
      exact qn _ _ ⟨_, Has.trans (has_perm led_cons) st3.has, (PGood.tail (q := (I, o)) st3.good).2, rest_has _ hp, _, _, _, _, path2, WInv.next w3 (PStep.trans st2 st3) hX3 w5 (stepS_A hv2 he3) w6 (look_at rfl) (look_at rfl) (Wf.A w9 hv2 he3)⟩
    | H k =>
      obtain ⟨tu, rfl⟩ := hua
      intro t1
      refine M.eqS false (by show (("H" : Str) == ("A" : Str)) = false; decide +kernel) ?_
      intro t2
      refine M.eqS true (by show (("H" : Str) == ("H" : Str)) = true; decide +kernel) ?_
      have hH := (vivS_H hv2).choose_spec
      refine M.tel (helem_s ok st2.good hn2 hH (vivS_Hlen hv2 w9 hH)) st2.has (Nat.le_of_ble_eq_true rfl) (Nat.le_of_ble_eq_true rfl) (fun xx9 q => q.elim) ?_
      rintro _ G3 ⟨S3, σ3, c3, y3, he3, st3, hX3, rfl⟩
      exact qn _ _ ⟨_, Has.trans (has_perm led_cons) st3.has, (PGood.tail (q := (I, o)) st3.good).2, rest_has _ hp, _, _, _, _, path2, WInv.next w3 (PStep.trans st2 st3) hX3 w5 (stepS_H hv2 he3) w6 (look_at rfl) (look_at rfl) (Wf.H w9 hv2 he3)⟩
    | S =>
      intro t1
      refine M.eqS false (by decide +kernel) ?_
      intro t2
      refine M.eqS false (by decide +kernel) ?_
      obtain ⟨c3, hc3, hX3⟩ := thing_S st2.good hn2 hv2
      exact qn _ _ ⟨_, Has.trans (has_perm led_cons) st2.has, (PGood.tail (q := (I, o)) st2.good).2, rest_has _ hp, _, _, _, _, path2, WInv.next w3 (st2) hX3 w5 (stepS_S hv2 hc3) w6 (look_at rfl) (look_at rfl) (Wf.S w9 hv2)⟩
  · obtain ⟨S1, σ1, j1, x1, path1, rfl, w2, w3, w4, w5, w6, w7, w8, w9⟩ := hi
    cases w6
    exact ⟨[("scalar", .ref x1)], look_add1 look_base w8, q1 _ _ _ ⟨S1, σ1, j1, x1, w5, w3, w4, rfl⟩⟩
end
section
theorem one_get {prog : Program} {w : World} {A : Around} {E : Value → Shared → Prop} {s : Shared} {h₀ : Heap} {L : Addr} {news : Led} {l e : Nat} {v : Value} {value slice : PySem.Expr} {u : Tok} {Q : Value → Shared → Prop} (N : News h₀ L s.heap news) (hm : (l, listOf #[v] e) ∈ news)
    (h : Q v s) (hs : subscripted slice false (.ref l) (.int 0 u) = operate [.ref l, .int 0 u] (getItem (.ref l) (.int 0 u))) :
    wpAny (model prog w) A (subscriptTail value slice (.ref l) (.int 0 u)) Q E s := item_is N hm (Int.le_refl 0) (show (1 : Nat) ≤ 1000 by decide) rfl h hs
theorem tup_get0 {prog : Program} {w : World} {A : Around} {E : Value → Shared → Prop} {s : Shared} {h₀ : Heap} {L : Addr} {news : Led} {T n : Nat} {a b : Value} {value slice : PySem.Expr} {u : Tok} {Q : Value → Shared → Prop} (N : News h₀ L s.heap news) (hm : (T, ({ cls := .type "tuple", data := .seq #[a, b] n } : Obj)) ∈ news)
    (h : Q a s) (hs : subscripted slice false (.ref T) (.int 0 u) = operate [.ref T, .int 0 u] (getItem (.ref T) (.int 0 u))) :
    wpAny (model prog w) A (subscriptTail value slice (.ref T) (.int 0 u)) Q E s :=
  item_tupleT (l := [a, b]) (j := 0) ⟨_, (N _ hm).1, rfl, n, rfl⟩ (by decide) (by decide) rfl rfl h hs
theorem tup_get1 {prog : Program} {w : World} {A : Around} {E : Value → Shared → Prop} {s : Shared} {h₀ : Heap} {L : Addr} {news : Led} {T n : Nat} {a b : Value} {value slice : PySem.Expr} {u : Tok} {Q : Value → Shared → Prop} (N : News h₀ L s.heap news) (hm : (T, ({ cls := .type "tuple", data := .seq #[a, b] n } : Obj)) ∈ news)
    (h : Q b s) (hs : subscripted slice false (.ref T) (.int 1 u) = operate [.ref T, .int 1 u] (getItem (.ref T) (.int 1 u))) :
    wpAny (model prog w) A (subscriptTail value slice (.ref T) (.int 1 u)) Q E s :=
  item_tupleT (l := [a, b]) (j := 1) ⟨_, (N _ hm).1, rfl, n, rfl⟩ (by decide) (by decide) rfl rfl h hs
theorem isi_tt {prog : Program} {w : World} {A : Around} {E : Value → Shared → Prop} {s : Shared} {h₀ : Heap} {L : Addr} {news : Led} {T n : Nat} {xs : Array Value} {Q : Value → Shared → Prop} (N : News h₀ L s.heap news) (hm : (T, ({ cls := .type "tuple", data := .seq xs n } : Obj)) ∈ news) (h : Q (.bool true) s) :
    wpAny (model prog w) A (call (.builtin "isinstance") [.ref T, .type "tuple"]) Q E s := IsiPair.tuple_tuple (N _ hm).1 rfl h
end
section
theorem isi_tplain {prog : Program} {w : World} {A : Around} {E : Value → Shared → Prop} {s : Shared} {v : Value} {Q : Value → Shared → Prop} (hv : Plain v) (h : ∀ tk, Q (.bool false) { s with toks := tk }) : wpAny (model prog w) A (call (.builtin "isinstance") [v, .type "tuple"]) Q E s := by
  rcases hv with rfl | ⟨_, _, rfl⟩ | ⟨_, _, rfl⟩
  · exact IsiPair.NoneType_tuple (h _)
  · exact IsiPair.int_tuple (h _)
  · exact IsiPair.str_tuple (h _)
theorem exec_one (s : Stmt) (env : Env) : execs [s] env = exec s env := by
  have e : (fun f : Flow => (match f with | .next => execs [] env | f => pure f : Sem Flow)) = pure := by
    funext f
    cases f <;> rfl
  have h := execs_cons (env := env) s []
  rw [h]
  exact (congrArg (fun k => exec s env >>= k) e).trans (_root_.bind_pure _)
namespace M
variable {Γ : Cx} {K : List Fm} {ml : Ml} {G : Led}
theorem isiTup {T n : Nat} {xs : Array Value} (hm : (T, ({ cls := .type "tuple", data := .seq xs n } : Obj)) ∈ G) (h : Γ.N 90 (.sg (.v (.bool true))) K ml G) : Γ.W (.cl (.cal (.builtin "isinstance")) [.ref T, .type "tuple"]) K ml G :=
  leafN (t := PySem.call (.builtin "isinstance") [.ref T, .type "tuple"]) rfl (.bool true) (fun xx9 xx9 N q => isi_tt N hm (q _)) h
theorem isiTupNo {v : Value} (hv : Plain v) (h : Γ.N 90 (.sg (.v (.bool false))) K ml G) : Γ.W (.cl (.cal (.builtin "isinstance")) [v, .type "tuple"]) K ml G :=
  leafN (t := PySem.call (.builtin "isinstance") [v, .type "tuple"]) rfl (.bool false) (fun xx9 xx9 xx9 q => isi_tplain hv q) h
theorem tup0 {T n : Nat} {a b : Value} {ex sl : PySem.Expr} {u : Tok} (hm : (T, ({ cls := .type "tuple", data := .seq #[a, b] n } : Obj)) ∈ G) (hs : subscripted sl false (.ref T) (.int 0 u) = operate [.ref T, .int 0 u] (getItem (.ref T) (.int 0 u))) (h : Γ.N 90 (.sg (.v a)) K ml G) : Γ.W (.gi ex sl (.ref T) (.int 0 u)) K ml G :=
  leafN rfl a (fun xx9 xx9 N q => tup_get0 N hm (q _) hs) h
theorem tup1 {T n : Nat} {a b : Value} {ex sl : PySem.Expr} {u : Tok} (hm : (T, ({ cls := .type "tuple", data := .seq #[a, b] n } : Obj)) ∈ G) (hs : subscripted sl false (.ref T) (.int 1 u) = operate [.ref T, .int 1 u] (getItem (.ref T) (.int 1 u))) (h : Γ.N 90 (.sg (.v b)) K ml G) : Γ.W (.gi ex sl (.ref T) (.int 1 u)) K ml G :=
  leafN rfl b (fun xx9 xx9 N q => tup_get1 N hm (q _) hs) h
theorem one {l n : Nat} {a : Value} {ex sl : PySem.Expr} {u : Tok} (hm : (l, listOf #[a] n) ∈ G) (hs : subscripted sl false (.ref l) (.int 0 u) = operate [.ref l, .int 0 u] (getItem (.ref l) (.int 0 u))) (h : Γ.N 90 (.sg (.v a)) K ml G) : Γ.W (.gi ex sl (.ref l) (.int 0 u)) K ml G :=
  leafN rfl a (fun xx9 xx9 N q => one_get N hm (q _) hs) h
theorem cut {s : Stmt} {rest : List Stmt} (P : (Str → Option Value) → Led → Prop) (h1 : ∀ Q2 : Flow → (Str → Option Value) → Led → Prop, (∀ m G, P m G → Q2 .next m G) → (∀ u m G, Γ.run K (.f (.ret u)) m G → Q2 (.ret u) m G) → Cx.N (Γ.wQ Q2) 90 (.st [s]) [] ml G)
    (h2 : ∀ m G', P m G' → ∃ l, look ⟨l, m⟩ = m ∧ Γ.N 90 (.st rest) K ⟨l, m⟩ G') : Γ.W (.st (s :: rest)) K ml G := by
  have h1 := Cx.N_ok (h1 (fun fl m G => match fl with | .next => P m G | fl => Γ.run K (.f fl) m G) (fun xx9 xx9 q => q) fun xx9 xx9 xx9 q => q)
  unfold Cx.W at h1 ⊢
  have go : ∀ m G', P m G' → Γ.T (execs rest) m G' (fun f => Γ.run K (.f f)) := fun m G' hp => by
    obtain ⟨l, e, h⟩ := h2 m G' hp
    have h := Cx.N_ok h
    unfold Cx.W at h
    rwa [e] at h
  refine R.cons ?_
  refine Wt.mono (?_ : Γ.T (exec s) (look ml) G (fun f m G' => match f with | .next => P m G' | fl => Γ.run K (.f fl) m G')) (fun f m G' q => ?_) fun xx9 => id
  · unfold Cx.T Wt at h1 ⊢
    intro p loose mean mg mb dp un gd outer A₀ base h₀ L s' Q' E' B F X N T hd hu ret exc
    have k := h1 p loose mean mg mb dp un gd outer A₀ base h₀ L s' Q' E' B F X N T hd hu (fun f m G' h' tk' F' N' q => ret f m G' h' tk' F' N' (by cases f <;> exact q)) exc
    dsimp only at k
    rwa [exec_one] at k
  · cases f with
    | next => exact go _ _ q
    | _ => exact q
theorem dict3 {p1 p2 p3 pa ph ps pn pos : Pos} {k1 k2 k3 k4 : Nat} (h : ∀ D l1 dd l3 oD od, Above D G → @LT.lt Nat _ D l1 → @LT.lt Nat _ l1 dd → @LT.lt Nat _ dd l3 → oD.IsDictOf (strKind Γ.prog Γ.w) [("A", .ref l1), ("H", .ref dd), ("S", .ref l3)] → od.IsDictOf (strKind Γ.prog Γ.w) [] → Γ.N 90 (.sg (.v (.ref D))) K ml ((l3, listOf #[.none] 0) :: (dd, od) :: (l1, listOf #[] 0) :: (D, oD) :: G)) :
    Γ.W (.ev (.Dict [some (.Constant (.str "A") k1 p1), some (.Constant (.str "H") k2 p2), some (.Constant (.str "S") k3 p3)] [.List [] pa, .Dict [] [] ph, .List [.Constant .none k4 pn] ps] pos)) K ml G := by
  intro p loose mean mg mb dp un gd outer A₀ base h₀ L s Q' E' B F X N T hd hu ret exc
  refine kdn_str rfl F N T.nolimit rfl rfl (List.cons_ne_nil _ _) (Nat.le_of_ble_eq_true rfl) fun D h1 o F1 N1 hD xx9 hd0 => ?_
  refine pairTrees_cons_walk (wpAny_Constant_str ?_)
  refine List_ (args_nil (newList_K (vs := []) F1 N1 (fun l1 h2 F2 N2 a1 => ?_) (by decide)))
  refine pairTrees_cons_walk (wpAny_Constant_str ?_)
  refine newDict_K F2 N2 T.nolimit fun dd h3 od F3 N3 a2 xx9 hs xx9 xx9 xx9 => ?_
  refine pairTrees_cons_walk (wpAny_Constant_str ?_)
  refine List_ (args_cons (wpAny_Constant_none (args_nil (newList_K (vs := [.none]) F3 N3 (fun l3 h4 F4 N4 a3 => ?_) (by decide)))) rfl)
  refine pairTrees_nil_walk ?_
  have d1 := a1 _ (.head _)
  have d2 := a2 _ (.head _)
  have d3 := a3 _ (.head _)
  have d12 := a2 _ (.tail _ (.head _))
  refine kdn_made_str F4 N4 (.tail (Nat.ne_of_gt (a3 _ (.tail _ (.tail _ (.head _))))) (.tail (Nat.ne_of_gt d12) (.tail (Nat.ne_of_gt d1) (.head fun p hp => Nat.ne_of_lt (hD p hp))))) hd0 (by kernel_rfl) (of_decide_eq_true (by kernel_rfl)) fun h5 oD F5 N5 hd5 => ?_
  exact ret _ _ _ _ _ F5 N5 (Cx.N_ok (h D l1 dd l3 oD od hD d1 d2 d3 hd5 hs))
end M
end
section
theorem own_leaf {prog : Program} {w : World} {k : Nat} {v : Value} {dv : Dat} {GL : Led} (hv : Plain v) (hd : DatIn [] v dv) : RT prog w 605 k v dv GL := by
  k_dflt (refine' Tel.ofCell (dn := 20 * k + 19) (un' := 100 * k + 57) (xc := "value") (ov := some (v)) (l := []) ?k6 ?k7 ?k9 ?kB ?cA ?cB ?cC ?c2 ?c3 ?c4 ?_; (case k6 => k_is); (case k7 => k_is); (case k9 => exact fun s X => BindsTo.of_eq rfl); (case kB => exact rfl); (case cA => exact fun n => rfl); (case cB => exact fun n => rfl); (case cC => exact fun n => rfl); (case c2 => exact rfl); (case c3 => exact rfl); (case c4 => exact rfl))
  intro Q L c o hc a q1 _ Γ
  refine M.cell rfl rfl (.head _) hc rfl ?_
  refine M.isiTupNo hv ?_
  refine M.cell rfl rfl (.head _) hc rfl ?_
  exact q1 _ _ _ (tp_leaf (fun p hp => .tail _ hp) hd)
theorem own_S {prog : Program} {w : World} {T tn c e k : Nat} {tk : Tok} {v : Value} {dv : Dat} {GL : Led} (h1 : (T, ({ cls := .type "tuple", data := .seq #[.str "S" tk, .ref c] tn } : Obj)) ∈ GL) (h2 : (c, listOf #[v] e) ∈ GL)
    (C : ∀ G', Has GL G' → RT prog w 605 k v dv G') : RT prog w 605 (k + 1) (.ref T) (.tuple [.str "S", .list [dv]]) GL := by
  k_dflt (refine' Tel.ofCell (dn := 20 * (k + 1) + 19) (un' := 100 * (k + 1) + 57) (xc := "value") (ov := some (.ref T)) (l := []) ?k6 ?k7 ?k9 ?kB ?cA ?cB ?cC ?c2 ?c3 ?c4 ?_; (case k6 => k_is); (case k7 => k_is); (case k9 => exact fun s X => BindsTo.of_eq rfl); (case kB => exact rfl); (case cA => exact fun n => rfl); (case cB => exact fun n => rfl); (case cC => exact fun n => rfl); (case c2 => exact rfl); (case c3 => exact rfl); (case c4 => exact rfl))
  intro Q L c0 o hc a q1 _ Γ
  refine M.cell rfl rfl (.head _) hc rfl ?_
  refine M.isiTup (.tail _ h1) ?_
  refine M.cell rfl rfl (.head _) hc rfl ?_
  refine fun t0 => M.tup0 (.tail _ h1) (by with_unfolding_all rfl) ?_
  refine fun t1 => M.eqS false (by decide) ?_
  refine M.cell rfl rfl (.head _) hc rfl ?_
  refine fun t2 => M.tup0 (.tail _ h1) (by with_unfolding_all rfl) ?_
  refine fun t3 => M.eqS false (by decide) ?_
  refine fun tS => M.cell rfl rfl (.head _) hc rfl ?_
  refine fun t4 => M.tup1 (.tail _ h1) (by with_unfolding_all rfl) ?_
  refine fun t5 => M.one (.tail _ h2) (by with_unfolding_all rfl) ?_
  refine M.tel (C _ fun p hp => .tail _ hp) (fun xx9 h => h) (rt_dn k) (rt_un k) (fun xx9 h => h) ?_
  rintro rv G2 ⟨new, hN, ho, hd⟩
  refine M.newList (Nat.le_of_ble_eq_true rfl) fun D a1 => ?_
  refine M.newTuple (Nat.le_of_ble_eq_true rfl) fun T2 a2 => ?_
  exact q1 _ _ _ (ts_end hN ho (fun p hp => .tail _ hp) hd a1 (a2 _ (.head _)) fun p hp => a2 p (.tail _ hp))
theorem own_A {prog : Program} {w : World} {T tn l e k : Nat} {tk : Tok} {vs : Array Value} {GL : Led} {ds : List Dat} (h1 : (T, ({ cls := .type "tuple", data := .seq #[.str "A" tk, .ref l] tn } : Obj)) ∈ GL) (h2 : (l, listOf vs e) ∈ GL) (hsz : vs.size ≤ 8) (hds : ds.length = vs.size)
    (hit : ∀ (i : Nat) (v : Value), vs[i]? = some v → (v = Value.none ∧ ds[i]? = some Dat.none) ∨ ∃ c e y dy, v = Value.ref c ∧ (c, listOf #[y] e) ∈ GL ∧ ds[i]? = some (Dat.list [dy]) ∧ ∀ G', Has GL G' → RT prog w 605 k y dy G') :
    RT prog w 605 (k + 1) (.ref T) (.tuple [.str "A", .list ds]) GL := by
  k_dflt (refine' Tel.ofCell (dn := 20 * (k + 1) + 19) (un' := 100 * (k + 1) + 57) (xc := "value") (ov := some (.ref T)) (l := []) ?k6 ?k7 ?k9 ?kB ?cA ?cB ?cC ?c2 ?c3 ?c4 ?_; (case k6 => k_is); (case k7 => k_is); (case k9 => exact fun s X => BindsTo.of_eq rfl); (case kB => exact rfl); (case cA => exact fun n => rfl); (case cB => exact fun n => rfl); (case cC => exact fun n => rfl); (case c2 => exact rfl); (case c3 => exact rfl); (case c4 => exact rfl))
  intro Q L c0 o hc a q1 _ Γ
  refine M.cell rfl rfl (.head _) hc rfl ?_
  refine M.isiTup (.tail _ h1) ?_
  refine M.cell rfl rfl (.head _) hc rfl ?_
  refine fun t0 => M.tup0 (.tail _ h1) (by with_unfolding_all rfl) ?_
  refine fun t1 => M.eqS true (by decide) ?_
  refine fun tA => M.compL (cl := []) (fun L => by with_unfolding_all rfl) (by decide) rfl (by decide) rfl (fun L y => rfl) (fun Q2 q => M.cell rfl rfl (.head _) hc rfl fun t2 => M.tup1 (.tail _ h1) (by with_unfolding_all rfl) q) (.tail _ h2) (Nat.le_trans hsz (by decide)) (RInv ((c0, o) :: GL) ds) RInv.zero (fun i ys n q => q.up _ (.tail _ h2)) ?_ ?_
  · intro i ys G1 v I oI C oC D m2 hv hi hC hx off Q2 q
    refine M.xLoc rfl rfl rfl (.tail _ (.head _)) hC hx rfl ?_
    rcases hit i v hv with ⟨rfl, hd1⟩ | ⟨c, e9, y, dy, rfl, m1, hd1, C1⟩
    · refine M.isN true rfl ?_
      exact q _ _ _ (fun p hp => hp) off (hi.same .none hd1)
    · have hU : Has GL G1 := fun p hp => hi.up p (.tail _ hp)
      refine M.isN false rfl ?_
      refine M.xCall rfl rfl rfl rfl rfl rfl ?_
      refine M.xLoc rfl rfl rfl (.tail _ (.head _)) hC hx rfl ?_
      refine fun t3 => M.one (.tail _ (.tail _ (.tail _ (hU _ m1)))) (by with_unfolding_all rfl) ?_
      refine M.tel (C1 _ fun p hp => .tail _ (.tail _ (.tail _ (hU p hp)))) (fun xx9 h => h) (rt_dn k) (rt_un k) (fun xx9 h => h) ?_
      rintro rv G2 ⟨new2, hN, ho, hd⟩
      refine M.newList (Nat.le_of_ble_eq_true rfl) fun D2 a2 => ?_
      obtain ⟨n9, z1, z2, z3⟩ := comp_out (extra := [(D2, listOf #[rv] 0)]) hN (fun p hp => hp) ho (off_one a2) off hi (has_dat hd) hd1
      exact q _ _ _ z1 z2 z3
  · intro D ys G1 hi o1
    refine M.newTuple (Nat.le_of_ble_eq_true rfl) fun T2 a2 => ?_
    exact q1 _ _ _ (comp_end hi hds o1 a2 fun p hp => .tail _ hp)
theorem own_H {prog : Program} {w : World} {T tn l k : Nat} {tk : Tok} {ot : Obj} {kvs : List (Str × Value)} {GL : Led} {ds : List Dat} (h1 : (T, ({ cls := .type "tuple", data := .seq #[.str "H" tk, .ref l] tn } : Obj)) ∈ GL) (h2 : (l, ot) ∈ GL) (hot : ot.IsDictOf (PySem.strKind prog w) kvs) (hl : 1 < l) (hsz : kvs.length ≤ 1000) (hds : ds.length = kvs.length)
    (hit : ∀ (i : Nat) (key : Str) (v : Value), kvs[i]? = some (key, v) → valueAt kvs key = some v ∧ ∃ c e y dy, v = Value.ref c ∧ (c, listOf #[y] e) ∈ GL ∧ ds[i]? = some (Dat.tuple [.str key, .list [dy]]) ∧ ∀ G', Has GL G' → RT prog w 605 k y dy G') :
    RT prog w 605 (k + 1) (.ref T) (.tuple [.str "H", .list ds]) GL := by
  k_dflt (refine' Tel.ofCell (dn := 20 * (k + 1) + 19) (un' := 100 * (k + 1) + 57) (xc := "value") (ov := some (.ref T)) (l := []) ?k6 ?k7 ?k9 ?kB ?cA ?cB ?cC ?c2 ?c3 ?c4 ?_; (case k6 => k_is); (case k7 => k_is); (case k9 => exact fun s X => BindsTo.of_eq rfl); (case kB => exact rfl); (case cA => exact fun n => rfl); (case cB => exact fun n => rfl); (case cC => exact fun n => rfl); (case c2 => exact rfl); (case c3 => exact rfl); (case c4 => exact rfl))
  intro Q L c0 o hc a q1 _ Γ
  refine M.cell rfl rfl (.head _) hc rfl ?_
  refine M.isiTup (.tail _ h1) ?_
  refine M.cell rfl rfl (.head _) hc rfl ?_
  refine fun t0 => M.tup0 (.tail _ h1) (by with_unfolding_all rfl) ?_
  refine fun t1 => M.eqS false (by decide) ?_
  refine M.cell rfl rfl (.head _) hc rfl ?_
  refine fun t2 => M.tup0 (.tail _ h1) (by with_unfolding_all rfl) ?_
  refine fun t3 => M.eqS true (by decide) ?_
  refine fun tH => M.compD (cl := [("value", c0)]) (fun L => by with_unfolding_all rfl) (by decide) rfl (by decide) rfl (fun L y => rfl) (fun Q2 q => M.cell rfl rfl (.head _) hc rfl fun t2 => M.tup1 (.tail _ h1) (by with_unfolding_all rfl) q) (.tail _ h2) hot hl hsz (RInv ((c0, o) :: GL) ds) RInv.zero (fun i ys n q => q.up _ (.tail _ h2)) ?_ ?_
  · intro i ys G1 v I oI C oC D m2 hv hi hC hx off Q2 q
    obtain ⟨key, v9, hkv, hks⟩ := hv
    obtain ⟨tkk, rfl⟩ := is_str hks
    obtain ⟨hva, c, e9, y, dy, rfl, m1, hd1, C1⟩ := hit i key v9 hkv
    have hU : Has ((c0, o) :: GL) ((I, oI) :: (C, oC) :: (D, LCg.lst ys) :: G1) := fun p hp => .tail _ (.tail _ (.tail _ (hi.up p hp)))
    refine M.xLoc rfl rfl rfl (.tail _ (.head _)) hC hx rfl ?_
    refine M.xCall rfl rfl rfl rfl rfl rfl ?_
    refine M.xCell rfl rfl rfl rfl (hU _ (.head _)) hc rfl ?_
    refine fun t4 => M.tup1 (hU _ (.tail _ h1)) (by with_unfolding_all rfl) ?_
    refine M.xLoc rfl rfl rfl (.tail _ (.head _)) hC hx rfl ?_
    refine M.dItem (hU _ (.tail _ h2)) hot hva (by with_unfolding_all rfl) ?_
    refine fun t5 => M.one (hU _ (.tail _ m1)) (by with_unfolding_all rfl) ?_
    refine M.tel (C1 _ fun p hp => hU p (.tail _ hp)) (fun xx9 h => h) (rt_dn k) (rt_un k) (fun xx9 h => h) ?_
    rintro rv G2 ⟨new2, hN, ho, hd⟩
    refine M.newList (Nat.le_of_ble_eq_true rfl) fun D2 a2 => ?_
    refine M.newTuple (Nat.le_of_ble_eq_true rfl) fun T2 a3 => ?_
    obtain ⟨n9, z1, z2, z3⟩ := comp_out (extra := [(T2, ({ cls := .type "tuple", data := .seq #[.str key tkk, .ref D2] } : Obj)), (D2, listOf #[rv] 0)]) hN (fun p hp => hp) ho (off_two a2 fun p hp => a3 p (.tail _ hp)) off hi (has_dat2 hd) hd1
    exact q _ _ _ z1 z2 z3
  · intro D ys G1 hi o1
    refine M.newTuple (Nat.le_of_ble_eq_true rfl) fun T2 a2 => ?_
    exact q1 _ _ _ (comp_end hi hds o1 a2 fun p hp => .tail _ hp)
end
section
noncomputable abbrev tupO (vs : Array Value) (n : Nat) : Obj := { cls := .type "tuple", data := .seq vs n }
inductive OB where
  | none
  | int (n : Int) (t : Tok)
  | str (s : Str) (t : Tok)
  | arr (T tn l te : Nat) (tk : Tok) (vs : Array Value)
  | hash (T tn l : Nat) (tk : Tok) (ot : Obj) (kvs : List (Str × Value))
  | sc (T tn y : Nat) (tk : Tok)
structure ON where
  c : Nat
  e : Nat
  b : OB
noncomputable def OB.val : OB → Value
  | .none => .none
  | .int n t => .int n t
  | .str s t => .str s t
  | .arr T .. => .ref T
  | .hash T .. => .ref T
  | .sc T .. => .ref T
noncomputable def OB.led : OB → Led
  | .none | .int _ _ | .str _ _ => []
  | .arr T tn l te tk vs => [(T, tupO #[.str "A" tk, .ref l] tn), (l, listOf vs te)]
  | .hash T tn l tk ot _ => [(T, tupO #[.str "H" tk, .ref l] tn), (l, ot)]
  | .sc T tn y tk => [(T, tupO #[.str "S" tk, .ref y] tn)]
noncomputable def ON.blk (n : ON) : Led := (n.c, listOf #[n.b.val] n.e) :: n.b.led
noncomputable abbrev Cof (os : List ON) (c : Nat) : Option Nat := (os[c]?).map ON.c
noncomputable def OM (prog : Program) (w : World) (X : Nat → Option Nat) : OB → Cont → Prop
  | .none, .none => True
  | .int n _, .int m => n = m ∧ 0 ≤ n ∧ n < 1000
  | .str s _, .str s' => s = s' ∧ s.length ≤ 10
  | .arr _ _ _ _ _ vs, .arr items => vs.size ≤ 8 ∧ All2 (ItemR X) vs.toList items
  | .hash _ _ l _ ot kvs, .hash ks => ot.IsDictOf (strKind prog w) kvs ∧ 1 < l ∧ All2 (KvR X) kvs ks
  | .sc _ _ y _, .sc c => X c = some y
  | _, _ => False
theorem OM.mono {prog : Program} {w : World} {X Y : Nat → Option Nat} (h : ∀ c y, X c = some y → Y c = some y) {b : OB} {c : Cont} (q : OM prog w X b c) : OM prog w Y b c := by
  cases b <;> cases c <;> first | exact q | exact ⟨q.1, q.2.mono (ItemR.mono h)⟩ | exact ⟨q.1, q.2.1, q.2.2.mono (KvR.mono h)⟩ | exact h _ _ q
noncomputable def OL (os : List ON) (R : Led) : Led := os.flatMap ON.blk ++ R
noncomputable abbrev OMs (prog : Program) (w : World) (os : List ON) (σ : List Cont) : Prop := ∀ (j : Nat) (n : ON) (c : Cont), os[j]? = some n → σ[j]? = some c → OM prog w (Cof os) n.b c
structure OGood (prog : Program) (w : World) (os : List ON) (R : Led) (σ : List Cont) : Prop where
  uq : Uq (OL os R)
  len : os.length = σ.length
  cm : OMs prog w os σ
theorem Cof_set {ps : List ON} {j : Nat} {n n' : ON} (hn : ps[j]? = some n) (hx : n'.c = n.c) : Cof (ps.set j n') = Cof ps := by
  funext c
  unfold Cof
  obtain ⟨hj, e⟩ := List.getElem?_eq_some_iff.mp hn
  by_cases h : j = c
  · subst h
    rw [List.getElem?_set_self hj, hn]; simp [hx]
  · rw [List.getElem?_set_ne h]
theorem Cof_add {ps : List ON} {m : ON} : ∀ c y, Cof ps c = some y → Cof (ps ++ [m]) c = some y := by
  intro c y h
  unfold Cof at *
  cases e : ps[c]? with
  | none => rw [e] at h; cases h
  | some n =>
    obtain ⟨hc, -⟩ := List.getElem?_eq_some_iff.mp e
    rw [List.getElem?_append_left hc]; exact h
theorem OMs.set {prog : Program} {w : World} {ps : List ON} {σ : List Cont} {j : Nat} {n n' : ON} {c' : Cont} (h : OMs prog w ps σ) (hn : ps[j]? = some n) (hx : n'.c = n.c) (new : OM prog w (Cof ps) n'.b c') : OMs prog w (ps.set j n') (σ.set j c') := by
  intro i m c h1 h2
  rw [Cof_set hn hx]
  by_cases hij : j = i
  · subst hij
    obtain ⟨hj, -⟩ := List.getElem?_eq_some_iff.mp hn
    have hj2 : j < σ.length := by
      obtain ⟨h3, -⟩ := List.getElem?_eq_some_iff.mp h2
      simpa using h3
    rw [List.getElem?_set_self hj] at h1
    rw [List.getElem?_set_self hj2] at h2
    cases h1; cases h2
    exact new
  · rw [List.getElem?_set_ne hij] at h1 h2
    exact h i m c h1 h2
theorem OMs.add {prog : Program} {w : World} {ps : List ON} {σ : List Cont} {m : ON} (h : OMs prog w ps σ) (hl : ps.length = σ.length) (hm : m.b = .none) : OMs prog w (ps ++ [m]) (σ ++ [.none]) := by
  intro i m' c h1 h2
  by_cases hi : i < ps.length
  · rw [List.getElem?_append_left hi] at h1
    rw [List.getElem?_append_left (by omega)] at h2
    exact (h i m' c h1 h2).mono Cof_add
  · rw [List.getElem?_append_right (by omega)] at h1 h2
    rw [hl] at h1
    cases e : i - σ.length with
    | zero =>
      rw [e] at h1 h2
      simp at h1 h2
      subst h1 h2
      rw [hm]
      exact trivial
    | succ k => rw [e] at h1; simp at h1
structure OStep (prog : Program) (w : World) (os os' : List ON) (R : Led) (σ' : List Cont) (news' : Led) : Prop where
  good : OGood prog w os' R σ'
  has : Has (OL os' R) news'
  keep : ∀ c y, Cof os c = some y → Cof os' c = some y
theorem OStep.same {prog : Program} {w : World} {os : List ON} {R : Led} {σ : List Cont} {news : Led} (G : OGood prog w os R σ) (h : Has (OL os R) news) : OStep prog w os os R σ news := ⟨G, h, fun xx9 xx9 h => h⟩
theorem OStep.trans {prog : Program} {w : World} {S S1 S2 : List ON} {R : Led} {σ1 σ2 : List Cont} {n1 n2 : Led} (a : OStep prog w S S1 R σ1 n1) (b : OStep prog w S1 S2 R σ2 n2) : OStep prog w S S2 R σ2 n2 :=
  ⟨b.good, b.has, fun c y h => b.keep c y (a.keep c y h)⟩
noncomputable abbrev Zo (pre post : List ON) (R : Led) : Led := pre.flatMap ON.blk ++ (post.flatMap ON.blk ++ R)
theorem ol_split {pre post : List ON} {n : ON} {R : Led} : (OL (pre ++ n :: post) R).Perm (n.blk ++ Zo pre post R) := by
  unfold OL Zo
  rw [List.flatMap_append, List.flatMap_cons, List.append_assoc, List.append_assoc]
  rw [← List.append_assoc, ← List.append_assoc n.blk]
  exact List.perm_append_comm.append_right _
theorem ol_snoc {pre post : List ON} {n c : ON} {R : Led} : (OL (pre ++ n :: (post ++ [c])) R).Perm (n.blk ++ (c.blk ++ Zo pre post R)) := by
  refine (ol_split (post := post ++ [c])).trans (List.Perm.append_left _ ?_)
  unfold Zo
  have e : (post ++ [c]).flatMap ON.blk = post.flatMap ON.blk ++ c.blk := by simp
  rw [e]
  have h1 := (@List.perm_append_comm _ (pre.flatMap ON.blk ++ post.flatMap ON.blk) c.blk).append_right R
  have e1 : pre.flatMap ON.blk ++ ((post.flatMap ON.blk ++ c.blk) ++ R) = (pre.flatMap ON.blk ++ post.flatMap ON.blk ++ c.blk) ++ R := by simp only [List.append_assoc]
  have e2 : c.blk ++ (pre.flatMap ON.blk ++ (post.flatMap ON.blk ++ R)) = (c.blk ++ (pre.flatMap ON.blk ++ post.flatMap ON.blk)) ++ R := by simp only [List.append_assoc]
  rw [e1, e2]
  exact h1
theorem ol_cons {os : List ON} {R : Led} {q : Addr × Obj} : (OL os (q :: R)).Perm (q :: OL os R) := List.perm_middle
theorem OGood.cons {prog : Program} {w : World} {S : List ON} {R : Led} {σ : List Cont} {q : Addr × Obj} (G : OGood prog w S R σ) (o : ∀ p ∈ OL S R, p.1 ≠ q.1) : OGood prog w S (q :: R) σ := ⟨(G.uq.cons o).perm ol_cons.symm, G.len, G.cm⟩
theorem OGood.tail {prog : Program} {w : World} {S : List ON} {R : Led} {σ : List Cont} {q : Addr × Obj} (G : OGood prog w S (q :: R) σ) : OGood prog w S R σ ∧ ∀ p ∈ OL S R, p.1 ≠ q.1 := by
  have h := G.uq.perm ol_cons
  unfold Uq at h
  rw [List.map_cons, List.nodup_cons] at h
  exact ⟨⟨h.2, G.len, G.cm⟩, fun p hp e => h.1 (List.mem_map.mpr ⟨p, hp, e⟩)⟩
theorem OStep.off {prog : Program} {w : World} {S S1 : List ON} {R : Led} {q : Addr × Obj} {σ1 : List Cont} {n1 n2 : Led} (b : OStep prog w S S1 (q :: R) σ1 n1) (h : Has (OL S1 R) n2) : OStep prog w S S1 R σ1 n2 := ⟨b.good.tail.1, h, b.keep⟩
theorem oblk_has {os : List ON} {R : Led} {j : Nat} {n : ON} (h : os[j]? = some n) : Has n.blk (OL os R) := fun p hp => List.mem_append_left _ (List.mem_flatMap.mpr ⟨n, List.mem_of_getElem? h, hp⟩)
theorem orest_has {os : List ON} {R : Led} : Has R (OL os R) := fun p hp => List.mem_append_right _ hp
theorem ol_addr {pre post : List ON} {n n' : ON} {R : Led} (ha : n'.blk.map (·.1) = n.blk.map (·.1)) : (OL (pre ++ n' :: post) R).map (·.1) = (OL (pre ++ n :: post) R).map (·.1) := by
  unfold OL
  simp only [List.flatMap_append, List.flatMap_cons, List.map_append, ha]
theorem set_same {σ : List Cont} {j : Nat} {c : Cont} (h : σ[j]? = some c) : σ.set j c = σ := by
  obtain ⟨hj, e⟩ := List.getElem?_eq_some_iff.mp h
  rw [← e]; exact List.set_getElem_self hj
theorem omid {pre post : List ON} {n : ON} : (pre ++ n :: post)[pre.length]? = some n := by simp
theorem OGood.upd {prog : Program} {w : World} {pre post : List ON} {n n' : ON} {R : Led} {σ : List Cont} {c' : Cont} (G : OGood prog w (pre ++ n :: post) R σ) (hc : n'.c = n.c) (ha : n'.blk.map (·.1) = n.blk.map (·.1)) (hm : OM prog w (Cof (pre ++ n :: post)) n'.b c') :
    OGood prog w (pre ++ n' :: post) R (σ.set pre.length c') := by
  refine ⟨G.uq.addr (ol_addr ha), ?_, ?_⟩
  · have := G.len; simpa using this
  · have h := OMs.set (n' := n') G.cm omid hc hm
    rwa [set_mid] at h
theorem keep_upd {pre post : List ON} {n n' : ON} (hc : n'.c = n.c) : ∀ c y, Cof (pre ++ n :: post) c = some y → Cof (pre ++ n' :: post) c = some y := by
  intro c y h
  have e := Cof_set (ps := pre ++ n :: post) (n' := n') omid hc
  rw [set_mid] at e
  rw [e]; exact h
theorem off_upd {pre post : List ON} {n n' : ON} {R : Led} {I : Addr} (ha : n'.blk.map (·.1) = n.blk.map (·.1)) (h : ∀ p ∈ OL (pre ++ n :: post) R, p.1 ≠ I) : ∀ p ∈ OL (pre ++ n' :: post) R, p.1 ≠ I := by
  intro p hp e
  have h1 : p.1 ∈ (OL (pre ++ n' :: post) R).map (·.1) := List.mem_map.mpr ⟨p, hp, rfl⟩
  rw [ol_addr ha] at h1
  obtain ⟨q, hq, eq⟩ := List.mem_map.mp h1
  exact h q hq (eq.trans e)
theorem OGood.arr_same {prog : Program} {w : World} {pre post : List ON} {R : Led} {σ : List Cont} {x1 e1 T tn l te te' : Nat} {tk2 : Tok} {vs2 vs' : Array Value} {items : List (Option Nat)} (G : OGood prog w (pre ++ ⟨x1, e1, .arr T tn l te tk2 vs2⟩ :: post) R σ) (hc : σ[pre.length]? = some (.arr items)) (e : vs' = vs2) :
    OGood prog w (pre ++ ⟨x1, e1, .arr T tn l te' tk2 vs'⟩ :: post) R σ := by
  subst e
  have h0 := G.cm _ _ _ omid hc
  have h := G.upd (n' := ⟨x1, e1, .arr T tn l te' tk2 vs'⟩) (c' := .arr items) rfl rfl h0
  rwa [set_same hc] at h
theorem OGood.mk2 {prog : Program} {w : World} {pre post : List ON} {n n' : ON} {R : Led} {σ : List Cont} {c' : Cont} (G : OGood prog w (pre ++ n :: post) R σ) (hc : n'.c = n.c) (hu : Uq (n'.blk ++ Zo pre post R)) (hm : OM prog w (Cof (pre ++ n :: post)) n'.b c') :
    OGood prog w (pre ++ n' :: post) R (σ.set pre.length c') := by
  refine ⟨hu.perm ol_split.symm, ?_, ?_⟩
  · have := G.len; simpa using this
  · have h := OMs.set (n' := n') G.cm omid hc hm
    rwa [set_mid] at h
theorem OGood.mk3 {prog : Program} {w : World} {pre post : List ON} {n n' c9 : ON} {R : Led} {σ : List Cont} {c' : Cont} (G : OGood prog w (pre ++ n :: post) R σ) (hc : n'.c = n.c) (h9 : c9.b = .none) (hu : Uq (n'.blk ++ (c9.blk ++ Zo pre post R))) (hm : OM prog w (Cof ((pre ++ n :: post) ++ [c9])) n'.b c') :
    OGood prog w (pre ++ n' :: (post ++ [c9])) R ((σ ++ [Cont.none]).set pre.length c') := by
  refine ⟨hu.perm ol_snoc.symm, ?_, ?_⟩
  · have := G.len; simp at this ⊢; omega
  · have hm9 : ((pre ++ n :: post) ++ [c9])[pre.length]? = some n := by simp
    have h := OMs.set (n' := n') (G.cm.add G.len h9) hm9 hc hm
    rwa [set_mid2] at h
theorem Cof_new {pre post : List ON} {n n' c9 : ON} {R : Led} {prog : Program} {w : World} {σ : List Cont} (G : OGood prog w (pre ++ n :: post) R σ) (hc : n'.c = n.c) : Cof (pre ++ n' :: (post ++ [c9])) σ.length = some c9.c := by
  have e : (pre ++ n' :: (post ++ [c9])) = (pre ++ n' :: post) ++ [c9] := by simp
  unfold Cof; rw [e, ← G.len]; simp
theorem Cof_newa {pre post : List ON} {n c9 : ON} {R : Led} {prog : Program} {w : World} {σ : List Cont} (G : OGood prog w (pre ++ n :: post) R σ) : Cof ((pre ++ n :: post) ++ [c9]) σ.length = some c9.c := by
  unfold Cof; rw [← G.len]; simp
theorem keep_snoc {pre post : List ON} {n n' c9 : ON} (hc : n'.c = n.c) : ∀ c y, Cof (pre ++ n :: post) c = some y → Cof (pre ++ n' :: (post ++ [c9])) c = some y := by
  intro c y h
  have h1 := Cof_add (m := c9) c y (keep_upd hc c y h)
  rwa [List.append_assoc, List.cons_append] at h1
theorem ol_has {pre post : List ON} {n' : ON} {R n9 : Led} (h1 : Has n'.blk n9) (h2 : Has (Zo pre post R) n9) : Has (OL (pre ++ n' :: post) R) n9 :=
  fun q hq => (List.mem_append.mp (ol_split.mem_iff.mp hq)).elim (h1 q) (h2 q)
theorem ol_has2 {pre post : List ON} {n' c9 : ON} {R n9 : Led} (h1 : Has n'.blk n9) (h3 : Has c9.blk n9) (h2 : Has (Zo pre post R) n9) : Has (OL (pre ++ n' :: (post ++ [c9])) R) n9 :=
  fun q hq => (List.mem_append.mp (ol_snoc.mem_iff.mp hq)).elim (h1 q) fun h => (List.mem_append.mp h).elim (h3 q) (h2 q)
structure OInv (prog : Program) (w : World) (os : List ON) (R : Led) (σ : List Cont) (j : Nat) (path : List Stp) (I : Addr) (vs1 : List Value) (m : Str → Option Value) (news : Led) (os1 : List ON) (σ1 : List Cont) (j1 x1 : Nat) (path1 : List Stp) : Prop where
  led : news = OL os1 R
  off : ∀ p ∈ OL os1 R, p.1 ≠ I
  step : OStep prog w os os1 R σ1 news
  x : Cof os1 j1 = some x1
  walk : walkS σ j path = walkS σ1 j1 path1
  items : All2 (StepR R) vs1 path1
  cell : m "cell" = some (.ref x1)
  wf : Wf σ1 path1.length
theorem OInv.next {prog : Program} {w : World} {os os1 os3 : List ON} {R : Led} {σ σ1 σ3 : List Cont} {j j1 c3 y3 I : Nat} {path path2 : List Stp} {stp : Stp} {vs1 : List Value} {m : Str → Option Value} {n1 : Led}
    (w3 : OStep prog w os os1 R σ1 n1) (g : OGood prog w os3 R σ3) (kp : ∀ c y, Cof os1 c = some y → Cof os3 c = some y) (off : ∀ p ∈ OL os3 R, p.1 ≠ I) (hX : Cof os3 c3 = some y3) (w5 : walkS σ j path = walkS σ1 j1 (stp :: path2)) (hs : stepS σ1 j1 stp = (σ3, some c3)) (w6 : All2 (StepR R) vs1 path2)
    (hsc : m "cell" = some (.ref y3)) (wf : Wf σ3 path2.length) : OInv prog w os R σ j path I vs1 m (OL os3 R) os3 σ3 c3 y3 path2 :=
  ⟨rfl, off, ⟨g, fun xx9 h => h, fun c y h => kp c y (w3.keep c y h)⟩, hX, by rw [w5, walkS, hs], w6, hsc, wf⟩
theorem Wf.less {σ : List Cont} {n : Nat} (W : Wf σ (n + 1)) : Wf σ n := ⟨by have := W.len; omega, W.hash⟩
theorem All2_get2 {α β : Type} {R : α → β → Prop} {as : List α} {bs : List β} {i : Nat} {a : α} (h : All2 R as bs) (e : as[i]? = some a) : ∃ b, bs[i]? = some b ∧ R a b := by
  induction h generalizing i with
  | nil => cases e
  | cons h _ ih =>
    cases i with
    | zero => cases e; exact ⟨_, rfl, h⟩
    | succ i => exact ih e
theorem elemS_oldv {X : Nat → Option Nat} {σ : List Cont} {j y k : Nat} {i q : Int} {items : List (Option Nat)} {vs2 : Array Value} (hc : σ[j]? = some (.arr items)) (hl : items.length = vs2.size) (hq : placeOf vs2.size i = q) (h0 : 0 ≤ q) (h8 : q < 8) (hit : All2 (ItemR X) vs2.toList items) (h : (vs2 ++ Array.replicate k Value.none)[q.toNat]? = some (.ref y)) :
    ∃ c, X c = some y ∧ elemS σ j i = some (σ, c) ∧ q < vs2.size := by
  have hlt : q < vs2.size := by
    by_cases hge : q.toNat < vs2.size
    · omega
    · rw [Array.getElem?_append_right (by omega), Array.getElem?_replicate] at h
      split at h <;> cases h
  rw [Array.getElem?_append_left (by omega)] at h
  obtain ⟨b, hb, hr⟩ := All2_get2 (i := q.toNat) hit (by simpa using h)
  cases b with
  | none => cases hr
  | some c =>
    obtain ⟨y', hy, e⟩ := hr
    cases e
    refine ⟨c, hy, ?_, hlt⟩
    unfold elemS; rw [hc]; dsimp only; rw [hl, hq, if_neg (by omega), hb]
theorem elemS_newv {X : Nat → Option Nat} {σ : List Cont} {j : Nat} {i q : Int} {items : List (Option Nat)} {vs2 : Array Value} (hc : σ[j]? = some (.arr items)) (hl : items.length = vs2.size) (hq : placeOf vs2.size i = q) (h0 : 0 ≤ q) (h8 : q < 8) (hit : All2 (ItemR X) vs2.toList items) (h : (vs2 ++ Array.replicate (q + 1 - vs2.size).toNat Value.none)[q.toNat]? = some .none) :
    elemS σ j i = some ((σ ++ [Cont.none]).set j (.arr ((items ++ List.replicate (q + 1 - items.length).toNat Option.none).set q.toNat (some σ.length))), σ.length) := by
  by_cases hlt : q.toNat < vs2.size
  · rw [Array.getElem?_append_left hlt] at h
    obtain ⟨b, hb, hr⟩ := All2_get2 (i := q.toNat) hit (by simpa using h)
    cases b with
    | some c => obtain ⟨y', hy, e⟩ := hr; cases e
    | none =>
      unfold elemS; rw [hc]; dsimp only; rw [hl, hq, if_neg (by omega), hb, show (q + 1 - (vs2.size : Int)).toNat = 0 by omega]; simp
  · unfold elemS; rw [hc]; dsimp only; rw [hl, hq, if_neg (by omega), List.getElem?_eq_none (by omega)]
theorem helemS_oldv {X : Nat → Option Nat} {σ : List Cont} {j : Nat} {k : Str} {ks : List (Str × Nat)} {kvs : List (Str × Value)} {v : Value} (hc : σ[j]? = some (.hash ks)) (hkv : All2 (KvR X) kvs ks) (h : valueAt kvs k = some v) : ∃ c y, X c = some y ∧ helemS σ j k = some (σ, c) ∧ v = .ref y := by
  have lk := look_kv (k := k) hkv
  cases e : lookS ks k with
  | none => rw [e] at lk; dsimp only at lk; rw [lk] at h; cases h
  | some c =>
    rw [e] at lk; dsimp only at lk
    obtain ⟨y, hy, hv⟩ := lk
    rw [hv] at h
    refine ⟨c, y, hy, ?_, (Option.some.inj h).symm⟩
    unfold helemS; rw [hc]; dsimp only; rw [e]
theorem helemS_newv {X : Nat → Option Nat} {σ : List Cont} {j : Nat} {k : Str} {ks : List (Str × Nat)} {kvs : List (Str × Value)} (hc : σ[j]? = some (.hash ks)) (hkv : All2 (KvR X) kvs ks) (h : valueAt kvs k = none) : helemS σ j k = some ((σ ++ [Cont.none]).set j (.hash (ks ++ [(k, σ.length)])), σ.length) := by
  have lk := look_kv (k := k) hkv
  cases e : lookS ks k with
  | some c => rw [e] at lk; dsimp only at lk; obtain ⟨y, hy, hv⟩ := lk; rw [hv] at h; cases h
  | none => unfold helemS; rw [hc]; dsimp only; rw [e]
theorem elemS_bad {σ : List Cont} {j : Nat} {i q : Int} {items : List (Option Nat)} (hc : σ[j]? = some (.arr items)) (hq : placeOf items.length i = q) (h : q < 0 ∨ 8 ≤ q) : elemS σ j i = Option.none := by
  unfold elemS; rw [hc]; dsimp only; rw [hq, if_pos h]
theorem elemS_bad2 {σ : List Cont} {j n : Nat} {i : Int} {items : List (Option Nat)} (hc : σ[j]? = some (.arr items)) (hl : items.length = n) (h : i + n < 0 ∨ 8 ≤ i) : elemS σ j i = Option.none := by
  by_cases h' : i + n < 0
  · exact elemS_bad hc (by rw [hl, place_out h']) (by omega)
  · exact elemS_bad hc (place_pos (by omega)) (by omega)
theorem uq_cell {x1 T l D : Nat} {a b c a' b' c' d' : Obj} {Z : Led} (U : Uq ((x1, a) :: (T, b) :: (l, c) :: Z)) (h1 : x1 < D) (h2 : T < D) (h3 : l < D) (h4 : AllLt D Z) : Uq ((x1, a') :: (T, b') :: (l, c') :: (D, d') :: Z) := by
  have h := (U.addr (l' := (x1, a') :: (T, b') :: (l, c') :: Z) rfl).push (d := D) (o := d') (above_cons h1 (above_cons h2 (above_cons h3 (above_of h4))))
  exact h.fit (.cons (.there .here) (.cons (.there .here) (.cons (.there .here) .last)))
theorem uq_two {x1 T l : Nat} {a a' b c : Obj} {Z : Led} (U : Uq ((x1, a) :: Z)) (h1 : x1 < l) (h2 : l < T) (h3 : AllLt l Z) : Uq ((x1, a') :: (T, b) :: (l, c) :: Z) := by
  have h := (((U.addr (l' := (x1, a') :: Z) rfl).push (d := l) (o := c) (above_cons h1 (above_of h3))).push (d := T) (o := b) (above_cons h2 (above_cons (Nat.lt_trans h1 h2) (Above.up (above_of h3) h2))))
  exact h.fit (.cons (.there (.there .here)) (.cons .here (.cons .here .last)))
theorem set_app_set {σ : List Cont} {j : Nat} {a b c : Cont} (hj : j < σ.length) : ((σ.set j a) ++ [b]).set j c = (σ ++ [b]).set j c := by
  rw [List.set_append_left _ _ (by simpa using hj), List.set_append_left _ _ hj, List.set_set]
theorem off_mk {pre post : List ON} {n n' : ON} {R : Led} {I : Addr} (h1 : ∀ p ∈ n'.blk, p.1 ≠ I) (h : ∀ p ∈ OL (pre ++ n :: post) R, p.1 ≠ I) : ∀ p ∈ OL (pre ++ n' :: post) R, p.1 ≠ I := fun p hp =>
  (List.mem_append.mp (ol_split.mem_iff.mp hp)).elim (h1 p) fun q => h p (ol_split.mem_iff.mpr (List.mem_append_right _ q))
theorem off_mk2 {pre post : List ON} {n n' c9 : ON} {R : Led} {I : Addr} (h1 : ∀ p ∈ n'.blk, p.1 ≠ I) (h2 : ∀ p ∈ c9.blk, p.1 ≠ I) (h : ∀ p ∈ OL (pre ++ n :: post) R, p.1 ≠ I) : ∀ p ∈ OL (pre ++ n' :: (post ++ [c9])) R, p.1 ≠ I := fun p hp =>
  (List.mem_append.mp (ol_snoc.mem_iff.mp hp)).elim (h1 p) fun q => (List.mem_append.mp q).elim (h2 p) fun q => h p (ol_split.mem_iff.mpr (List.mem_append_right _ q))
theorem gt_ne {a b : Nat} (h : a < b) : @Ne Nat b a := Ne.symm (Nat.ne_of_lt h)
theorem ne_one {I a : Nat} {oa : Obj} (h1 : @Ne Nat a I) : ∀ p ∈ [((a, oa) : Addr × Obj)], p.1 ≠ I := List.forall_mem_cons.mpr ⟨h1, fun xx9 h => nomatch h⟩
theorem ne_two {I a b : Nat} {oa ob : Obj} (h1 : @Ne Nat a I) (h2 : @Ne Nat b I) : ∀ p ∈ [((a, oa) : Addr × Obj), (b, ob)], p.1 ≠ I := List.forall_mem_cons.mpr ⟨h1, ne_one h2⟩
theorem ne_three {I a b c : Nat} {oa ob oc : Obj} (h1 : @Ne Nat a I) (h2 : @Ne Nat b I) (h3 : @Ne Nat c I) : ∀ p ∈ [((a, oa) : Addr × Obj), (b, ob), (c, oc)], p.1 ≠ I := List.forall_mem_cons.mpr ⟨h1, ne_two h2 h3⟩
theorem keep_any {pre post : List ON} {x1 e1 : Nat} {b b' : OB} {c y : Nat} (h : Cof (pre ++ (⟨x1, e1, b⟩ : ON) :: post) c = some y) : Cof (pre ++ (⟨x1, e1, b'⟩ : ON) :: post) c = some y := keep_upd (n := ⟨x1, e1, b⟩) (n' := ⟨x1, e1, b'⟩) rfl c y h
theorem om_arr {prog : Program} {w : World} {X : Nat → Option Nat} {T tn l te : Nat} {tk : Tok} {vs : Array Value} {items : List (Option Nat)} (h1 : vs.size ≤ 8) (h2 : All2 (ItemR X) vs.toList items) : OM prog w X (.arr T tn l te tk vs) (.arr items) := ⟨h1, h2⟩
theorem om_sc {prog : Program} {w : World} {X : Nat → Option Nat} {T tn y c : Nat} {tk : Tok} (h : X c = some y) : OM prog w X (.sc T tn y tk) (.sc c) := h
theorem om_hash {prog : Program} {w : World} {X : Nat → Option Nat} {T tn l : Nat} {tk : Tok} {ot : Obj} {kvs : List (Str × Value)} {ks : List (Str × Nat)} (h0 : ot.IsDictOf (strKind prog w) kvs) (h1 : 1 < l) (h2 : All2 (KvR X) kvs ks) : OM prog w X (.hash T tn l tk ot kvs) (.hash ks) := ⟨h0, h1, h2⟩
theorem off_snoc {pre post : List ON} {n n' c9 : ON} {R : Led} {I : Addr} (ha : n'.blk.map (·.1) = n.blk.map (·.1)) (hb : c9.b = .none) (h9 : @LT.lt Nat _ I c9.c) (h : ∀ p ∈ OL (pre ++ n :: post) R, p.1 ≠ I) : ∀ p ∈ OL (pre ++ n' :: (post ++ [c9])) R, p.1 ≠ I := by
  intro p hp
  rcases List.mem_append.mp (ol_snoc.mem_iff.mp hp) with h1 | h1
  · exact off_upd ha h p (ol_split.mem_iff.mpr (List.mem_append_left _ h1))
  · rcases List.mem_append.mp h1 with h1 | h1
    · obtain ⟨x9, e9, b9⟩ := c9
      dsimp only at hb h9
      subst hb
      rw [show p = (x9, listOf #[Value.none] e9) from List.mem_singleton.mp h1]
      exact Ne.symm (Nat.ne_of_lt h9)
    · exact h p (ol_split.mem_iff.mpr (List.mem_append_right _ h1))
theorem keep_arr {pre post : List ON} {x1 e1 T tn l te te' T' tn' l' : Nat} {tk tk' : Tok} {vs vs' : Array Value} {c y : Nat} (h : Cof (pre ++ (⟨x1, e1, .arr T tn l te tk vs⟩ : ON) :: post) c = some y) : Cof (pre ++ (⟨x1, e1, .arr T' tn' l' te' tk' vs'⟩ : ON) :: post) c = some y := keep_upd (n := ⟨x1, e1, .arr T tn l te tk vs⟩) (n' := ⟨x1, e1, .arr T' tn' l' te' tk' vs'⟩) rfl c y h
theorem rep0 {vs : Array Value} {x : Int} (h : x ≤ 0) : vs ++ Array.replicate x.toNat Value.none = vs := by rw [Int.toNat_of_nonpos h]; simp
theorem arr_grow {X X' : Nat → Option Nat} {vs2 : Array Value} {items : List (Option Nat)} {q n D k k' : Nat} (hk : k = k') (hit : All2 (ItemR X) vs2.toList items) (mono : ∀ c y, X c = some y → X' c = some y) (hD : X' n = some D) : All2 (ItemR X') ((vs2 ++ Array.replicate k Value.none).setIfInBounds q (.ref D)).toList ((items ++ List.replicate k' Option.none).set q (some n)) := by
  subst hk
  rw [Array.toList_setIfInBounds, Array.toList_append, Array.toList_replicate]
  exact ((hit.mono (ItemR.mono mono)).append (All2.replicate (R := ItemR X') (a := Value.none) (b := Option.none) rfl _)).set (b := some n) ⟨D, hD, rfl⟩ _
noncomputable def OB.tup : OB → Option (Nat × Nat × Tok × Value)
  | .arr T tn l _ tk _ => some (T, tn, tk, .ref l)
  | .hash T tn l tk _ _ => some (T, tn, tk, .ref l)
  | .sc T tn y tk => some (T, tn, tk, .ref y)
  | _ => Option.none
theorem OM.tup {prog : Program} {w : World} {X : Nat → Option Nat} {b : OB} {c : Cont} {kd : Kd} (h : OM prog w X b c) (hk : c.kd = some kd) : ∃ T tn tk ww, b.val = .ref T ∧ (T, tupO #[.str kd.str tk, ww] tn) ∈ b.led ∧ b.tup = some (T, tn, tk, ww) := by
  cases b <;> cases c <;> first | exact h.elim | (cases hk; done) | (cases hk; exact ⟨_, _, _, _, rfl, .head _, rfl⟩)
theorem keep_any2 {pre post : List ON} {x1 e1 : Nat} {b b' : OB} {c9 : ON} {c y : Nat} (h : Cof (pre ++ (⟨x1, e1, b⟩ : ON) :: post) c = some y) : Cof (pre ++ (⟨x1, e1, b'⟩ : ON) :: (post ++ [c9])) c = some y := keep_snoc (n := ⟨x1, e1, b⟩) (n' := ⟨x1, e1, b'⟩) (c9 := c9) rfl c y h
theorem OM.plain {prog : Program} {w : World} {X : Nat → Option Nat} {b : OB} {c : Cont} (h : OM prog w X b c) (hk : c.kd = Option.none) : Plain b.val := by
  cases b <;> cases c <;> first | exact h.elim | (cases hk; done) | exact .inl rfl | exact .inr (.inl ⟨_, _, rfl⟩) | exact .inr (.inr ⟨_, _, rfl⟩)
theorem OM.isNone {prog : Program} {w : World} {X : Nat → Option Nat} {b : OB} {c : Cont} (h : OM prog w X b c) (hn : c ≠ .none) : (b.val == .none) = false := by
  cases b <;> cases c <;> first | exact h.elim | exact absurd rfl hn | rfl
theorem Kd.str_ne {a b : Kd} (h : a ≠ b) : (a.str != b.str) = true := by
  cases a <;> cases b <;> first | exact absurd rfl h | decide +kernel
theorem Kd.str_eq {a : Kd} : (a.str != a.str) = false := by cases a <;> decide +kernel
structure OMid (prog : Program) (w : World) (os : List ON) (R : Led) (σ1 : List Cont) (j1 : Nat) (kd : Kd) (x1 I : Nat) (o : Obj) (G' : Led) (os2 : List ON) (σ2 : List Cont) (e2 : Nat) (b2 : OB) (c2 : Cont) : Prop where
  good : OGood prog w os2 R σ2
  keep : ∀ c y, Cof os c = some y → Cof os2 c = some y
  off : ∀ p ∈ OL os2 R, p.1 ≠ I
  has : Has ((I, o) :: OL os2 R) G'
  hn : os2[j1]? = some ⟨x1, e2, b2⟩
  hc : σ2[j1]? = some c2
  nn : c2 ≠ .none
  yes : c2.kd = some kd → vivS σ1 j1 kd = some σ2
  no : c2.kd ≠ some kd → vivS σ1 j1 kd = Option.none ∧ σ2 = σ1
theorem OInv.go {prog : Program} {w : World} {os os3 : List ON} {R : Led} {σ σ1 σ3 : List Cont} {j j1 c3 y3 I : Nat} {path path2 : List Stp} {stp : Stp} {vs1 : List Value} {m : Str → Option Value}
    (g : OGood prog w os3 R σ3) (kp : ∀ c y, Cof os c = some y → Cof os3 c = some y) (off : ∀ p ∈ OL os3 R, p.1 ≠ I) (hX : Cof os3 c3 = some y3) (w5 : walkS σ j path = walkS σ1 j1 (stp :: path2)) (hs : stepS σ1 j1 stp = (σ3, some c3)) (w6 : All2 (StepR R) vs1 path2)
    (hsc : m "cell" = some (.ref y3)) (wf : Wf σ3 path2.length) : OInv prog w os R σ j path I vs1 m (OL os3 R) os3 σ3 c3 y3 path2 :=
  ⟨rfl, off, ⟨g, fun xx9 h => h, kp⟩, hX, by rw [w5, walkS, hs], w6, hsc, wf⟩
theorem one_set {i : Int} {v a : Value} (h : i = 0) : #[a].setIfInBounds i.toNat v = #[v] := by subst h; rfl
theorem tl {α : Type} {k : Nat} {l : List α} {a : α} (h : a ∈ l.drop k) : a ∈ l := List.mem_of_mem_drop h
theorem vr_at {X : Nat → Option Nat} {vs2 : Array Value} {items : List (Option Nat)} {k q : Nat} {v : Value} (hit : All2 (ItemR X) vs2.toList items) (h : (vs2 ++ Array.replicate k Value.none)[q]? = some v) : v = Value.none ∨ ∃ y : Nat, v = .ref y := by
  by_cases hq : q < vs2.size
  · rw [Array.getElem?_append_left hq] at h
    obtain ⟨b, -, hr⟩ := All2_get2 (i := q) hit (by simpa using h)
    cases b with
    | none => exact .inl hr
    | some c => obtain ⟨y, -, h⟩ := hr; exact .inr ⟨y, h⟩
  · rw [Array.getElem?_append_right (by omega), Array.getElem?_replicate] at h
    split at h
    · cases h; exact .inl rfl
    · cases h
theorem OM.inv0 {prog : Program} {w : World} {X : Nat → Option Nat} {b : OB} (h : OM prog w X b .none) : b = .none := by
  cases b <;> first | rfl | exact h.elim
theorem OM.invS {prog : Program} {w : World} {X : Nat → Option Nat} {b : OB} {c : Cont} (h : OM prog w X b c) (hk : c.kd = some .S) : ∃ T tn y tk c', b = .sc T tn y tk ∧ c = .sc c' := by
  cases c <;> first | (cases hk; done) | (cases b <;> first | exact h.elim | exact ⟨_, _, _, _, _, rfl, rfl⟩)
theorem OM.invH {prog : Program} {w : World} {X : Nat → Option Nat} {b : OB} {c : Cont} (h : OM prog w X b c) (hk : c.kd = some .H) : ∃ T tn l tk ot kvs ks, b = .hash T tn l tk ot kvs ∧ c = .hash ks := by
  cases c <;> first | (cases hk; done) | (cases b <;> first | exact h.elim | exact ⟨_, _, _, _, _, _, _, rfl, rfl⟩)
theorem OM.invA {prog : Program} {w : World} {X : Nat → Option Nat} {b : OB} {c : Cont} (h : OM prog w X b c) (hk : c.kd = some .A) : ∃ T tn l te tk vs items, b = .arr T tn l te tk vs ∧ c = .arr items := by
  cases c <;> first | (cases hk; done) | (cases b <;> first | exact h.elim | exact ⟨_, _, _, _, _, _, _, rfl, rfl⟩)
theorem own_tel {prog : Program} {w : World} {os : List ON} {R : Led} {σ : List Cont} {j x pl e : Nat} {vs : List Value} {path : List Stp} (G : OGood prog w os R σ) (hx : Cof os j = some x) (hp : (pl, listOf vs.toArray e) ∈ R) (hv : All2 (StepR R) vs path) (hw : Wf σ path.length) (hlo : 1 < pl) :
    Tel prog w 619 [.ref x, .ref pl] 60 300 (OL os R)
      (fun v news' => ∃ os' σ', OStep prog w os os' R σ' news' ∧ ((∃ c y, walkS σ j path = (σ', some c) ∧ Cof os' c = some y ∧ v = .ref y) ∨ (walkS σ j path = (σ', none) ∧ v = .none))) (fun xx9 => False) := by
  k_dflt (refine' Tel.ofM (dn := 59) (un' := 297) ?k6 ?k7 ?k9 ?kB ?c2 ?c3 ?c4 ?c5 ?_; (case k6 => k_is); (case k7 => k_is); (case k9 => exact fun s X => BindsTo.of_eq rfl); (case kB => exact locs rfl); (case c5 => decide); (case c2 => exact rfl); (case c3 => exact rfl); (case c4 => exact rfl))
  intro Q Z q1 _ _ Γ
  refine M.forPairs rfl rfl rfl (orest_has _ hp) rfl rfl (fun I vs1 m1 G1 => ∃ os1 σ1 j1 x1 path1, OInv prog w os R σ j path I vs1 m1 G1 os1 σ1 j1 x1 path1)
    (fun I hI => ⟨os, σ, j, x, path, rfl, fun p hp => Nat.ne_of_lt (hI p hp), .same G fun xx9 h => h, hx, rfl, hv, look_at rfl, hw⟩) (fun I v vs1 m1 G1 hi => ?_) fun I m1 G1 hi => ?_
  · obtain ⟨os1, σ1, j1, x1, path1, rfl, w2, w3, w4, w5, w6, w7, w9⟩ := hi
    cases w6 with
    | @cons xx9 stp xx9 path2 hst w6 =>
    obtain ⟨T', n, tk', u, rfl, hTm, hua⟩ := hst
    refine ⟨T', n, .str stp.kd.str tk', u, [("cell", .ref x1)], rfl, orest_has _ hTm, look_add1 look_base w7, fun o Q2 qr qn => ?_⟩
    refine M.cut (fun m G' => m "cell" = some (.ref x1) ∧ m "kind" = some (.str stp.kd.str tk') ∧ m "place" = some u ∧ ∃ os2 σ2 e2 b2 c2, OMid prog w os R σ1 j1 stp.kd x1 I o G' os2 σ2 e2 b2 c2) (fun Q3 qn3 xx9 => ?_) fun m G' hm => ?_
    · obtain ⟨⟨x1', e1, b⟩, hn, e⟩ := Option.map_eq_some_iff.mp w4
      cases e
      obtain ⟨hj, -⟩ := List.getElem?_eq_some_iff.mp hn
      have hc : σ1[j1]? = some (σ1[j1]'(by rw [← w3.good.len]; exact hj)) := List.getElem?_eq_getElem _
      generalize σ1[j1]'(by rw [← w3.good.len]; exact hj) = c at hc
      have hb := w3.good.cm _ _ _ hn hc
      have mx : (x1', listOf #[b.val] e1) ∈ (I, o) :: OL os1 R := .tail _ (oblk_has hn _ (.head _))
      intro t1
      refine M.one mx (by with_unfolding_all rfl) ?_
      rcases Classical.em (c = .none) with rfl | hcn
      · obtain rfl := hb.inv0
        refine M.isN true rfl ?_
        obtain ⟨pre, post, rfl, rfl⟩ := split_at hn
        have U0 : Uq ((x1', listOf #[.none] e1) :: Zo pre post R) := w3.good.uq.perm ol_split
        have K := U0.ne (d := x1') (o := listOf #[.none] e1) .here
        have f3 : I ≠ x1' := fun e => w2 (x1', listOf #[.none] e1) (oblk_has hn _ (.head _)) e.symm
        have f5 : ∀ p ∈ Zo pre post R, p.1 ≠ x1' := fun p hp => K _ _ hp
        have hjl : pre.length < σ1.length := by rw [← w3.good.len]; exact hj
        refine M.led (c := .ev _) ((x1', listOf #[.none] e1) :: (I, o) :: Zo pre post R) (by exact trivial) (has_cons mx (has_cons (.head _) fun q hq => .tail _ (ol_split.mem_iff.mpr (List.mem_append_right _ hq)))) ?_
        refine M.dict3 fun D l1 dd l3 oD od aD d1 d2 d3 hoD hod => ?_
        have z0 : Above D (Zo pre post R) := fun p hp => aD p (.tail _ (.tail _ hp))
        have x0 := aD _ (.head _)
        have i0 := aD _ (.tail _ (.head _))
        have x1l := Nat.lt_trans x0 d1
        have x1d := Nat.lt_trans x1l d2
        have x13 := Nat.lt_trans x1d d3
        have i1l := Nat.lt_trans i0 d1
        have i1d := Nat.lt_trans i1l d2
        have i13 := Nat.lt_trans i1d d3
        have z1 := Above.up z0 d1
        have z2 := Above.up z1 d2
        have z3 := Above.up z2 d3
        cases stp with
        | A i =>
          obtain ⟨tu, rfl, hi0, hi1⟩ := hua
          refine M.dItem (at_ 3 rfl) hoD (v := .ref l1) (by rfl) (by with_unfolding_all rfl) ?_
          refine M.newTuple (Nat.le_of_ble_eq_true rfl) fun T aT => ?_
          have xT := Nat.lt_trans x13 (aT _ (.head _))
          have iT := Nat.lt_trans i13 (aT _ (.head _))
          intro t2
          refine M.led (c := .si _ _ _) ((x1', listOf #[.none] e1) :: (T, _) :: (l1, _) :: (I, o) :: Zo pre post R) (by exact trivial) (perm [5, 0, 3, 6] 7 rfl) ?_
          refine M.setItem (.head (ne_cons (Nat.ne_of_gt xT) (ne_cons (Nat.ne_of_gt x1l) (ne_cons f3 f5)))) (Int.le_refl 0) (by decide) (by decide) ?_
          refine qn3 _ _ ⟨look_at rfl, look_at rfl, look_at rfl, pre ++ (⟨x1', e1, .arr T 0 l1 0 tk' #[]⟩ : ON) :: post, σ1.set pre.length (.arr []), e1, (.arr T 0 l1 0 tk' #[]), _, OGood.mk2 w3.good rfl (uq_two U0 x1l (Nat.lt_trans d2 (Nat.lt_trans d3 (aT _ (.head _)))) z1.all) (om_arr (by decide) .nil), fun c y h => keep_any (w3.keep c y h), off_mk (n := ⟨x1', e1, .none⟩) (ne_three (Ne.symm f3) (Nat.ne_of_gt iT) (Nat.ne_of_gt i1l)) w2, has_cons (at_ 3 rfl) (ol_has (n' := ⟨x1', e1, .arr T 0 l1 0 tk' #[]⟩) (has_cons (at_ 0 rfl) (has_cons (at_ 1 rfl) (has_cons (at_ 2 rfl) has_nil))) (fun p hp => .tail _ (.tail _ (.tail _ (.tail _ hp))))), omid, List.getElem?_set_self hjl, nofun, fun xx9 => (vivS_n hc).1, fun h => absurd rfl h⟩
        | H k =>
          obtain ⟨tu, rfl⟩ := hua
          refine M.dItem (at_ 3 rfl) hoD (v := .ref dd) (by rfl) (by with_unfolding_all rfl) ?_
          refine M.newTuple (Nat.le_of_ble_eq_true rfl) fun T aT => ?_
          have xT := Nat.lt_trans x13 (aT _ (.head _))
          have iT := Nat.lt_trans i13 (aT _ (.head _))
          intro t2
          refine M.led (c := .si _ _ _) ((x1', listOf #[.none] e1) :: (T, _) :: (dd, _) :: (I, o) :: Zo pre post R) (by exact trivial) (perm [5, 0, 2, 6] 7 rfl) ?_
          refine M.setItem (.head (ne_cons (Nat.ne_of_gt xT) (ne_cons (Nat.ne_of_gt x1d) (ne_cons f3 f5)))) (Int.le_refl 0) (by decide) (by decide) ?_
          refine qn3 _ _ ⟨look_at rfl, look_at rfl, look_at rfl, pre ++ (⟨x1', e1, .hash T 0 dd tk' od []⟩ : ON) :: post, σ1.set pre.length (.hash []), e1, (.hash T 0 dd tk' od []), _, OGood.mk2 w3.good rfl (uq_two U0 x1d (Nat.lt_trans d3 (aT _ (.head _))) z2.all) (om_hash hod (Nat.lt_trans hlo (z2 _ (List.mem_append_right _ (List.mem_append_right _ hp)))) .nil), fun c y h => keep_any (w3.keep c y h), off_mk (n := ⟨x1', e1, .none⟩) (ne_three (Ne.symm f3) (Nat.ne_of_gt iT) (Nat.ne_of_gt i1d)) w2, has_cons (at_ 3 rfl) (ol_has (n' := ⟨x1', e1, .hash T 0 dd tk' od []⟩) (has_cons (at_ 0 rfl) (has_cons (at_ 1 rfl) (has_cons (at_ 2 rfl) has_nil))) (fun p hp => .tail _ (.tail _ (.tail _ (.tail _ hp))))), omid, List.getElem?_set_self hjl, nofun, fun xx9 => (vivS_n hc).2.1, fun h => absurd rfl h⟩
        | S =>
          obtain ⟨tu, rfl⟩ := hua
          refine M.dItem (at_ 3 rfl) hoD (v := .ref l3) (by rfl) (by with_unfolding_all rfl) ?_
          refine M.newTuple (Nat.le_of_ble_eq_true rfl) fun T aT => ?_
          have xT := Nat.lt_trans x13 (aT _ (.head _))
          have iT := Nat.lt_trans i13 (aT _ (.head _))
          intro t2
          refine M.led (c := .si _ _ _) ((x1', listOf #[.none] e1) :: (T, _) :: (l3, _) :: (I, o) :: Zo pre post R) (by exact trivial) (perm [5, 0, 1, 6] 7 rfl) ?_
          refine M.setItem (.head (ne_cons (Nat.ne_of_gt xT) (ne_cons (Nat.ne_of_gt x13) (ne_cons f3 f5)))) (Int.le_refl 0) (by decide) (by decide) ?_
          refine qn3 _ _ ⟨look_at rfl, look_at rfl, look_at rfl, pre ++ (⟨x1', e1, .sc T 0 l3 tk'⟩ : ON) :: (post ++ [(⟨l3, 0, .none⟩ : ON)]), (σ1 ++ [Cont.none]).set pre.length (.sc σ1.length), e1, (.sc T 0 l3 tk'), _, OGood.mk3 w3.good rfl rfl (uq_two U0 x13 (aT _ (.head _)) z3.all) (om_sc (Cof_newa w3.good)), fun c y h => keep_snoc (n := ⟨x1', e1, .none⟩) (n' := ⟨x1', e1, .sc T 0 l3 tk'⟩) (c9 := ⟨l3, 0, .none⟩) rfl c y (w3.keep c y h), off_mk2 (n := ⟨x1', e1, .none⟩) (ne_two (Ne.symm f3) (Nat.ne_of_gt iT)) (ne_one (Nat.ne_of_gt i13)) w2, has_cons (at_ 3 rfl) (ol_has2 (n' := ⟨x1', e1, .sc T 0 l3 tk'⟩) (c9 := ⟨l3, 0, .none⟩) (has_cons (at_ 0 rfl) (has_cons (at_ 1 rfl) has_nil)) (has_cons (at_ 2 rfl) has_nil) (fun p hp => .tail _ (.tail _ (.tail _ (.tail _ hp))))), omid, List.getElem?_set_self (by rw [List.length_append]; exact Nat.lt_add_right _ hjl), nofun, fun xx9 => (vivS_n hc).2.2, fun h => absurd rfl h⟩
      · refine M.isN false (hb.isNone hcn) ?_
        refine qn3 _ _ ⟨look_at rfl, look_at rfl, look_at rfl, os1, σ1, e1, b, c, w3.good, w3.keep, w2, fun xx9 h => h, hn, hc, hcn, fun h => vivS_some hc h, fun h => ⟨vivS_no hc hcn h, rfl⟩⟩
    · obtain ⟨m1, m2, m3, os2, σ2, ee, b2, c2, ⟨g1, g2, g3, g4, g5, g6, g7, g8, g9⟩⟩ := hm
      refine ⟨[("place", u), ("kind", .str stp.kd.str tk'), ("cell", .ref x1)], look_add1 (look_add1 (look_add1 look_base m1) m2) m3, M.lets ?_⟩
      intro Γw mlw gw
      have hb := g1.cm _ _ _ g5 g6
      have bad : c2.kd ≠ some stp.kd → ∀ {m' G9}, Has G' G9 → Q2 (.ret .none) m' G9 := fun h => by
        intro m' G9 hh
        obtain ⟨h1, rfl⟩ := g9 h
        exact qr _ _ _ (q1 _ _ _ ⟨os2, σ2, ⟨g1, fun p hp => hh p (g4 p (.tail _ hp)), g2⟩, .inr ⟨walkS_n w5 (stepS_n h1), rfl⟩⟩)
      have bl : Has (ON.blk ⟨x1, ee, b2⟩) G' := fun p hp => g4 p (.tail _ (oblk_has g5 p hp))
      intro t1
      refine M.one (bl _ (.head _)) (by with_unfolding_all rfl) ?_
      cases hk : c2.kd with
      | none =>
        refine M.isiTupNo (hb.plain hk) ?_
        exact bad (by rw [hk]; exact nofun) fun xx9 h => h
      | some kk =>
        obtain ⟨T, tn, tk2, ww, hv1, hT1, htu⟩ := hb.tup hk
        have hT2 := bl _ (.tail _ hT1)
        rw [hv1]
        refine M.isiTup hT2 ?_
        intro t2
        refine M.one (bl _ (.head _)) (by with_unfolding_all rfl) ?_
        rw [hv1]
        intro t3
        refine M.tup0 hT2 (by with_unfolding_all rfl) ?_
        rcases Classical.em (kk = stp.kd) with rfl | hne
        · refine M.neS false Kd.str_eq ?_
          intro t4
          refine M.one (bl _ (.head _)) (by with_unfolding_all rfl) ?_
          rw [hv1]
          intro t5
          refine M.tup1 hT2 (by with_unfolding_all rfl) ?_
          intro t6
          have hviv := g8 hk
          obtain ⟨pre, post, rfl, rfl⟩ := split_at g5
          cases stp with
          | S =>
            obtain ⟨tu, rfl⟩ := hua
            refine M.eqS true (by show (("S" : Str) == ("S" : Str)) = true; decide +kernel) ?_
            obtain ⟨T, tn, y9, tk2, c9, rfl, rfl⟩ := hb.invS hk
            cases (show some (_, _, _, Value.ref _) = some _ from htu)
            exact qn _ _ ⟨_, g4, g3, orest_has _ hp, _, _, _, _, path2, OInv.go g1 g2 g3 hb w5 (stepS_S hviv g6) w6 (look_at rfl) (Wf.S w9 hviv)⟩
          | H k =>
            obtain ⟨tu, rfl⟩ := hua
            refine M.eqS false (by show (("H" : Str) == ("S" : Str)) = false; decide +kernel) ?_
            intro t7
            refine M.eqS true (by show (("H" : Str) == ("H" : Str)) = true; decide +kernel) ?_
            obtain ⟨T, tn, l, tk2, ot, kvs, ks, rfl, rfl⟩ := hb.invH hk
            cases (show some (_, _, _, Value.ref _) = some _ from htu)
            obtain ⟨hot, hl1, hkv⟩ := hb
            have hl := g4 _ (.tail _ (oblk_has g5 _ (.tail _ (.tail _ (.head _)))))
            have hsz : kvs.length ≤ 1000 := by have h1 := hkv.length; have h2 := vivS_Hlen hviv w9 g6; omega
            cases e0 : valueAt kvs k with
            | some v0 =>
              obtain ⟨c9, y9, hy9, he9, rfl⟩ := helemS_oldv g6 hkv e0
              refine M.notIn false hl hot hl1 (by rw [e0]; rfl) ?_
              refine M.dItem hl hot e0 (by with_unfolding_all rfl) ?_
              exact qn _ _ ⟨_, g4, g3, orest_has _ hp, _, _, _, _, path2, OInv.go g1 g2 g3 hy9 w5 (stepS_H hviv he9) w6 (look_at rfl) (Wf.H w9 hviv he9)⟩
            | none =>
              have he9 := helemS_newv g6 hkv e0
              have U0 : Uq ((x1, listOf #[.ref T] ee) :: (T, tupO #[.str "H" tk2, .ref l] tn) :: (l, ot) :: Zo pre post R) := g1.uq.perm ol_split
              have K := U0.ne (d := l) (o := ot) (.there (.there .here))
              have nI : I ≠ l := fun e => g3 (l, ot) (oblk_has g5 _ (.tail _ (.tail _ (.head _)))) e.symm
              refine M.led (c := .co _ _ _) ((l, ot) :: (x1, listOf #[.ref T] ee) :: (T, tupO #[.str "H" tk2, .ref l] tn) :: (I, o) :: Zo pre post R) (by exact trivial) (fun p h => g4 p (by
                rcases List.mem_cons.mp h with rfl | h
                · exact .tail _ (oblk_has g5 _ (.tail _ (.tail _ (.head _))))
                rcases List.mem_cons.mp h with rfl | h
                · exact .tail _ (oblk_has g5 _ (.head _))
                rcases List.mem_cons.mp h with rfl | h
                · exact .tail _ (oblk_has g5 _ (.tail _ (.head _)))
                rcases List.mem_cons.mp h with rfl | h
                · exact .head _
                · exact .tail _ (ol_split.mem_iff.mpr (List.mem_append_right _ h)))) ?_
              refine M.notIn true (at_ 0 rfl) hot hl1 (by rw [e0]; rfl) ?_
              refine M.newList (by decide) fun c8 h8 => ?_
              refine M.dSet (.tail (Nat.ne_of_gt (h8 _ (at_ 0 rfl))) (.head (ne_cons (K _ _ (.head _)) (ne_cons (K _ _ (.tail _ (.head _))) (ne_cons nI fun p hp => K _ _ (.tail _ (.tail _ hp))))))) hot e0 hsz fun ot2 hot2 => ?_
              refine M.dItem (at_ 1 rfl) hot2 (valueAt_snoc e0) (by with_unfolding_all rfl) ?_
              have of9 := off_snoc (n := ⟨x1, ee, .hash T tn l tk2 ot kvs⟩) (n' := ⟨x1, ee, .hash T tn l tk2 ot2 (kvs ++ [(k, .ref c8)])⟩) (c9 := ⟨c8, 0, .none⟩) rfl rfl (h8 _ (at_ 3 rfl)) g3
              exact qn _ _ ⟨OL (pre ++ (⟨x1, ee, .hash T tn l tk2 ot2 (kvs ++ [(k, .ref c8)])⟩ : ON) :: (post ++ [(⟨c8, 0, .none⟩ : ON)])) R, has_cons (at_ 4 rfl) (ol_has2 (has_cons (at_ 2 rfl) (has_cons (at_ 3 rfl) (has_cons (at_ 1 rfl) has_nil))) (has_cons (at_ 0 rfl) has_nil) fun p hp => .tail _ (.tail _ (.tail _ (.tail _ (.tail _ hp))))), of9, orest_has _ hp, _, _, _, _, path2,
                OInv.go (OGood.mk3 g1 rfl rfl (uq_cell U0 (h8 _ (at_ 1 rfl)) (h8 _ (at_ 2 rfl)) (h8 _ (at_ 0 rfl)) (Above.all fun p hp => h8 p (.tail _ (.tail _ (.tail _ (.tail _ hp)))))) (om_hash hot2 hl1 ((hkv.mono (KvR.mono Cof_add)).append (.cons ⟨rfl, _, Cof_newa g1, rfl⟩ .nil)))) (fun c y h => keep_any2 (g2 c y h)) of9 (Cof_new g1 rfl) w5 (stepS_H hviv he9) w6 (look_at rfl) (Wf.H w9 hviv he9)⟩
          | A i =>
            obtain ⟨tu, rfl, hi0, hi1⟩ := hua
            refine M.eqS false (by show (("A" : Str) == ("S" : Str)) = false; decide +kernel) ?_
            intro t7
            refine M.eqSW false (by show (("A" : Str) == ("H" : Str)) = false; decide +kernel) (Cx.N_ok (n := 2) ?_)
            obtain ⟨T, tn, l, te, tk2, vs2, items, rfl, rfl⟩ := hb.invA hk
            cases (show some (_, _, _, Value.ref _) = some _ from htu)
            obtain ⟨hsz, hit⟩ := hb
            have hlen : items.length = vs2.size := by rw [← hit.length]; simp
            have hl := g4 _ (.tail _ (oblk_has g5 _ (.tail _ (.tail _ (.head _)))))
            have hs1 := Nat.le_trans hsz (show 8 ≤ 1000 by decide)
            refine M.cut (fun m G9 => G9 = G' ∧ m "rows" = some (.ref l) ∧ ∃ q t, m "place" = some (.int q t) ∧ ((0 ≤ i ∧ q = i) ∨ (i < 0 ∧ q = i + vs2.size))) (fun Q4 qn4 xx9 => ?_) fun m9 G9 hm9 => ?_
            · intro t8
              cases e1 : decide (i < 0) with
              | true =>
                refine M.lt true e1 ?_
                refine M.len hl hs1 fun t9 => ?_
                refine M.add fun t10 => ?_
                exact qn4 _ _ ⟨rfl, look_at rfl, _, _, look_at rfl, .inr ⟨of_decide_eq_true e1, rfl⟩⟩
              | false =>
                refine M.lt false e1 ?_
                exact qn4 _ _ ⟨rfl, look_at rfl, _, _, look_at rfl, .inl ⟨Int.not_lt.mp (of_decide_eq_false e1), rfl⟩⟩
            obtain ⟨rfl, mr, q, t, mp, hq⟩ := hm9
            refine ⟨[("rows", .ref l), ("place", .int q t)], look_add1 (look_add1 look_base mp) mr, ?_⟩
            have out : (q < 0 ∨ 8 ≤ q) → ∀ {m' G9'}, Has G9 G9' → Q2 (.ret .none) m' G9' := fun h => by
              intro m' G9' hh
              exact qr _ _ _ (q1 _ _ _ ⟨_, σ2, ⟨g1, fun p hp => hh p (g4 p (.tail _ hp)), g2⟩, .inr ⟨walkS_n w5 (stepS_An hviv (elemS_bad2 g6 hlen (by omega))), rfl⟩⟩)
            intro t8
            cases e1 : decide (q < 0) with
            | true =>
              refine M.lt true e1 ?_
              exact out (.inl (of_decide_eq_true e1)) fun xx9 h => h
            | false =>
            have h0 := Int.not_lt.mp (of_decide_eq_false e1)
            refine M.lt false e1 ?_
            intro t9
            cases e2 : decide ((8 : Int) ≤ q) with
            | true =>
              refine M.ge true e2 ?_
              exact out (.inr (of_decide_eq_true e2)) fun xx9 h => h
            | false =>
            have h8 := Int.not_le.mp (of_decide_eq_false e2)
            refine M.ge false e2 ?_
            have hpl : placeOf vs2.size i = q := by unfold placeOf; split <;> (try split) <;> omega
            have U0 : Uq ((x1, listOf #[.ref T] ee) :: (T, tupO #[.str "A" tk2, .ref l] tn) :: (l, listOf vs2 te) :: Zo pre post R) := g1.uq.perm ol_split
            have K := U0.ne (d := l) (o := listOf vs2 te) (.there (.there .here))
            have nI : I ≠ l := fun e => g3 (l, listOf vs2 te) (oblk_has g5 _ (.tail _ (.tail _ (.head _)))) e.symm
            have nr : ∀ p ∈ (x1, listOf #[.ref T] ee) :: (T, tupO #[.str "A" tk2, .ref l] tn) :: (I, o) :: Zo pre post R, p.1 ≠ l := ne_cons (K _ _ (.head _)) (ne_cons (K _ _ (.tail _ (.head _))) (ne_cons nI fun p hp => K _ _ (.tail _ (.tail _ hp))))
            refine M.methL hl PySem.F.slot_list_extend PySem.F.type_list_extend rfl ?_
            refine M.led (c := .cl _ _) ((l, listOf vs2 te) :: (x1, listOf #[.ref T] ee) :: (T, tupO #[.str "A" tk2, .ref l] tn) :: (I, o) :: Zo pre post R) (by exact trivial) (fun p h => g4 p (by
              rcases List.mem_cons.mp h with rfl | h
              · exact .tail _ (oblk_has g5 _ (.tail _ (.tail _ (.head _))))
              rcases List.mem_cons.mp h with rfl | h
              · exact .tail _ (oblk_has g5 _ (.head _))
              rcases List.mem_cons.mp h with rfl | h
              · exact .tail _ (oblk_has g5 _ (.tail _ (.head _)))
              rcases List.mem_cons.mp h with rfl | h
              · exact .head _
              · exact .tail _ (ol_split.mem_iff.mpr (List.mem_append_right _ h)))) ?_
            refine M.newList (by decide) fun b8 hb8 => ?_
            intro t10
            refine M.add fun t11 => ?_
            refine M.len (at_ 1 rfl) hs1 fun t12 => ?_
            refine M.sub fun t13 => ?_
            refine M.mul (at_ 0 rfl) (by omega) (by omega) fun D8 hD8 => ?_
            have lb := hb8 _ (at_ 0 rfl)
            have lD := hD8 _ (at_ 1 rfl)
            refine M.extend (at_ 0 rfl) (.tail (Nat.ne_of_gt lD) (.tail (Nat.ne_of_gt lb) (.head nr))) (by rw [Array.size_replicate]; omega) ?_
            let vg : Array Value := vs2 ++ Array.replicate (q + 1 - vs2.size).toNat Value.none
            have hz : vg.size ≤ 1000 := by show (vs2 ++ Array.replicate (q + 1 - vs2.size).toNat Value.none).size ≤ 1000; rw [Array.size_append, Array.size_replicate]; omega
            have hqz : q < vg.size := by show q < (vs2 ++ Array.replicate (q + 1 - vs2.size).toNat Value.none).size; rw [Array.size_append, Array.size_replicate]; omega
            obtain ⟨v8, hx8⟩ : ∃ v, vg[q.toNat]? = some v := ⟨_, Array.getElem?_eq_getElem (by omega)⟩
            refine M.led (c := .gi _ _ _ _) ((l, listOf vg _) :: (x1, listOf #[.ref T] ee) :: (T, tupO #[.str "A" tk2, .ref l] tn) :: (I, o) :: Zo pre post R) (by exact trivial) (perm [2, 3, 4, 5] 6 rfl) ?_
            refine M.item (at_ 0 rfl) h0 hz hx8 (by with_unfolding_all rfl) ?_
            rcases vr_at hit hx8 with rfl | ⟨y8, rfl⟩
            · have he9 := elemS_newv g6 hlen hpl h0 h8 hit hx8
              refine M.isN true rfl ?_
              refine M.newList (by decide) fun c8 h8' => ?_
              refine M.setItem (.tail (Nat.ne_of_gt (h8' _ (at_ 0 rfl))) (.head nr)) h0 hz hqz ?_
              refine M.item (at_ 1 rfl) h0 (by rw [Array.size_setIfInBounds]; exact hz) (set_at hx8) (by with_unfolding_all rfl) ?_
              have of9 : ∀ te', ∀ p ∈ OL (pre ++ (⟨x1, ee, .arr T tn l te' tk2 (vg.setIfInBounds q.toNat (.ref c8))⟩ : ON) :: (post ++ [(⟨c8, 0, .none⟩ : ON)])) R, p.1 ≠ I := fun te' => off_snoc (n := ⟨x1, ee, .arr T tn l te tk2 vs2⟩) rfl rfl (h8' _ (at_ 3 rfl)) g3
              exact qn _ _ ⟨OL (pre ++ (⟨x1, ee, .arr T tn l _ tk2 (vg.setIfInBounds q.toNat (.ref c8))⟩ : ON) :: (post ++ [(⟨c8, 0, .none⟩ : ON)])) R, has_cons (at_ 4 rfl) (ol_has2 (has_cons (at_ 2 rfl) (has_cons (at_ 3 rfl) (has_cons (at_ 1 rfl) has_nil))) (has_cons (at_ 0 rfl) has_nil) fun p hp => .tail _ (.tail _ (.tail _ (.tail _ (.tail _ hp))))), of9 _, orest_has _ hp, _, _, _, _, path2,
                OInv.go (OGood.mk3 g1 rfl rfl (uq_cell U0 (h8' _ (at_ 1 rfl)) (h8' _ (at_ 2 rfl)) (h8' _ (at_ 0 rfl)) (Above.all fun p hp => h8' p (.tail _ (.tail _ (.tail _ (.tail _ hp)))))) (om_arr (by rw [Array.size_setIfInBounds]; show (vs2 ++ Array.replicate (q + 1 - vs2.size).toNat Value.none).size ≤ 8; rw [Array.size_append, Array.size_replicate]; omega) (arr_grow (by rw [hlen]) hit Cof_add (Cof_newa g1)))) (fun c y h => keep_any2 (g2 c y h)) (of9 _) (Cof_new g1 rfl) w5 (stepS_A hviv he9) w6 (look_at rfl) (Wf.A w9 hviv he9)⟩
            · obtain ⟨c9, hy9, he9, hl9⟩ := elemS_oldv g6 hlen hpl h0 h8 hit hx8
              refine M.isN false rfl ?_
              refine M.item (at_ 0 rfl) h0 hz hx8 (by with_unfolding_all rfl) ?_
              have of9 : ∀ te', ∀ p ∈ OL (pre ++ (⟨x1, ee, .arr T tn l te' tk2 vg⟩ : ON) :: post) R, p.1 ≠ I := fun te' => off_upd (n := ⟨x1, ee, .arr T tn l te tk2 vs2⟩) rfl g3
              exact qn _ _ ⟨OL (pre ++ (⟨x1, ee, .arr T tn l _ tk2 vg⟩ : ON) :: post) R, has_cons (at_ 3 rfl) (ol_has (has_cons (at_ 1 rfl) (has_cons (at_ 2 rfl) (has_cons (at_ 0 rfl) has_nil))) fun p hp => .tail _ (.tail _ (.tail _ (.tail _ hp)))), of9 _, orest_has _ hp, _, _, _, _, path2,
                OInv.go (OGood.arr_same g1 g6 (rep0 (by omega))) (fun c y h => keep_any (g2 c y h)) (of9 _) (keep_arr hy9) w5 (stepS_A hviv he9) w6 (look_at rfl) (Wf.A w9 hviv he9)⟩
        · refine M.neS true (Kd.str_ne hne) ?_
          exact bad (by rw [hk]; intro h; exact hne (Option.some.inj h)) fun xx9 h => h
  · obtain ⟨os1, σ1, j1, x1, path1, rfl, w2, w3, w4, w5, w6, w7, w9⟩ := hi
    cases w6
    exact ⟨[("cell", .ref x1)], look_add1 look_base w7, q1 _ _ _ ⟨os1, σ1, w3, .inl ⟨j1, x1, w5, w4, rfl⟩⟩⟩
end
section
noncomputable def Cont.kids : Cont → List Nat
  | .arr items => items.filterMap id
  | .hash ks => ks.map (·.2)
  | .sc c => [c]
  | _ => []
noncomputable def itemD (D : Nat → Dat) : Option Nat → Dat
  | .none => .none
  | .some c => .list [D c]
noncomputable def datC (D : Nat → Dat) : Cont → Dat
  | .none => .none
  | .int n => .int n
  | .str s => .str s
  | .arr items => .tuple [.str "A", .list (items.map (itemD D))]
  | .hash ks => .tuple [.str "H", .list (ks.map fun p => .tuple [.str p.1, .list [D p.2]])]
  | .sc c => .tuple [.str "S", .list [D c]]
noncomputable def dat (σ : List Cont) : Nat → Nat → Dat
  | 0, _ => .none
  | k + 1, j => datC (dat σ k) ((σ[j]?).getD .none)
theorem dat_succ {σ : List Cont} {k j : Nat} {c : Cont} (h : σ[j]? = some c) : dat σ (k + 1) j = datC (dat σ k) c := by rw [dat, h]; rfl
structure Dp (σ : List Cont) (dl : Nat → Nat) : Prop where
  kid : ∀ (j : Nat) (c : Cont), σ[j]? = some c → ∀ x ∈ c.kids, x < σ.length ∧ dl x = dl j + 1
  top : ∀ j, j < σ.length → dl j ≤ 4
theorem kvs_at {prog : Program} {w : World} {ot : Obj} {kvs : List (Str × Value)} (h : ot.IsDictOf (PySem.strKind prog w) kvs) {i : Nat} {k : Str} {v : Value} (e : kvs[i]? = some (k, v)) : valueAt kvs k = some v := by
  obtain ⟨-, -, -, -, -, -, nd⟩ := h
  have go : ∀ (l : List (Str × Value)) (i : Nat), (l.map (·.1)).Nodup → l[i]? = some (k, v) → valueAt l k = some v := by
    intro l
    induction l with
    | nil => intro i _ h; simp at h
    | cons p r ih =>
      intro i nd h
      rw [List.map_cons, List.nodup_cons] at nd
      unfold valueAt at *
      cases i with
      | zero => simp at h; subst h; simp
      | succ i =>
        have h' : r[i]? = some (k, v) := by simpa using h
        have hm : k ∈ r.map (·.1) := List.mem_map.mpr ⟨_, List.mem_of_getElem? h', rfl⟩
        have hne : p.1 ≠ k := fun e => nd.1 (e ▸ hm)
        rw [List.find?_cons, decide_eq_false hne]
        exact ih i nd.2 h'
  exact go kvs i nd e
theorem mem_kids_arr {items : List (Option Nat)} {i c : Nat} (h : items[i]? = some (some c)) : c ∈ (Cont.arr items).kids := List.mem_filterMap.mpr ⟨_, List.mem_of_getElem? h, rfl⟩
theorem mem_kids_hash {ks : List (Str × Nat)} {i : Nat} {p : Str × Nat} (h : ks[i]? = some p) : p.2 ∈ (Cont.hash ks).kids := List.mem_map.mpr ⟨_, List.mem_of_getElem? h, rfl⟩
theorem PB.handed (b : PB) : handedIn b.val = true := by cases b <;> rfl
set_option tactic.hygienic true in
theorem told_s {prog : Program} {w : World} {f : Fix} {S : PS} {R : Led} {σ : List Cont} {dl : Nat → Nat} (G : PGood prog w f S R σ) (dp : Dp σ dl) (hz : ∀ (j : Nat) (ks : List (Str × Nat)), σ[j]? = some (.hash ks) → ks.length ≤ 1000) :
    ∀ (k j : Nat) (n : PN), S.ps[j]? = some n → 5 ≤ dl j + k → ∀ GL, Has (S.led f R) GL → RT prog w 600 k n.b.val (dat σ k j) GL := by
  intro k
  induction k with
  | zero =>
    intro j n hn hk
    obtain ⟨hj, -⟩ := List.getElem?_eq_some_iff.mp hn
    have := dp.top j (by rw [← G.len]; exact hj)
    omega
  | succ k ih =>
    intro j n hn hk GL hG
    obtain ⟨hj, -⟩ := List.getElem?_eq_some_iff.mp hn
    have hc : σ[j]? = some (σ[j]'(by rw [← G.len]; exact hj)) := List.getElem?_eq_getElem _
    generalize σ[j]'(by rw [← G.len]; exact hj) = c at hc
    have hb := G.cm j n c hn hc
    have hB : Has n.blk GL := fun p hp => hG p (blk_has (f := f) (R := R) hn p hp)
    rw [dat_succ hc]
    obtain ⟨x, dx, d, b⟩ := n
    have kid : ∀ ch y, ch ∈ c.kids → Xof S.ps ch = some y → ∃ dx d b, (y, instObj 66 dx) ∈ GL ∧ (dx, scD d (PB.val b)) ∈ GL ∧ ∀ G', Has GL G' → RT prog w 600 k b.val (dat σ k ch) G' := by
      intro ch y hm hy
      obtain ⟨⟨y', dx, d, b⟩, hn', rfl⟩ := Option.map_eq_some_iff.mp hy
      have h1 := dp.kid j c hc ch hm
      have hB' : Has (PN.blk ⟨y', dx, d, b⟩) GL := fun p hp => hG p (blk_has (f := f) (R := R) hn' p hp)
      exact ⟨dx, d, b, hB' _ (.head _), hB' _ (.tail _ (.head _)), fun G' hG' => ih ch _ hn' (by omega) G' fun p hp => hG' p (hG p hp)⟩
    cases b <;> cases c <;> first | exact hb.elim | skip
    · exact told_leaf (.inl rfl) .none
    · obtain ⟨rfl, -⟩ := hb; exact told_leaf (.inr (.inl ⟨_, _, rfl⟩)) (.int _ _)
    · obtain ⟨rfl, -⟩ := hb; exact told_leaf (.inr (.inr ⟨_, _, rfl⟩)) (.str _ _)
    · rename_i r dr a da l e rd td vs items
      obtain ⟨hsz, hit⟩ := hb
      have hlen : items.length = vs.size := by rw [← hit.length]; simp
      refine told_A (hB _ (.tail _ (.tail _ (.head _)))) (hB _ (.tail _ (.tail _ (.tail _ (.head _))))) (hB _ (.tail _ (.tail _ (.tail _ (.tail _ (.head _)))))) (hB _ (.tail _ (.tail _ (.tail _ (.tail _ (.tail _ (.head _))))))) (hB _ (.tail _ (.tail _ (.tail _ (.tail _ (.tail _ (.tail _ (.head _)))))))) hsz (by simpa using hlen) ?_
      intro i v hv
      obtain ⟨o, ho, hr⟩ := All2_get2 (i := i) hit (by simpa using hv)
      cases o with
      | none => exact .inl ⟨hr, by rw [List.getElem?_map, ho]; rfl⟩
      | some ch =>
        obtain ⟨y, hy, rfl⟩ := hr
        obtain ⟨dx', d', b', m1, m2, C⟩ := kid ch y (mem_kids_arr ho) hy
        exact .inr ⟨y, dx', d', b'.val, dat σ k ch, b'.handed, rfl, m1, m2, by rw [List.getElem?_map, ho]; rfl, C⟩
    · rename_i r dr a da l rd td i9 t9 ot kvs ks
      obtain ⟨hot, hl, hkv⟩ := hb
      have hlen := hkv.length
      refine told_H (hB _ (.tail _ (.tail _ (.head _)))) (hB _ (.tail _ (.tail _ (.tail _ (.head _))))) (hB _ (.tail _ (.tail _ (.tail _ (.tail _ (.head _)))))) (hB _ (.tail _ (.tail _ (.tail _ (.tail _ (.tail _ (.head _))))))) (hB _ (.tail _ (.tail _ (.tail _ (.tail _ (.tail _ (.tail _ (.head _)))))))) hot hl (by rw [hlen]; exact hz _ _ hc) (by simp [hlen]) ?_
      intro i key v hv
      obtain ⟨⟨k', ch⟩, ho, e1, y, hy, e2⟩ := All2_get2 (i := i) hkv hv
      dsimp only at e1 e2
      subst e1 e2
      obtain ⟨dx', d', b', m1, m2, C⟩ := kid ch y (mem_kids_hash ho) hy
      exact ⟨kvs_at hot hv, y, dx', d', b'.val, dat σ k ch, b'.handed, rfl, m1, m2, by rw [List.getElem?_map, ho]; rfl, C⟩
    · rename_i r dr y rd ch
      obtain ⟨dx', d', b', m1, m2, C⟩ := kid ch y (.head _) hb
      exact told_S (hB _ (.tail _ (.tail _ (.head _)))) (hB _ (.tail _ (.tail _ (.tail _ (.head _))))) m1 m2 b'.handed C
set_option tactic.hygienic true in
theorem own_s {prog : Program} {w : World} {os : List ON} {R : Led} {σ : List Cont} {dl : Nat → Nat} (G : OGood prog w os R σ) (dp : Dp σ dl) (hz : ∀ (j : Nat) (ks : List (Str × Nat)), σ[j]? = some (.hash ks) → ks.length ≤ 1000) :
    ∀ (k j : Nat) (n : ON), os[j]? = some n → 5 ≤ dl j + k → ∀ GL, Has (OL os R) GL → RT prog w 605 k n.b.val (dat σ k j) GL := by
  intro k
  induction k with
  | zero =>
    intro j n hn hk
    obtain ⟨hj, -⟩ := List.getElem?_eq_some_iff.mp hn
    have := dp.top j (by rw [← G.len]; exact hj)
    omega
  | succ k ih =>
    intro j n hn hk GL hG
    obtain ⟨hj, -⟩ := List.getElem?_eq_some_iff.mp hn
    have hc : σ[j]? = some (σ[j]'(by rw [← G.len]; exact hj)) := List.getElem?_eq_getElem _
    generalize σ[j]'(by rw [← G.len]; exact hj) = c at hc
    have hb := G.cm j n c hn hc
    have hB : Has n.blk GL := fun p hp => hG p (oblk_has hn p hp)
    rw [dat_succ hc]
    obtain ⟨x, e, b⟩ := n
    have kid : ∀ ch y, ch ∈ c.kids → Cof os ch = some y → ∃ e b, (y, listOf #[OB.val b] e) ∈ GL ∧ ∀ G', Has GL G' → RT prog w 605 k b.val (dat σ k ch) G' := by
      intro ch y hm hy
      obtain ⟨⟨y', e, b⟩, hn', rfl⟩ := Option.map_eq_some_iff.mp hy
      have h1 := dp.kid j c hc ch hm
      have hB' : Has (ON.blk ⟨y', e, b⟩) GL := fun p hp => hG p (oblk_has hn' p hp)
      exact ⟨e, b, hB' _ (.head _), fun G' hG' => ih ch _ hn' (by omega) G' fun p hp => hG' p (hG p hp)⟩
    cases b <;> cases c <;> first | exact hb.elim | skip
    · exact own_leaf (.inl rfl) .none
    · obtain ⟨rfl, -⟩ := hb; exact own_leaf (.inr (.inl ⟨_, _, rfl⟩)) (.int _ _)
    · obtain ⟨rfl, -⟩ := hb; exact own_leaf (.inr (.inr ⟨_, _, rfl⟩)) (.str _ _)
    · rename_i T tn l te tk vs items
      obtain ⟨hsz, hit⟩ := hb
      have hlen : items.length = vs.size := by rw [← hit.length]; simp
      refine own_A (hB _ (.tail _ (.head _))) (hB _ (.tail _ (.tail _ (.head _)))) hsz (by simpa using hlen) ?_
      intro i v hv
      obtain ⟨o, ho, hr⟩ := All2_get2 (i := i) hit (by simpa using hv)
      cases o with
      | none => exact .inl ⟨hr, by rw [List.getElem?_map, ho]; rfl⟩
      | some ch =>
        obtain ⟨y, hy, rfl⟩ := hr
        obtain ⟨e', b', m1, C⟩ := kid ch y (mem_kids_arr ho) hy
        exact .inr ⟨y, e', b'.val, dat σ k ch, rfl, m1, by rw [List.getElem?_map, ho]; rfl, C⟩
    · rename_i T tn l tk ot kvs ks
      obtain ⟨hot, hl, hkv⟩ := hb
      have hlen := hkv.length
      refine own_H (hB _ (.tail _ (.head _))) (hB _ (.tail _ (.tail _ (.head _)))) hot hl (by rw [hlen]; exact hz _ _ hc) (by simp [hlen]) ?_
      intro i key v hv
      obtain ⟨⟨k', ch⟩, ho, e1, y, hy, e2⟩ := All2_get2 (i := i) hkv hv
      dsimp only at e1 e2
      subst e1 e2
      obtain ⟨e', b', m1, C⟩ := kid ch y (mem_kids_hash ho) hy
      exact ⟨kvs_at hot hv, y, e', b'.val, dat σ k ch, rfl, m1, by rw [List.getElem?_map, ho]; rfl, C⟩
    · rename_i T tn y tk ch
      obtain ⟨e', b', m1, C⟩ := kid ch y (.head _) hb
      exact own_S (hB _ (.tail _ (.head _))) m1 C
end
section
section
variable {prog : Program} {w : World} {A : Around} {E : Value → Shared → Prop} {s : Shared} {h₀ : Heap} {L : Addr} {news n1 n2 : Led} {v1 v2 : Value} {d : Dat} {Q : Value → Shared → Prop}
theorem dat_eq (N : News h₀ L s.heap news) (D1 : DatIn n1 v1 d) (s1 : Has n1 news) (D2 : DatIn n2 v2 d) (s2 : Has n2 news) (hk : kqdOk 40 d = true) (hu : A.units + 64 < cLine) (h : Q (.bool true) s) : wpAny (model prog w) A (compareOp .Eq v1 v2) Q E s := by
  obtain ⟨as, ra⟩ := kqd_in N 40 (D1.mono s1) hk
  obtain ⟨bs, rb⟩ := kqd_in N 40 (D2.mono s2) hk
  have la := kqd_lay 40 d hk
  have sh : SeqAt.shaped (kqdP d) = true := by
    unfold SeqAt.shaped; rw [la.1, Bool.true_and]; exact decide_eq_true (Nat.le_trans la.2 (by decide))
  exact eq_dataH ra rb sh sh hu (by rw [(kqd_eqv 40 d d 40 hk hk).mpr rfl]; exact h)
theorem dat_ne (N : News h₀ L s.heap news) (D1 : DatIn n1 v1 d) (s1 : Has n1 news) (D2 : DatIn n2 v2 d) (s2 : Has n2 news) (hk : kqdOk 40 d = true) (hu : A.units + 64 < cLine) (h : Q (.bool false) s) : wpAny (model prog w) A (compareOp .NotEq v1 v2) Q E s := by
  obtain ⟨as, ra⟩ := kqd_in N 40 (D1.mono s1) hk
  obtain ⟨bs, rb⟩ := kqd_in N 40 (D2.mono s2) hk
  have la := kqd_lay 40 d hk
  have sh : SeqAt.shaped (kqdP d) = true := by
    unfold SeqAt.shaped; rw [la.1, Bool.true_and]; exact decide_eq_true (Nat.le_trans la.2 (by decide))
  exact ne_dataH ra rb sh sh hu (by rw [(kqd_eqv 40 d d 40 hk hk).mpr rfl]; exact h)
theorem dat_eq2 {a b l1 l1' l2 : Led} (N : News h₀ L s.heap l2) (h1 : Has (a ++ l1) l1') (h2 : Has (b ++ l1') l2) (D1 : DatIn a v1 d) (D2 : DatIn b v2 d) (hk : kqdOk 40 d = true) (hu : A.units + 64 < cLine) (h : Q (.bool true) s) : wpAny (model prog w) A (compareOp .Eq v1 v2) Q E s :=
  dat_eq N D1 (fun p hp => h2 p (List.mem_append_right _ (h1 p (List.mem_append_left _ hp)))) D2 (fun p hp => h2 p (List.mem_append_left _ hp)) hk hu h
theorem dat_ne2 {a b l1 l1' l2 : Led} (N : News h₀ L s.heap l2) (h1 : Has (a ++ l1) l1') (h2 : Has (b ++ l1') l2) (D1 : DatIn a v1 d) (D2 : DatIn b v2 d) (hk : kqdOk 40 d = true) (hu : A.units + 64 < cLine) (h : Q (.bool false) s) : wpAny (model prog w) A (compareOp .NotEq v1 v2) Q E s :=
  dat_ne N D1 (fun p hp => h2 p (List.mem_append_right _ (h1 p (List.mem_append_left _ hp)))) D2 (fun p hp => h2 p (List.mem_append_left _ hp)) hk hu h
end
noncomputable def Cont.sok : Cont → Prop
  | .str s => PyData.strOk s = true
  | .hash ks => ∀ p ∈ ks, PyData.strOk p.1 = true
  | _ => True
noncomputable abbrev Sok (σ : List Cont) : Prop := ∀ (j : Nat) (c : Cont), σ[j]? = some c → c.sok
theorem dat_ok {σ : List Cont} (h : Sok σ) : ∀ k j, kqdOk (4 * k) (dat σ k j) = true
  | 0, _ => rfl
  | k + 1, j => by
    have ih := dat_ok h k
    have up : ∀ (n : Nat) (d : Dat), kqdOk n d = true → kqdOk (n + 1) d = true := by
      intro n
      induction n with
      | zero => intro d h; cases d <;> simp_all [kqdOk]
      | succ n ih =>
        intro d h
        cases d <;> simp_all [kqdOk]
    cases e : σ[j]? with
    | none => rw [dat, e]; rfl
    | some c =>
      rw [dat_succ e]
      have hs := h j c e
      cases c with
      | none => rfl
      | int n => rfl
      | str s => exact hs
      | arr items =>
        show kqdOk (4 * k + 3 + 1) (.tuple _) = true
        simp only [kqdOk, List.all_cons, List.all_nil, Bool.and_true, Bool.and_eq_true, List.all_eq_true, List.mem_map]
        refine ⟨by decide +kernel, ?_⟩
        rintro _ ⟨o, -, rfl⟩
        cases o with
        | none => simp [itemD, kqdOk]
        | some c => simp only [itemD, kqdOk, List.all_cons, List.all_nil, Bool.and_true]; exact up _ _ (ih c)
      | hash ks =>
        show kqdOk (4 * k + 3 + 1) (.tuple _) = true
        simp only [kqdOk, List.all_cons, List.all_nil, Bool.and_true, Bool.and_eq_true, List.all_eq_true, List.mem_map]
        refine ⟨by decide +kernel, ?_⟩
        rintro _ ⟨p, hp, rfl⟩
        simp only [kqdOk, List.all_cons, List.all_nil, Bool.and_true, Bool.and_eq_true]
        exact ⟨hs p hp, ih _⟩
      | sc c =>
        show kqdOk (4 * k + 3 + 1) (.tuple _) = true
        simp only [kqdOk, List.all_cons, List.all_nil, Bool.and_true, Bool.and_eq_true]
        exact ⟨by decide +kernel, up _ _ (up _ _ (ih c))⟩
theorem dat_ok40 {σ : List Cont} (h : Sok σ) {k : Nat} (hk : k ≤ 5) (j : Nat) : kqdOk 40 (dat σ k j) = true := by
  have up : ∀ (m n : Nat) (d : Dat), kqdOk n d = true → kqdOk (n + m) d = true := by
    have one : ∀ (n : Nat) (d : Dat), kqdOk n d = true → kqdOk (n + 1) d = true := by
      intro n
      induction n with
      | zero => intro d h; cases d <;> simp_all [kqdOk]
      | succ n ih => intro d h; cases d <;> simp_all [kqdOk]
    intro m
    induction m with
    | zero => intro n d h; exact h
    | succ m ih => intro n d h; exact one _ _ (ih n d h)
  have := up (40 - 4 * k) _ _ (dat_ok h k j)
  rwa [show 4 * k + (40 - 4 * k) = 40 by omega] at this
theorem comb_perm {f : Fix} {S : PS} {os : List ON} {R : Led} : (S.led f (OL os R)).Perm (OL os (S.led f R)) := by
  have h : ∀ (X A B : Led), (X ++ (A ++ B)).Perm (A ++ (X ++ B)) := fun X A B => by
    rw [← List.append_assoc, ← List.append_assoc]
    exact List.perm_append_comm.append_right _
  unfold PS.led OL
  have h1 := h ([(f.rn, runO f), (f.drn, runD f), (f.li, limO f), (f.dli, limD f), (f.ct, ctrO f), (f.dct, ctrD f), (f.hp, heapO f), (f.dhp, heapD f S.n S.tn), (f.pl, f.po), (f.zr, listOf S.zs S.ze)] ++ S.ps.flatMap PN.blk) (os.flatMap ON.blk) R
  rw [List.append_assoc, List.append_assoc] at h1
  exact h1
theorem both_at {prog : Program} {w : World} {f : Fix} {S : PS} {os : List ON} {R : Led} {σ : List Cont} {dl : Nat → Nat} (G : PGood prog w f S (OL os R) σ) (O : OGood prog w os (S.led f R) σ) (dp : Dp σ dl) (hz : ∀ (j : Nat) (ks : List (Str × Nat)), σ[j]? = some (.hash ks) → ks.length ≤ 1000) (sk : Sok σ) {j : Nat} (hj : j < σ.length) :
    ∃ (k : Nat) (n : PN) (m : ON), S.ps[j]? = some n ∧ os[j]? = some m ∧ Has n.blk (S.led f (OL os R)) ∧ Has m.blk (S.led f (OL os R)) ∧ handedIn n.b.val = true ∧ kqdOk 40 (dat σ k j) = true ∧ 5 ≤ dl j + k ∧ k ≤ 5 ∧
    (∀ G', Has (S.led f (OL os R)) G' → RT prog w 600 k n.b.val (dat σ k j) G') ∧ ∀ G', Has (S.led f (OL os R)) G' → RT prog w 605 k m.b.val (dat σ k j) G' := by
  have h1 : S.ps[j]? = some (S.ps[j]'(by rw [G.len]; exact hj)) := List.getElem?_eq_getElem _
  have h2 : os[j]? = some (os[j]'(by rw [O.len]; exact hj)) := List.getElem?_eq_getElem _
  have ht := dp.top j hj
  refine ⟨5 - dl j, _, _, h1, h2, blk_has h1, fun p hp => comb_perm.mem_iff.mpr (oblk_has h2 p hp), PB.handed _, dat_ok40 sk (by omega) j, by omega, by omega, told_s G dp hz _ j _ h1 (by omega), fun G' hG => own_s O dp hz _ j _ h2 (by omega) G' fun p hp => hG p (comb_perm.mem_iff.mpr hp)⟩
theorem has_two {a b l1 m1 m2 : Led} (h2 : Has (b ++ m1) m2) (h1 : Has (a ++ l1) m1) : Has l1 m2 := fun p hp => h2 p (List.mem_append_right _ (h1 p (List.mem_append_right _ hp)))
theorem item_any {prog : Program} {w : World} {A : Around} {E : Value → Shared → Prop} {s : Shared} {h₀ : Heap} {L : Addr} {news : Led} {l e : Nat} {vs : Array Value} {value slice : PySem.Expr} {k : Int} {u : Tok} {Q : Value → Shared → Prop} (N : News h₀ L s.heap news) (hm : (l, listOf vs e) ∈ news) (hz : vs.size ≤ 1000) (h1 : k < vs.size) (h2 : 0 ≤ k + vs.size)
    (h : Q (elemAt vs (placeOf vs.size k)) s) (hs : subscripted slice false (.ref l) (.int k u) = operate [.ref l, .int k u] (getItem (.ref l) (.int k u))) :
    wpAny (model prog w) A (subscriptTail value slice (.ref l) (.int k u)) Q E s := by
  by_cases h0 : 0 ≤ k
  · have hx : vs[k.toNat]? = some vs[k.toNat] := Array.getElem?_eq_getElem (by omega)
    have e1 := elemAt_in h0 hx
    rw [place_pos h0, ← e1] at h
    exact item_is N hm h0 hz hx h hs
  · have hx : vs[(k + vs.size).toNat]? = some vs[(k + vs.size).toNat] := Array.getElem?_eq_getElem (by omega)
    have e1 := elemAt_in h2 hx
    rw [place_neg (by omega) h2, ← e1] at h
    exact tail_any (isList_L N hm).typeIs slot_list_getitem.lookup (wpAny_getItem_list_neg (isList_L N hm) (by omega) (by omega) (by omega) hx h) hs
theorem item_anyE {prog : Program} {w : World} {A : Around} {E : Value → Shared → Prop} {s : Shared} {h₀ : Heap} {L : Addr} {news : Led} {l e : Nat} {vs : Array Value} {value slice : PySem.Expr} {k : Int} {u : Tok} {v : Value} {Q : Value → Shared → Prop} (N : News h₀ L s.heap news) (hm : (l, listOf vs e) ∈ news) (hz : vs.size ≤ 1000) (h1 : k < vs.size) (h2 : 0 ≤ k + vs.size) (he : elemAt vs (placeOf vs.size k) = v)
    (h : Q v s) (hs : subscripted slice false (.ref l) (.int k u) = operate [.ref l, .int k u] (getItem (.ref l) (.int k u))) :
    wpAny (model prog w) A (subscriptTail value slice (.ref l) (.int k u)) Q E s := item_any N hm hz h1 h2 (he.symm ▸ h) hs
theorem looked_item {X Y : Nat → Option Nat} {vs1 vs2 : Array Value} {items : List (Option Nat)} (h1 : All2 (ItemR X) vs1.toList items) (h2 : All2 (ItemR Y) vs2.toList items) (q : Int) :
    (elemAt vs1 q = .none ∧ elemAt vs2 q = .none) ∨ ∃ ch y z, X ch = some y ∧ Y ch = some z ∧ elemAt vs1 q = .ref y ∧ elemAt vs2 q = .ref z ∧ 0 ≤ q ∧ q < vs2.size := by
  have z1 : items.length = vs1.size := by rw [← h1.length]; simp
  have z2 : items.length = vs2.size := by rw [← h2.length]; simp
  by_cases hq : 0 ≤ q ∧ q < items.length
  · have hi : items[q.toNat]? = some items[q.toNat] := List.getElem?_eq_getElem (by omega)
    generalize items[q.toNat] = o at hi
    obtain ⟨a, ha, ra⟩ := h1.get hi
    obtain ⟨b, hb, rb⟩ := h2.get hi
    have ea := elemAt_in hq.1 (show vs1[q.toNat]? = some a by simpa using ha)
    have eb := elemAt_in hq.1 (show vs2[q.toNat]? = some b by simpa using hb)
    cases o with
    | none => exact .inl ⟨ea.symm.trans ra, eb.symm.trans rb⟩
    | some ch =>
      obtain ⟨y, hy, e1⟩ := ra
      obtain ⟨z, hz, e2⟩ := rb
      exact .inr ⟨ch, y, z, hy, hz, ea.symm.trans e1, eb.symm.trans e2, hq.1, by omega⟩
  · exact .inl ⟨(elemAt_out (by omega)).symm, (elemAt_out (by omega)).symm⟩
theorem place_in {n : Nat} {i : Int} (h0 : 0 ≤ placeOf n i) (h1 : placeOf n i < n) : i < n ∧ 0 ≤ i + n := by
  unfold placeOf at *
  split at h0 <;> split at h1 <;> (try split at h0) <;> (try split at h1) <;> omega
theorem looked_key {X Y : Nat → Option Nat} {k1 k2 : List (Str × Value)} {ks : List (Str × Nat)} (h1 : All2 (KvR X) k1 ks) (h2 : All2 (KvR Y) k2 ks) (k : Str) :
    (valueAt k1 k = none ∧ valueAt k2 k = none) ∨ ∃ ch y z, X ch = some y ∧ Y ch = some z ∧ valueAt k1 k = some (.ref y) ∧ valueAt k2 k = some (.ref z) := by
  have a := look_kv (k := k) h1
  have b := look_kv (k := k) h2
  cases e : lookS ks k with
  | none => rw [e] at a b; exact .inl ⟨a, b⟩
  | some ch =>
    rw [e] at a b
    obtain ⟨y, hy, e1⟩ := a
    obtain ⟨z, hz, e2⟩ := b
    exact .inr ⟨ch, y, z, hy, hz, e1, e2⟩
theorem get_DE {prog : Program} {w : World} {A : Around} {E : Value → Shared → Prop} {s : Shared} {h₀ : Heap} {L : Addr} {news : Led} {d : Nat} {o : Obj} {kvs : List (Str × Value)} {k : Str} {u : Tok} {v : Value} {Q : Value → Shared → Prop} (N : News h₀ L s.heap news) (hp : (d, o) ∈ news) (hd : o.IsDictOf (PySem.strKind prog w) kvs) (lo : 1 < d) (hv : (valueAt kvs k).getD .none = v)
    (h : Q v { s with toks := s.toks + 1 }) : wpAny (model prog w) A (call (.builtin "dict.get") [.ref d, .str k u]) Q E s := get_D N hp hd lo rfl (hv.symm ▸ h)
end
section
namespace M
variable {Γ : Cx} {K : List Fm} {ml : Ml} {G : Led}
theorem neB {a b : Bool} (z : Bool) (hz : (a != b) = z) (h : Γ.N 90 (.sg (.v (.bool z))) K ml G) : Γ.W (.co .NotEq (.bool a) (.bool b)) K ml G := leaf rfl (.bool z) (fun h => ne_bool (by rw [hz]; exact h)) h
theorem itemAny {l e : Nat} {vs : Array Value} {v : Value} {ex sl : PySem.Expr} {k : Int} {u : Tok} (hm : (l, listOf vs e) ∈ G) (hz : vs.size ≤ 1000) (h1 : k < vs.size) (h2 : 0 ≤ k + vs.size) (he : elemAt vs (placeOf vs.size k) = v) (hs : subscripted sl false (.ref l) (.int k u) = operate [.ref l, .int k u] (getItem (.ref l) (.int k u))) (h : Γ.N 90 (.sg (.v v)) K ml G) : Γ.W (.gi ex sl (.ref l) (.int k u)) K ml G :=
  leafN rfl v (fun xx9 xx9 N q => item_anyE N hm hz h1 h2 he (q _) hs) h
theorem datEq {a b : Led} {v1 v2 : Value} {d : Dat} (D1 : DatIn a v1 d) (h1 : Has a G) (D2 : DatIn b v2 d) (h2 : Has b G) (hk : kqdOk 40 d = true) (hu : 64 ≤ Γ.un) (h : Γ.N 90 (.sg (.v (.bool true))) K ml G) : Γ.W (.co .Eq v1 v2) K ml G := by
  intro p loose mean mg mb dp un gd outer A₀ base h₀ L s Q' E' B F X N T hd hu2 ret exc
  exact dat_eq N D1 h1 D2 h2 hk (Nat.lt_of_le_of_lt (Nat.add_le_add_left hu un) hu2.1) (ret _ _ G s.heap s.toks F N (Cx.N_ok h))
theorem datNe {a b : Led} {v1 v2 : Value} {d : Dat} (D1 : DatIn a v1 d) (h1 : Has a G) (D2 : DatIn b v2 d) (h2 : Has b G) (hk : kqdOk 40 d = true) (hu : 64 ≤ Γ.un) (h : Γ.N 90 (.sg (.v (.bool false))) K ml G) : Γ.W (.co .NotEq v1 v2) K ml G := by
  intro p loose mean mg mb dp un gd outer A₀ base h₀ L s Q' E' B F X N T hd hu2 ret exc
  exact dat_ne N D1 h1 D2 h2 hk (Nat.lt_of_le_of_lt (Nat.add_le_add_left hu un) hu2.1) (ret _ _ G s.heap s.toks F N (Cx.N_ok h))
end M
structure LInv (prog : Program) (w : World) (f : Fix) (S : PS) (os : List ON) (R : Led) (I : Addr) (vs1 : List Value) (m : Str → Option Value) (news : Led) (j x c : Nat) (path : List Stp) : Prop where
  led : news = S.led f (OL os R)
  hx : Xof S.ps j = some x
  hc : Cof os j = some c
  items : All2 (StepR R) vs1 path
  scalar : m "scalar" = some (.ref x)
  cell : m "cell" = some (.ref c)
theorem looked_tel {prog : Program} {w : World} {f : Fix} {S : PS} {os : List ON} {R : Led} {σ : List Cont} {dl : Nat → Nat} {j x c pl e : Nat} {vs : List Value} {path : List Stp} (G : PGood prog w f S (OL os R) σ) (O : OGood prog w os (S.led f R) σ) (dp : Dp σ dl) (hz : ∀ (j : Nat) (ks : List (Str × Nat)), σ[j]? = some (.hash ks) → ks.length ≤ 1000) (sk : Sok σ)
    (hx : Xof S.ps j = some x) (hc : Cof os j = some c) (hp : (pl, listOf vs.toArray e) ∈ R) (hv : All2 (StepR R) vs path) :
    Tel prog w 626 [.ref x, .ref c, .ref pl] 200 900 (S.led f (OL os R)) (fun v n => v = .bool true ∧ Has (S.led f (OL os R)) n) (fun xx9 => False) := by
  have hR : Has R (S.led f (OL os R)) := fun p hp => rest_has _ (orest_has _ hp)
  k_dflt (refine' Tel.ofM (dn := 199) (un' := 897) ?k6 ?k7 ?k9 ?kB ?c2 ?c3 ?c4 ?c5 ?_; (case k6 => k_is); (case k7 => k_is); (case k9 => exact fun s X => BindsTo.of_eq rfl); (case kB => exact locs rfl); (case c5 => decide); (case c2 => exact rfl); (case c3 => exact rfl); (case c4 => exact rfl))
  intro Q Z q1 _ _ Γ
  refine M.forPairs rfl rfl rfl (hR _ hp) rfl rfl (fun I vs1 m1 G1 => (∀ p ∈ S.led f (OL os R), p.1 ≠ I) ∧ ∃ j1 x1 c1 path1, LInv prog w f S os R I vs1 m1 G1 j1 x1 c1 path1)
    (fun I hI => ⟨fun p hp => Nat.ne_of_lt (hI p hp), j, x, c, path, rfl, hx, hc, hv, look_at rfl, look_at rfl⟩) (fun I v vs1 m1 G1 hi => ?_) fun I m1 G1 hi => ?_
  · obtain ⟨w9, j1, x1, c1, path1, rfl, w1, w2, w3, w4, w5⟩ := hi
    cases w3 with
    | @cons xx9 stp xx9 path2 hst w3 =>
    obtain ⟨T', n0, tk', u, rfl, hTm, hua⟩ := hst
    refine ⟨T', n0, .str stp.kd.str tk', u, [("scalar", .ref x1), ("cell", .ref c1)], rfl, hR _ hTm, look_add1 (look_add1 look_base w5) w4, fun o Q2 qr qn => Cx.N_ok (n := 90) (M.lets ?_)⟩
    intro Γw mlw gw
    obtain ⟨⟨x1', dx, d, b⟩, hn, e⟩ := Option.map_eq_some_iff.mp w1
    cases e
    obtain ⟨⟨c1', e1, ob⟩, hm, e⟩ := Option.map_eq_some_iff.mp w2
    cases e
    obtain ⟨hj, -⟩ := List.getElem?_eq_some_iff.mp hn
    have hc0 : σ[j1]? = some (σ[j1]'(by rw [← G.len]; exact hj)) := List.getElem?_eq_getElem _
    generalize σ[j1]'(by rw [← G.len]; exact hj) = c0 at hc0
    have hb := G.cm _ _ _ hn hc0
    have hob := O.cm _ _ _ hm hc0
    have bn : Has (PN.blk ⟨x1', dx, d, b⟩) (S.led f (OL os R)) := blk_has hn
    have bm : Has (ON.blk ⟨c1', e1, ob⟩) (S.led f (OL os R)) := fun p hp => comb_perm.mem_iff.mpr (oblk_has hm p hp)
    have mc := fun {p} h => List.Mem.tail (I, o) (bm p h)
    refine M.getOwn (.tail _ (bn _ (.head _))) (.tail _ (bn _ (.tail _ (.head _)))) ga_value rfl (PB.handed b) ?_
    intro t1
    refine M.one (mc (.head _)) (by with_unfolding_all rfl) ?_
    cases hk : c0.kd with
    | none =>
      refine M.isiTupNo (hob.plain hk) ?_
      exact qr _ _ _ (q1 _ _ _ ⟨rfl, fun xx9 h => .tail _ h⟩)
    | some kk =>
      obtain ⟨T, tn, tk2, ww, hv1, hT1, htu⟩ := hob.tup hk
      have hT2 := mc (.tail _ hT1)
      rw [hv1]
      refine M.isiTup hT2 ?_
      intro t2
      refine M.one (mc (.head _)) (by with_unfolding_all rfl) ?_
      rw [hv1]
      intro t3
      refine M.tup0 hT2 (by with_unfolding_all rfl) ?_
      rcases Classical.em (kk = stp.kd) with rfl | hne
      · refine M.neS false Kd.str_eq ?_
        intro t4
        refine M.one (mc (.head _)) (by with_unfolding_all rfl) ?_
        rw [hv1]
        intro t5
        refine M.tup1 hT2 (by with_unfolding_all rfl) ?_
        intro t6
        cases stp with
        | A i =>
          obtain ⟨tu, rfl, hi0, hi1⟩ := hua
          obtain ⟨T', tn', l, te, tk', vs2, items, rfl, rfl⟩ := hob.invA hk
          obtain ⟨r, dr, a, da, l1, e2, rd, td, vp, rfl⟩ := CM.invA hb
          cases (show some (_, _, _, Value.ref _) = some _ from htu)
          obtain ⟨hs1, hit1⟩ := hb
          obtain ⟨hs2, hit2⟩ := hob
          have hq : placeOf vp.size i = placeOf vs2.size i := by
            have z1 := hit1.length
            have z2 := hit2.length
            rw [show vp.size = vs2.size by simpa using z1.trans z2.symm]
          have hl := bm _ (.tail _ (.tail _ (.head _)))
          have hs3 := Nat.le_trans hs2 (show 8 ≤ 1000 by decide)
          refine M.eqS true (by show (("A" : Str) == ("A" : Str)) = true; decide +kernel) ?_
          refine M.getOwn (.tail _ (bn _ (.tail _ (.tail _ (.head _))))) (.tail _ (bn _ (.tail _ (.tail _ (.tail _ (.head _)))))) gaR.1 rfl rfl ?_
          refine M.tel (elem_of_tel (rest := (I, o) :: S.led f (OL os R)) hs1 rfl) (has_cons (.tail _ (bn _ (.tail _ (.tail _ (.tail _ (.tail _ (.head _))))))) (has_cons (.tail _ (bn _ (.tail _ (.tail _ (.tail _ (.tail _ (.tail _ (.head _)))))))) (has_cons (.tail _ (bn _ (.tail _ (.tail _ (.tail _ (.tail _ (.tail _ (.tail _ (.head _))))))))) fun xx9 h => h))) (Nat.le_of_ble_eq_true rfl) (Nat.le_of_ble_eq_true rfl) (fun xx9 h => h.elim) ?_
          rintro _ G2 ⟨rfl, hs⟩
          have up : Has ((I, o) :: S.led f (OL os R)) G2 := fun p h => hs p (.tail _ (.tail _ (.tail _ h)))
          have hl2 := up _ (.tail _ hl)
          refine M.len hl2 hs3 fun t8 => ?_
          refine M.neg fun t9 => ?_
          rcases looked_item hit1 hit2 (placeOf vs2.size i) with ⟨p1, p2⟩ | ⟨ch, y, z, hy, hz', p1, p2, q0, q9⟩
          · rw [hq, p1]
            cases z1 : decide (-(vs2.size : Int) ≤ i) with
            | false =>
              refine M.le false z1 ?_
              refine M.isN true rfl ?_
              refine M.isN true rfl ?_
              refine M.neB false rfl ?_
              refine M.isN true rfl ?_
              exact qr _ _ _ (q1 _ _ _ ⟨rfl, fun p h => up p (.tail _ h)⟩)
            | true =>
              refine M.le true z1 ?_
              refine M.len hl2 hs3 fun t8 => ?_
              cases z2 : decide (i < (vs2.size : Int)) with
              | false =>
                refine M.lt false z2 ?_
                refine M.isN true rfl ?_
                refine M.isN true rfl ?_
                refine M.neB false rfl ?_
                refine M.isN true rfl ?_
                exact qr _ _ _ (q1 _ _ _ ⟨rfl, fun p h => up p (.tail _ h)⟩)
              | true =>
                refine M.lt true z2 ?_
                refine M.itemAny hl2 hs3 (of_decide_eq_true z2) (by have := of_decide_eq_true z1; omega) p2 (by with_unfolding_all rfl) ?_
                refine M.isN true rfl ?_
                refine M.isN true rfl ?_
                refine M.neB false rfl ?_
                refine M.isN true rfl ?_
                exact qr _ _ _ (q1 _ _ _ ⟨rfl, fun p h => up p (.tail _ h)⟩)
          · obtain ⟨q2, q3⟩ := place_in q0 q9
            rw [hq, p1]
            refine M.le true (decide_eq_true (by omega)) ?_
            refine M.len hl2 hs3 fun t8 => ?_
            refine M.lt true (decide_eq_true q2) ?_
            refine M.itemAny hl2 hs3 q2 q3 p2 (by with_unfolding_all rfl) ?_
            refine M.isN false rfl ?_
            refine M.isN false rfl ?_
            refine M.neB false rfl ?_
            refine M.isN false rfl ?_
            exact qn _ _ ⟨_, up, w9, hR _ hp, w9, _, _, _, path2, ⟨rfl, hy, hz', w3, look_at rfl, look_at rfl⟩⟩
        | H k =>
          obtain ⟨tu, rfl⟩ := hua
          obtain ⟨T', tn', l, tk', ot, kvs, ks, rfl, rfl⟩ := hob.invH hk
          obtain ⟨r, dr, a, da, l1, rd, td, i9, t9, op, kp, rfl⟩ := CM.invH hb
          cases (show some (_, _, _, Value.ref _) = some _ from htu)
          obtain ⟨ho1, hl1, hk1⟩ := hb
          obtain ⟨ho2, hl2, hk2⟩ := hob
          have hl := bm _ (.tail _ (.tail _ (.head _)))
          refine M.eqS false (by show (("H" : Str) == ("A" : Str)) = false; decide +kernel) ?_
          intro t7
          refine M.eqS true (by show (("H" : Str) == ("H" : Str)) = true; decide +kernel) ?_
          refine M.getOwn (.tail _ (bn _ (.tail _ (.tail _ (.head _))))) (.tail _ (bn _ (.tail _ (.tail _ (.tail _ (.head _)))))) gaR.1 rfl rfl ?_
          refine M.tel (helem_of_tel (rest := (I, o) :: S.led f (OL os R)) ho1 hl1) (has_cons (.tail _ (bn _ (.tail _ (.tail _ (.tail _ (.tail _ (.head _))))))) (has_cons (.tail _ (bn _ (.tail _ (.tail _ (.tail _ (.tail _ (.tail _ (.head _)))))))) (has_cons (.tail _ (bn _ (.tail _ (.tail _ (.tail _ (.tail _ (.tail _ (.tail _ (.head _))))))))) fun xx9 h => h))) (Nat.le_of_ble_eq_true rfl) (Nat.le_of_ble_eq_true rfl) (fun xx9 h => h.elim) ?_
          rintro _ G2 ⟨rfl, hs⟩
          have up : Has ((I, o) :: S.led f (OL os R)) G2 := fun p h => hs p (.tail _ (.tail _ (.tail _ h)))
          refine M.methD (up _ (.tail _ hl)) ho2 PySem.F.slot_dict_get PySem.F.type_dict_get rfl ?_
          rcases looked_key hk1 hk2 k with ⟨p1, p2⟩ | ⟨ch, y, z, hy, hz', p1, p2⟩
          · rw [p1]
            refine M.dGet (up _ (.tail _ hl)) ho2 hl2 p2 ?_
            refine M.isN true rfl ?_
            refine M.isN true rfl ?_
            refine M.neB false rfl ?_
            refine M.isN true rfl ?_
            exact qr _ _ _ (q1 _ _ _ ⟨rfl, fun p h => up p (.tail _ h)⟩)
          · rw [p1]
            refine M.dGet (up _ (.tail _ hl)) ho2 hl2 p2 ?_
            refine M.isN false rfl ?_
            refine M.isN false rfl ?_
            refine M.neB false rfl ?_
            refine M.isN false rfl ?_
            exact qn _ _ ⟨_, up, w9, hR _ hp, w9, _, _, _, path2, ⟨rfl, hy, hz', w3, look_at rfl, look_at rfl⟩⟩
        | S =>
          obtain ⟨tu, rfl⟩ := hua
          obtain ⟨T', tn', y2, tk', ch, rfl, rfl⟩ := hob.invS hk
          obtain ⟨r, dr, y, rd, rfl⟩ := CM.invS hb
          cases (show some (_, _, _, Value.ref _) = some _ from htu)
          refine M.eqS false (by show (("S" : Str) == ("A" : Str)) = false; decide +kernel) ?_
          intro t7
          refine M.eqS false (by show (("S" : Str) == ("H" : Str)) = false; decide +kernel) ?_
          refine M.getOwn (.tail _ (bn _ (.tail _ (.tail _ (.head _))))) (.tail _ (bn _ (.tail _ (.tail _ (.tail _ (.head _)))))) gaR.1 rfl rfl ?_
          refine M.isN false rfl ?_
          refine M.isN false rfl ?_
          refine M.neB false rfl ?_
          refine M.isN false rfl ?_
          exact qn _ _ ⟨_, fun xx9 h => h, w9, hR _ hp, w9, _, _, _, path2, ⟨rfl, hb, hob, w3, look_at rfl, look_at rfl⟩⟩
      · refine M.neS true (Kd.str_ne hne) ?_
        exact qr _ _ _ (q1 _ _ _ ⟨rfl, fun xx9 h => .tail _ h⟩)
  · obtain ⟨w9, j1, x1, c1, path1, rfl, w1, w2, w3, w4, w5⟩ := hi
    refine ⟨[("scalar", .ref x1), ("cell", .ref c1)], look_add1 (look_add1 look_base w5) w4, ?_⟩
    obtain ⟨k, n, m, hn, hm, bn, bm, hh, ok, k5, k6, CT, CO⟩ := both_at G O dp hz sk (j := j1) (by rw [← G.len]; exact (List.getElem?_eq_some_iff.mp (Option.map_eq_some_iff.mp w1).choose_spec.1).1)
    obtain ⟨n', hn', rfl⟩ := Option.map_eq_some_iff.mp w1
    obtain ⟨m', hm', rfl⟩ := Option.map_eq_some_iff.mp w2
    cases hn.symm.trans hn'
    cases hm.symm.trans hm'
    obtain ⟨x1, dx, d, b⟩ := n
    obtain ⟨c1, e1, ob⟩ := m
    refine M.getOwn (bn _ (.head _)) (bn _ (.tail _ (.head _))) ga_value rfl hh ?_
    refine M.tel (CT _ fun xx9 h => h) (fun xx9 h => h) (show 20 * k + 20 ≤ 199 by omega) (show 100 * k + 60 ≤ 897 by omega) (fun xx9 h => h.elim) ?_
    rintro v1 G1 ⟨a1, ha1, -, D1⟩
    intro t1
    refine M.one (ha1 _ (List.mem_append_right _ (bm _ (.head _)))) (by with_unfolding_all rfl) ?_
    refine M.tel (CO _ fun p h => ha1 p (List.mem_append_right _ h)) (fun xx9 h => h) (show 20 * k + 20 ≤ 199 by omega) (show 100 * k + 60 ≤ 897 by omega) (fun xx9 h => h.elim) ?_
    rintro v2 G2 ⟨a2, ha2, -, D2⟩
    refine M.datEq D1 (fun p h => ha2 p (List.mem_append_right _ (ha1 p (List.mem_append_left _ h)))) D2 (fun p h => ha2 p (List.mem_append_left _ h)) ok (Nat.le_of_ble_eq_true rfl) ?_
    exact q1 _ _ _ ⟨rfl, fun p h => ha2 p (List.mem_append_right _ (ha1 p (List.mem_append_right _ h)))⟩
end
section
theorem off_sing {l : Led} {I : Addr} {o : Obj} (h : ∀ p ∈ l, p.1 ≠ I) : ∀ p ∈ l, ∀ q ∈ [((I, o) : Addr × Obj)], p.1 ≠ q.1 := fun p hp q hq => by rw [List.mem_singleton.mp hq]; exact h p hp
noncomputable def TelL (prog : Program) (w : World) (f : Addr) (args : List Value) (dn un' : Nat) (news : Led) (post : Value → Led → Prop) : Prop :=
  ∀ (p : Program) (loose : List Str) (mean : ExcName → Option Value) (mg mb : Str → Option Value) (dp un : Nat) (gd : Option (List Code)) (cn : Str) (cs : Scope) (a : Addr) (ccd : Value) (A₀ : Around) (base h₀ : Heap) (L : Addr) (m : Str → Option Value) (s : Shared)
    (Q E : Value → Shared → Prop),
    Below A₀ base [] h₀ → Fr h₀ L s.heap m → (hp0.heap_1_39 w.params).In h₀ → News h₀ L s.heap news → Top p loose mean mg mb h₀ → (hp0.heap_1_39 w.params).In base → Top p loose mean mg mb base → cs.kind = .function → dp + dn < recursionLimit → un + un' < cLine →
    (∀ r news' h' tk', Fr h₀ L h' m → News h₀ L h' news' → post r news' → Q r { s with heap := h', toks := tk' }) →
    wpAny (model prog w) (ktrTop dp un gd cn cs L a ccd [] []) (call (.ref f) args) Q E s
noncomputable def Tld (ko : Option Str) (GL : Led) (r : Value) (n : Led) : Prop :=
  Has GL n ∧ ((ko = none ∧ Plain r) ∨ ∃ K T n0 tk ww, ko = some K ∧ r = .ref T ∧ (T, tupO #[.str K tk, ww] n0) ∈ n)
noncomputable def Drs (prog : Program) (w : World) (rn F : Nat) (v : Value) (ko : Option Str) (K : Str) (tgt : Nat) (GL : Led) : Prop :=
  ∀ G', Has GL G' → Tel prog w F [.ref rn, v] 30 150 G' (fun r n => ko = some K ∧ r = .ref tgt ∧ Has G' n) (fun n => ko ≠ some K ∧ Has G' n)
inductive DV (GL : Led) : Value → Option Str → Nat → Prop
  | plain {v : Value} {t : Nat} : Plain v → DV GL v none t
  | arr {r dr a da l : Nat} {rd : RD} {td : TD} : (r, instObj 162 dr) ∈ GL → (dr, refD rd a) ∈ GL → (a, instObj 85 da) ∈ GL → (da, arD td l) ∈ GL → DV GL (.ref r) (some "A") a
  | hash {r dr a da l : Nat} {rd : RD} {td : TD} {i9 : Int} {t9 : Tok} : (r, instObj 162 dr) ∈ GL → (dr, refD rd a) ∈ GL → (a, instObj 104 da) ∈ GL → (da, haD td l i9 t9) ∈ GL → DV GL (.ref r) (some "H") a
  | sc {r dr a da : Nat} {rd : RD} {td : TD} {x : Value} : (r, instObj 162 dr) ∈ GL → (dr, refD rd a) ∈ GL → (a, instObj 66 da) ∈ GL → (da, scD td x) ∈ GL → DV GL (.ref r) (some "S") a
noncomputable def TupK (G : Led) (v : Value) (K : Str × Nat) : Prop := ∃ T tk, v = .ref T ∧ (T, tupO #[.str K.1 tk, .ref K.2] 0) ∈ G
noncomputable def IsK (v : Value) (K : Str × Nat) : Prop := ∃ tk, v = .str K.1 tk
noncomputable def KL : List (Str × Nat) := [("A", 385), ("H", 392), ("S", 399), ("C", 406)]
noncomputable def hits (ko : Option Str) (l : List (Str × Nat)) : List (Str × Nat) := l.filter fun K => ko == some K.1
structure DInv (ko : Option Str) (G1 : Led) (rn L sl : Nat) (oL : Obj) (v told : Value) (vs1 : List Value) (m : Str → Option Value) (news : Led) (dn ks : List (Str × Nat)) (sls : Array (Option Value)) (ws : List Value) (e : Nat) : Prop where
  led : news = (L, { oL with slots := sls }) :: (sl, listOf ws.toArray e) :: G1
  all : KL = dn ++ ks
  items : All2 (TupK G1) vs1 ks
  got : All2 IsK ws (hits ko dn)
  run : m "run" = some (.ref rn)
  value : m "value" = some v
  told : m "told" = some told
  sorts : m "sorts" = some (.ref sl)
theorem m_four {m : Str → Option Value} {k1 k2 k3 k4 : Str} {v1 v2 v3 v4 : Value} (h1 : m k1 = some v1) (h2 : m k2 = some v2) (h3 : m k3 = some v3) (h4 : m k4 = some v4) : m = fun y => if y = k1 then some v1 else if y = k2 then some v2 else if y = k3 then some v3 else if y = k4 then some v4 else m y :=
  (m_two h1 h2).trans (funext fun y => by rw [show (if y = k3 then some v3 else if y = k4 then some v4 else m y) = m y from (congrFun (m_two h3 h4) y).symm])
theorem hits_len (ko : Option Str) (l : List (Str × Nat)) : (hits ko l).length ≤ l.length := List.length_filter_le _ _
theorem hits_app (ko : Option Str) (l : List (Str × Nat)) (K : Str × Nat) : hits ko (l ++ [K]) = hits ko l ++ if ko == some K.1 then [K] else [] := by
  simp only [hits, List.filter_append, List.filter_cons, List.filter_nil]
theorem drf_end {g g2 h' : Heap} {L L' sl I rn : Addr} {oL o : Obj} {m' : Str → Option Value} {s₁ : Shared} {tk : Nat} {ko : Option Str} {G1 : Led} {q : Addr × Obj} {v told : Value} {vs1 : List Value} {dn ks : List (Str × Nat)} {K : Str × Nat} {ws' : List Value} {e' : Nat} (hoL : g.get? L = some oL) (T : KtsTurn [L] g g2) (F : Fr g2 L' h' m') (N : News g2 L' h' ((I, o) :: (sl, listOf ws'.toArray e') :: G1))
    (hI : ∀ p ∈ (sl, o) :: G1, p.1 ≠ I) (hk : q ∈ G1) (all : KL = dn ++ K :: ks) (items : All2 (TupK G1) vs1 ks) (got : All2 IsK ws' (hits ko (dn ++ [K]))) (run : m' "run" = some (.ref rn)) (value : m' "value" = some v) (htold : m' "told" = some told) (sorts : m' "sorts" = some (.ref sl)) :
    UnrEndW (hideAll g [L]) L' s₁ [(I, o)] (fun m n => SubL [q] n ∧ (∀ p ∈ n, p.1 ≠ I) ∧ ∃ dn ks sls ws e, DInv ko G1 rn L sl oL v told vs1 m n dn ks sls ws e) { s₁ with heap := h', toks := tk } := by
  obtain ⟨⟨sls, N3⟩, hne⟩ := hid_N hoL T F N
  have off : ∀ p ∈ (L, { oL with slots := sls }) :: (sl, listOf ws'.toArray e') :: G1, p.1 ≠ I := by
    intro p hp
    rcases List.mem_cons.mp hp with rfl | hp
    · exact fun e => hne (I, o) (.head _) e.symm
    · rcases List.mem_cons.mp hp with rfl | hp
      · exact hI (sl, o) (.head _)
      · exact hI p (.tail _ hp)
  refine ⟨h', tk, m', (L, { oL with slots := sls }) :: (sl, listOf ws'.toArray e') :: G1, rfl, hid_F T F, News.has N3 (has_cons (.tail _ (.head _)) (has_cons (.head _) fun p hp => .tail _ (.tail _ hp))), off_sing off, ⟨.tail _ (.tail _ hk), trivial⟩, off, dn ++ [K], ks, sls, ws', e', rfl, by rw [all, List.append_assoc]; rfl, items, got, run, value, htold, sorts⟩
theorem hits_no {ko : Option Str} {dn : List (Str × Nat)} {K : Str} {Fk : Nat} {ws : List Value} (h : ko ≠ some K) (w : All2 IsK ws (hits ko dn)) : All2 IsK ws (hits ko (dn ++ [(K, Fk)])) := by
  rw [hits_app, if_neg (by simpa using h), List.append_nil]; exact w
theorem hits_yes {ko : Option Str} {dn : List (Str × Nat)} {K : Str} {Fk : Nat} {ws : List Value} {tk : Tok} (h : ko = some K) (w : All2 IsK ws (hits ko dn)) : All2 IsK (ws ++ [.str K tk]) (hits ko (dn ++ [(K, Fk)])) := by
  rw [hits_app, if_pos (by simp [h])]; exact w.append (.cons ⟨tk, rfl⟩ .nil)
theorem keep_KL {w : World} (K : Str × Nat) (hK : K ∈ KL) : keepIn (hp0.heap_1_39 w.params) (.ref K.2) = true := by
  simp only [KL, List.mem_cons, List.not_mem_nil, or_false] at hK
  rcases hK with rfl | rfl | rfl | rfl <;> k_is
noncomputable def drO : { o : Obj // ∀ P, (hp0.heap_1_39 P).lookup 633 = some o } := ⟨_, by intro P; k_is⟩
noncomputable def drF : FuncData := match drO.1.data with | .func fd => fd | _ => default
noncomputable def drB : List Stmt := match drF.body with | .stmts l => l | _ => []
noncomputable def drS : Scope := drF.scope
noncomputable def drL : List Stmt := match drB.drop 2 with | .For _ _ b _ _ :: _ => b | _ => []
noncomputable def drT : List Stmt := match drL with | .Try b _ _ _ _ :: _ => b | _ => []
theorem Wt.ofM {prog : Program} {w : World} {φ : Fn} {dn un' : Nat} {st : List Stmt} {m : Str → Option Value} {G : Led} {post : Flow → (Str → Option Value) → Led → Prop} {l : List (Str × Value)} (hk : φ.sc.kind = .function) (hl : look ⟨l, m⟩ = m)
    (h : ∀ Q : Flow → (Str → Option Value) → Led → Prop, (∀ fl m' G', post fl m' G' → Q fl m' G') → let Γ : Cx := ⟨prog, w, φ, dn, un', Q, fun xx9 => False, hk⟩; Cx.W Γ (.st st) [] ⟨l, m⟩ G) : Wt prog w φ dn un' (execs st) m G post (fun xx9 => False) := by
  have h := h post fun xx9 xx9 xx9 q => q
  unfold Cx.W at h
  rw [hl] at h
  exact h
theorem M.callLoc {Γ : Cx} {x : Str} {p pos : Pos} {f : Addr} {e : PySem.Expr} {r : List PySem.Expr} {K : List Fm} {ml : Ml} {G : Led} (hv : ml.l.lookup x = some (.ref f)) (hf : keepIn (hp0.heap_1_39 Γ.w.params) (.ref f) = true) (hk : (Γ.φ.env 0).kindOf x = some .local) (hd : (x == ("__debug__" : Str)) = false) (hs : noStar (e :: r) = true) (h : Γ.N 90 (.ar pos (.cal (.ref f)) [] (e :: r)) K ml G) (ht : Γ.φ.tr = Option.none := by rfl) : Γ.W (.ev (.Call (.Name x p) (e :: r) [] pos)) K ml G :=
  R.call (R.name (look_at hv) hk (Cx.ok ht) hd (R.callw hf (Cx.N_ok h) (fun L => star_he hs) fun L => star_any (star_tl hs))) fun xx9 => rfl
theorem DV.num {w : World} {GL : Led} {v : Value} {K : Str} {tgt : Nat} (hv : DV GL v (some K) tgt) : ∃ r dr rd c da es n0 num t, v = .ref r ∧ (r, instObj 162 dr) ∈ GL ∧ (dr, refD rd tgt) ∈ GL ∧ (tgt, instObj c da) ∈ GL ∧ (da, dictOf es n0) ∈ GL ∧ GA w c "number" ∧ getL "number" es = some (some (.int num t)) := by
  cases hv with
  | arr a b c d => exact ⟨_, _, _, _, _, _, _, _, _, rfl, a, b, c, d, ⟨by k_is, by k_is, _, by k_is, by k_is⟩, rfl⟩
  | hash a b c d => exact ⟨_, _, _, _, _, _, _, _, _, rfl, a, b, c, d, ⟨by k_is, by k_is, _, by k_is, by k_is⟩, rfl⟩
  | sc a b c d => exact ⟨_, _, _, _, _, _, _, _, _, rfl, a, b, c, d, ⟨by k_is, by k_is, _, by k_is, by k_is⟩, rfl⟩
theorem drf_yes {prog : Program} {w : World} {fa : Addr} {cd : Value} {G0 GL : Led} {rn tgt S1 e Fk : Nat} {v : Value} {K : Str} {tk : Tok} {ws : List Value} {m : Str → Option Value} (hv : DV GL v (some K) tgt) (hs : Has GL G0) (C : ∀ G', Has GL G' → Tel prog w Fk [.ref rn, v] 30 150 G' (fun r n => r = .ref tgt ∧ Has G' n) (fun xx9 => False)) (hF : keepIn (hp0.heap_1_39 w.params) (.ref Fk) = true) (hS : ∀ p ∈ G0, p.1 ≠ S1) (hz : ws.length ≤ 4)
    (h1 : m "run" = some (.ref rn)) (h2 : m "value" = some v) (h3 : m "sorts" = some (.ref S1)) (h4 : m "kind" = some (.str K tk)) (h5 : m "deref" = some (.ref Fk)) :
    Wt prog w ⟨"_law_derefs", drS, fa, cd, [], Option.none, Option.none, false⟩ 199 890 (execs drT) m ((S1, listOf ws.toArray e) :: G0) (fun fl m' G' => fl = .next ∧ m' = m ∧ Has ((S1, listOf (ws ++ [Value.str K tk]).toArray (e + 1)) :: G0) G') (fun xx9 => False) := by
  obtain ⟨r, dr, rd, c, da, es, n0, num, t, rfl, k1, k2, k3, k4, k5, k6⟩ := DV.num (w := w) hv
  generalize q0 : drT = s0
  (conv at q0 => lhs; whnf)
  subst q0
  have hl : look ⟨[("run", .ref rn), ("value", .ref r), ("sorts", .ref S1), ("kind", .str K tk), ("deref", .ref Fk)], m⟩ = m := look_add1 (look_add1 (look_add1 (look_add1 (look_add1 look_base h5) h4) h3) h2) h1
  refine Wt.ofM (by kernel_rfl) hl fun Q q => ?_
  intro Γ
  refine Cx.N_ok (n := 90) ?_
  refine M.callLoc rfl hF rfl rfl rfl ?_
  refine M.tel (C _ fun p hp => .tail _ (hs p hp)) (fun xx9 h => h) (Nat.le_of_ble_eq_true rfl) (Nat.le_of_ble_eq_true rfl) (fun xx9 h => h.elim) ?_
  rintro _ G1 ⟨rfl, hh⟩
  have hg : ∀ p ∈ GL, p ∈ G1 := fun p hp => hh p (.tail _ (hs p hp))
  refine M.getOwn (hg _ k3) (hg _ k4) k5 k6 rfl ?_
  refine M.getOwn (hg _ k1) (hg _ k2) gaT rfl rfl ?_
  refine M.getOwn (hg _ k3) (hg _ k4) k5 k6 rfl ?_
  refine M.neI false (by simp) ?_
  refine M.led (c := .me _ _ _ _ _) ((S1, listOf ws.toArray e) :: G0) (by exact trivial) hh ?_
  refine M.methL (at_ 0 rfl) PySem.F.slot_list_append PySem.F.type_list_append rfl ?_
  refine M.append (.head hS) (by simp only [List.size_toArray]; omega) ?_
  exact q _ _ _ ⟨rfl, hl, by rw [← List.push_toArray]; exact fun xx9 h => h⟩
theorem drf_ret {prog : Program} {w : World} {fa : Addr} {cd : Value} {G0 GL : Led} {S1 e : Nat} {told : Value} {ko : Option Str} {ws : List Value} {m : Str → Option Value} (hw : All2 IsK ws (hits ko KL)) (hk : ∀ K, ko = some K → K ∈ (["A", "H", "S"] : List Str)) (hs : Has GL G0) (hT : Tld ko GL told G0) (h1 : m "told" = some told) (h2 : m "sorts" = some (.ref S1)) :
    Wt prog w ⟨"_law_derefs", drS, fa, cd, [], Option.none, Option.none, false⟩ 199 890 (execs (drB.drop 3)) m ((S1, listOf ws.toArray e) :: G0) (fun fl m' G' => fl = .ret (.bool true) ∧ Has GL G') (fun xx9 => False) := by
  generalize q0 : drB.drop 3 = s0
  (conv at q0 => lhs; whnf)
  subst q0
  have hl : look ⟨[("told", told), ("sorts", .ref S1)], m⟩ = m := look_add1 (look_add1 look_base h2) h1
  refine Wt.ofM (by kernel_rfl) hl fun Q q => ?_
  intro Γ
  obtain ⟨-, ⟨rfl, hp⟩ | ⟨K, T9, n0, tk9, ww, rfl, rfl, hm9⟩⟩ := hT
  · cases (hw : All2 IsK ws [])
    refine Cx.N_ok (n := 90) ?_
    refine M.isiTupNo hp ?_
    refine M.newList (Nat.le_of_ble_eq_true rfl) fun l hL => ?_
    refine M.datEq (d := .list []) (.list (vs := []) (.tail _ (.head _)) .nil) (fun xx9 h => h) (.list (vs := []) (.head _) .nil) (fun xx9 h => h) (by decide +kernel) (Nat.le_of_ble_eq_true rfl) ?_
    exact q _ _ _ ⟨rfl, fun p hp => .tail _ (.tail _ (hs p hp))⟩
  · have h1 : hits (some K) KL = [(K, (hits (some K) KL).headD ("", 0) |>.2)] ∧ kqdOk 40 (.list [.str K]) = true := by
      have := hk K rfl
      simp only [List.mem_cons, List.not_mem_nil, or_false] at this
      rcases this with rfl | rfl | rfl <;> exact ⟨by decide +kernel, by decide +kernel⟩
    rw [h1.1] at hw
    obtain ⟨tk8, rfl⟩ : ∃ tk8, ws = [Value.str K tk8] := by
      cases hw with
      | cons a b =>
        obtain ⟨tk8, rfl⟩ := a
        cases b
        exact ⟨tk8, rfl⟩
    refine Cx.N_ok (n := 90) ?_
    refine M.isiTup (.tail _ hm9) ?_
    intro t0
    refine M.tup0 (.tail _ hm9) (by with_unfolding_all rfl) ?_
    refine M.newList (Nat.le_of_ble_eq_true rfl) fun l hL => ?_
    refine M.datEq (d := .list [.str K]) (.list (vs := [.str K tk8]) (.tail _ (.head _)) (.cons (.str _ _) .nil)) (fun xx9 h => h) (.list (vs := [.str K tk9]) (.head _) (.cons (.str _ _) .nil)) (fun xx9 h => h) h1.2 (Nat.le_of_ble_eq_true rfl) ?_
    exact q _ _ _ ⟨rfl, fun p hp => .tail _ (.tail _ (hs p hp))⟩
theorem DV.kinds {GL : Led} {v : Value} {ko : Option Str} {tgt : Nat} (hv : DV GL v ko tgt) : ∀ K, ko = some K → K ∈ (["A", "H", "S"] : List Str) := by
  intro K e
  cases hv with
  | plain => cases e
  | arr => cases e; exact .head _
  | hash => cases e; exact .tail _ (.head _)
  | sc => cases e; exact .tail _ (.tail _ (.head _))
noncomputable def drI : PySem.Expr := match drB.drop 2 with | .For _ it _ _ _ :: _ => it | _ => .Constant .none 0 ⟨0, 0, 0, 0⟩
noncomputable def drG : PySem.Expr := match drB.drop 2 with | .For t _ _ _ _ :: _ => t | _ => .Constant .none 0 ⟨0, 0, 0, 0⟩
theorem drf_pre {prog : Program} {w : World} {fa : Addr} {cd : Value} {GL : Led} {rn : Nat} {v : Value} {ko : Option Str} {m : Str → Option Value} (CT : Tel prog w 600 [v] 150 700 GL (Tld ko GL) (fun xx9 => False)) (h1 : m "run" = some (.ref rn)) (h2 : m "value" = some v) :
    Wt prog w ⟨"_law_derefs", drS, fa, cd, [], Option.none, Option.none, false⟩ 199 890 (execs (drB.take 2)) m GL (fun fl m' G' => fl = .next ∧ ∃ told S1 G0, G' = (S1, listOf #[] 0) :: G0 ∧ Above S1 G0 ∧ Tld ko GL told G0 ∧ m' "run" = some (.ref rn) ∧ m' "value" = some v ∧ m' "told" = some told ∧ m' "sorts" = some (.ref S1)) (fun xx9 => False) := by
  generalize q0 : drB.take 2 = s0
  (conv at q0 => lhs; whnf)
  subst q0
  have hl : look ⟨[("run", .ref rn), ("value", v)], m⟩ = m := look_add1 (look_add1 look_base h2) h1
  refine Wt.ofM (by kernel_rfl) hl fun Q q => ?_
  intro Γ
  refine Cx.N_ok (n := 90) ?_
  refine M.tel CT (fun xx9 h => h) (Nat.le_of_ble_eq_true rfl) (Nat.le_of_ble_eq_true rfl) (fun xx9 h => h.elim) ?_
  intro told G0 hT
  refine M.newList (Nat.le_of_ble_eq_true rfl) fun S1 a => ?_
  exact q _ _ _ ⟨rfl, told, S1, G0, rfl, a, hT, look_at rfl, look_at rfl, look_at rfl, look_at rfl⟩
theorem drf_list {prog : Program} {w : World} {fa : Addr} {cd : Value} {G0 : Led} {S1 : Nat} {m : Str → Option Value} (a : Above S1 G0) :
    Wt prog w ⟨"_law_derefs", drS, fa, cd, [], Option.none, Option.none, false⟩ 199 890 (eval drI) m ((S1, listOf #[] 0) :: G0) (fun v m' G' => m' = m ∧ ∃ pl vs G1, v = .ref pl ∧ Has ((S1, listOf #[] 0) :: G1) G' ∧ (pl, listOf vs.toArray 0) ∈ G1 ∧ All2 (TupK G1) vs KL ∧ Has G0 G1 ∧ ∀ p ∈ G1, p.1 ≠ S1) (fun xx9 => False) := by
  generalize q0 : drI = s0
  (conv at q0 => lhs; whnf)
  subst q0
  suffices H : ∀ Q : Flow → (Str → Option Value) → Led → Prop, (∀ v G', (∃ pl vs G1, v = .ref pl ∧ Has ((S1, listOf #[] 0) :: G1) G' ∧ (pl, listOf vs.toArray 0) ∈ G1 ∧ All2 (TupK G1) vs KL ∧ Has G0 G1 ∧ ∀ p ∈ G1, p.1 ≠ S1) → Q (.ret v) m G') → Cx.W ⟨prog, w, ⟨"_law_derefs", drS, fa, cd, [], Option.none, Option.none, false⟩, 199, 890, Q, fun xx9 => False, by kernel_rfl⟩ (.ev _) [.ret] ⟨[], m⟩ ((S1, listOf #[] 0) :: G0) by
    have h := H (fun fl m' G' => ∃ v, fl = .ret v ∧ m' = m ∧ ∃ pl vs G1, v = .ref pl ∧ Has ((S1, listOf #[] 0) :: G1) G' ∧ (pl, listOf vs.toArray 0) ∈ G1 ∧ All2 (TupK G1) vs KL ∧ Has G0 G1 ∧ ∀ p ∈ G1, p.1 ≠ S1) fun v G' h => ⟨v, rfl, rfl, h⟩
    unfold Cx.W at h
    refine Wt.mono h (fun v m' G' q => ?_) fun xx9 => id
    obtain ⟨v', e, q⟩ := (q : ∃ v', Flow.ret v = .ret v' ∧ _)
    cases e
    exact q
  intro Q q
  refine Cx.N_ok (n := 90) ?_
  intro t1
  refine M.newTuple (Nat.le_of_ble_eq_true rfl) fun T1 b1 => ?_
  intro t2
  refine M.newTuple (Nat.le_of_ble_eq_true rfl) fun T2 b2 => ?_
  intro t3
  refine M.newTuple (Nat.le_of_ble_eq_true rfl) fun T3 b3 => ?_
  intro t4
  refine M.newTuple (Nat.le_of_ble_eq_true rfl) fun T4 b4 => ?_
  refine M.newList (Nat.le_of_ble_eq_true rfl) fun pl b5 => ?_
  have c1 := b1 _ (.head _)
  have c2 := b2 _ (.tail _ (.head _))
  have c3 := b3 _ (.tail _ (.tail _ (.head _)))
  have c4 := b4 _ (.tail _ (.tail _ (.tail _ (.head _))))
  have c5 := b5 _ (.tail _ (.tail _ (.tail _ (.tail _ (.head _)))))
  refine q _ _ ⟨pl, [.ref T1, .ref T2, .ref T3, .ref T4], (pl, listOf #[.ref T1, .ref T2, .ref T3, .ref T4] 0) :: (T4, tupO #[.str "C" t4, .ref 406] 0) :: (T3, tupO #[.str "S" t3, .ref 399] 0) :: (T2, tupO #[.str "H" t2, .ref 392] 0) :: (T1, tupO #[.str "A" t1, .ref 385] 0) :: G0, rfl, ?_, .head _, .cons ⟨_, _, rfl, at_ 4 rfl⟩ (.cons ⟨_, _, rfl, at_ 3 rfl⟩ (.cons ⟨_, _, rfl, at_ 2 rfl⟩ (.cons ⟨_, _, rfl, at_ 1 rfl⟩ .nil))), fun p hp => .tail _ (.tail _ (.tail _ (.tail _ (.tail _ hp)))), ne_cons (Nat.ne_of_gt c5) (ne_cons (Nat.ne_of_gt c4) (ne_cons (Nat.ne_of_gt c3) (ne_cons (Nat.ne_of_gt c2) (ne_cons (Nat.ne_of_gt c1) fun p hp => Nat.ne_of_lt (a p hp)))))⟩
  exact perm [5, 0, 1, 2, 3, 4] 6 rfl
theorem drf_unp {prog : Program} {w : World} {fa : Addr} {cd : Value} {G : Led} {Tt Fk : Nat} {K : Str} {tk : Tok} {m : Str → Option Value} (hT : (Tt, tupO #[.str K tk, .ref Fk] 0) ∈ G) :
    Wt prog w ⟨"_law_derefs", drS, fa, cd, [], Option.none, Option.none, false⟩ 199 890 (fun env => PySem.assign drG env (.ref Tt)) m G (fun xx9 m' G' => m' = upd (upd m "kind" (.str K tk)) "deref" (.ref Fk) ∧ G' = G) (fun xx9 => False) := by
  refine R.unpack2 hT rfl rfl ⟨rfl, by kernel_rfl⟩ ⟨rfl, rfl⟩
theorem wpAny_app {M : Model} {A : Around} {env : Env} {l l2 : List Stmt} {Q : Flow → Shared → Prop} {E : Value → Shared → Prop} {s : Shared} (h : wpAny M A (execs l env) (fun fl s' => fl = .next ∧ wpAny M A (execs l2 env) Q E s') E s) : wpAny M A (execs (l ++ l2) env) Q E s := by
  rw [execs_app]
  refine wpAny_bind (wpAny_mono h ?_ fun xx9 xx9 e => e)
  rintro fl s' ⟨rfl, h⟩
  exact h
theorem args2 {prog : Program} {w : World} {φ : Fn} {dn un' : Nat} {m : Str → Option Value} {G : Led} {Z : Led → Prop} {Q : List Value → (Str → Option Value) → Led → Prop} {a b : Str} {u v : Value} {p1 p2 pos : Pos} (ok : φ.ok) (h1 : m a = some u) (h2 : m b = some v) (k1 : (φ.env 0).kindOf a = some .local) (k2 : (φ.env 0).kindOf b = some .local) (d1 : (a == ("__debug__" : Str)) = false) (d2 : (b == ("__debug__" : Str)) = false) (q : Q [u, v] m G) :
    Wt prog w φ dn un' (fun env => spliced (backTo pos (starEach [.Name a p1, .Name b p2] env))) m G Q Z :=
  R.acons (R.name h1 k1 ok d1 (R.acons (R.name h2 k2 ok d2 (R.anil q)) fun xx9 => rfl)) fun xx9 => rfl
theorem drf_body {prog : Program} {w : World} {rn tgt : Nat} {v : Value} {ko : Option Str} {GL : Led} (hv : DV GL v ko tgt) (CT : Tel prog w 600 [v] 150 700 GL (Tld ko GL) (fun xx9 => False)) (CD : ∀ K ∈ KL, Drs prog w rn K.2 v ko K.1 tgt GL)
    {p : Program} {loose : List Str} {mean : ExcName → Option Value} {mg mb : Str → Option Value} {dp un : Nat} {gd : Option (List Code)} {cn : Str} {cs : Scope} {L a : Addr} {ccd cd : Value} {base g' : Heap} {L' : Addr} {m : Str → Option Value} {s : Shared} {Q : Flow → Shared → Prop} {E : Value → Shared → Prop} {oL : Obj}
    (hoL : g'.get? L = some oL) (F' : Fr g' L' s.heap m) (hm1 : m "run" = some (.ref rn)) (hm2 : m "value" = some v) (N' : News g' L' s.heap GL) (B' : Below (ktrTop dp un gd cn cs L a ccd [] []) base [envOf cn cs L a ccd] g') (X' : (hp0.heap_1_39 w.params).In g') (T' : Top p loose mean mg mb g') (XB : (hp0.heap_1_39 w.params).In base) (TB : Top p loose mean mg mb base) (D' : KtsDicts ([envOf cn cs L a ccd].filterMap (·.frame)) g') (hd : dp + 1 + 199 < recursionLimit) (hu : un + 3 + 890 < cLine)
    (hE : PassesOwn (model prog w) (ktrTop (dp + 1) (un + 3) gd "_law_derefs" drS L' 633 cd [] [envOf cn cs L a ccd]) (envX "_law_derefs" drS L' 633 cd []) E) (hE2 : ∀ v : Value, PassesOwnAt (model prog w) ((ktrTop (dp + 1) (un + 3) gd "_law_derefs" drS L' 633 cd [] [envOf cn cs L a ccd]).mark (some v)) (ktrTop (dp + 1) (un + 3) gd "_law_derefs" drS L' 633 cd [] [envOf cn cs L a ccd]) (envX "_law_derefs" drS L' 633 cd []) E)
    (hQ : ∀ g2 m' G' h' tk', KtsTurn ([envOf cn cs L a ccd].filterMap (·.frame)) g' g2 → Fr g2 L' h' m' → News g2 L' h' G' → Has GL G' → Q (.ret (.bool true)) { s with heap := h', toks := tk' }) :
    wpAny (model prog w) (ktrTop (dp + 1) (un + 3) gd "_law_derefs" drS L' 633 cd [] [envOf cn cs L a ccd]) (execs drB (envX "_law_derefs" drS L' 633 cd [])) Q E s := by
  refine wpAny_app (l := drB.take 2) (l2 := drB.drop 2) ?_
  refine drf_pre (fa := 633) CT hm1 hm2 p loose mean mg mb (dp + 1) (un + 3) gd [envOf cn cs L a ccd] _ base g' L' _ _ _ B' F' X' N' T' (by omega) ⟨by omega, by passes_own, .inr RaisesTo.no, ⟨(fun xx9 h => nomatch h), fun h => nomatch h⟩⟩ ?_ (fun xx9 xx9 xx9 xx9 xx9 xx9 xx9 xx9 xx9 q => q.elim)
  rintro _ m1 G1' h1 tk1 F1 N1 ⟨rfl, told, S1, G0, rfl, aS, hT, r1, r2, r3, r4⟩
  refine ⟨rfl, ?_⟩
  show wpAny _ _ (execs (Stmt.For drG drI drL [] _ :: drB.drop 3) _) _ _ _
  refine wpAny_execs_cons ?_
  have lG := hid_F (L := L) KtsTurn.refl F1
  refine For_turns lG ?_ (hE := hE)
  refine drf_list (fa := 633) aS p loose mean mg mb (dp + 1) (un + 3) gd [envOf cn cs L a ccd] _ base g' L' _ _ _ B' F1 X' N1 T' (by omega) ⟨by omega, by passes_own, .inr RaisesTo.no, ⟨(fun xx9 h => nomatch h), fun h => nomatch h⟩⟩ ?_ (fun xx9 xx9 xx9 xx9 xx9 xx9 xx9 xx9 xx9 q => q.elim)
  rintro _ _ G9 h9 tk9 F9 N9 ⟨rfl, pl, vs, G1, rfl, hs9, hpl, hall, hG0, hS1⟩
  obtain ⟨⟨sls, N3⟩, hne⟩ := hid_N hoL KtsTurn.refl F9 (News.has N9 hs9)
  have F3 := hid_F (L := L) KtsTurn.refl F9
  have hSL : S1 ≠ L := hne _ (.head _)
  have hGL : Has GL G1 := fun p hp => hG0 p (hT.1 p hp)
  refine' iter_listTurns rfl F3 N3 (.tail _ (.tail _ hpl)) rfl rfl fun I hI => ?_
  refine' items_ind (inv := fun vs1 m1 news1 => (∀ p ∈ news1, p.1 ≠ I) ∧ ∃ dn ks sls ws e, DInv ko G1 rn L S1 oL v told vs1 m1 news1 dn ks sls ws e) ?_ ?_ vs _ _ ⟨fun p hp => Nat.ne_of_lt (hI p hp), [], KL, sls, [], 0, rfl, rfl, hall, .nil, r1, r2, r3, r4⟩
  · rintro m2 news1 ⟨hoff, dn, ks, sls, ws, e, W⟩ h tk F4 N4
    obtain ⟨rfl, w2, w3, w4, w5, w6, w7, w8⟩ := W
    cases w3
    rw [List.append_nil] at w2
    subst w2
    obtain ⟨g2, T2, F5, N5⟩ := unhid hoL F4 N4 (fun p hp => (List.mem_cons.mp hp).elim (fun z => by rw [z]; exact hSL) fun z => hne p (.tail _ z))
    have B5 := below_turn B' (T2 : KtsTurn ([envOf cn cs L a ccd].filterMap (·.frame)) g' g2)
    show wpAny _ _ (execs (drB.drop 3) _) _ _ _
    refine drf_ret (fa := 633) w4 hv.kinds hGL ⟨hGL, hT.2.imp id fun ⟨K, T9, n0, tk9, ww, h1, h2, h3⟩ => ⟨K, T9, n0, tk9, ww, h1, h2, hG0 _ h3⟩⟩ w7 w8 p loose mean mg mb (dp + 1) (un + 3) gd [envOf cn cs L a ccd] _ base g2 L' _ _ _ B5 F5 (XB.keeps B5.stays) N5 (TB.keeps B5.stays) (by omega) ⟨by omega, by passes_own, .inr RaisesTo.no, ⟨(fun xx9 h => nomatch h), fun h => nomatch h⟩⟩ ?_ (fun xx9 xx9 xx9 xx9 xx9 xx9 xx9 xx9 xx9 q => q.elim)
    rintro v9 m9 G9 h9 tk9 F9 N9 ⟨rfl, hs9⟩
    exact hQ _ _ _ _ _ T2 F9 N9 hs9
  · rintro v1 vs1 m2 news1 ⟨hoff, dn, ks, sls, ws, e, W⟩ h tk F4
    refine AllObj.cons fun o ho => AllObj.nil fun N4 => ?_
    obtain ⟨rfl, w2, w3, w4, w5, w6, w7, w8⟩ := W
    cases w3 with
    | @cons xx9 K xx9 ks2 hst w3 =>
    obtain ⟨Tt, tk', rfl, hTm⟩ := hst
    have hIL : I ≠ L := fun z => hoff (L, _) (.head _) z.symm
    have hIo : ∀ p ∈ (S1, o) :: G1, p.1 ≠ I := fun p hp => (List.mem_cons.mp hp).elim (fun z => by rw [z]; exact fun z2 => hoff (S1, listOf ws.toArray e) (.tail _ (.head _)) z2) fun z => hoff p (.tail _ (.tail _ z))
    obtain ⟨g2, T2, F5, N5⟩ := unhid hoL F4 (News.has N4 (l' := (L, { oL with slots := sls }) :: (I, o) :: (S1, listOf ws.toArray e) :: G1) (has_cons (.tail _ (.head _)) (has_cons (.head _) fun p hp => .tail _ (.tail _ hp)))) (fun p hp => (List.mem_cons.mp hp).elim (fun z => by rw [z]; exact hIL) fun hp => (List.mem_cons.mp hp).elim (fun z => by rw [z]; exact hSL) fun z => hne p (.tail _ z))
    have B5 := below_turn B' (T2 : KtsTurn ([envOf cn cs L a ccd].filterMap (·.frame)) g' g2)
    have X5 := XB.keeps B5.stays
    have T5 := TB.keeps B5.stays
    have D5 := D'.turn (T2 : KtsTurn ([envOf cn cs L a ccd].filterMap (·.frame)) g' g2)
    have T6 : KtsTurn ([envOf cn cs L a ccd].filterMap (·.frame)) g' g2 := T2
    rw [m_four w5 w6 w7 w8] at F5
    have hK : K ∈ KL := by rw [w2]; exact List.mem_append_right _ (.head _)
    have C1 := CD K hK
    have hkeep := keep_KL (w := w) K hK
    obtain ⟨K, Fk⟩ := K
    dsimp only at C1 hTm hkeep
    have hI1 : I ≠ S1 := fun z => hoff (S1, listOf ws.toArray e) (.tail _ (.head _)) z.symm
    have ht1 := hS1 _ hTm
    dsimp only at ht1
    have hws : ws.length ≤ 4 := by
      have h1 := w4.length
      have h2 := hits_len ko dn
      have h3 := congrArg List.length w2
      rw [List.length_append] at h3
      exact h1 ▸ Nat.le_trans h2 (by simp only [KL, List.length_cons, List.length_nil] at h3; omega)
    clear F4 N4 F1 N1 N3 F3 B' X' T' hT hI hne CT F9 N9
    refine drf_unp (fa := 633) (.tail _ (.tail _ hTm)) p loose mean mg mb (dp + 1) (un + 3) gd [envOf cn cs L a ccd] _ base g2 L' _ _ _ B5 F5 X5 N5 T5 (by omega) ⟨by omega, by passes_own, .inr RaisesTo.no, ⟨(fun xx9 h => nomatch h), fun h => nomatch h⟩⟩ ?_ (fun xx9 xx9 xx9 xx9 xx9 xx9 xx9 xx9 xx9 q => q.elim)
    rintro _ _ _ h7 tk7 F7 N7 ⟨rfl, rfl⟩
    refine wpAny_execs_cons ?_
    refine wpAny_Try_except ?_
    by_cases hko : ko = some K
    · subst hko
      have H := fun cd m h1 h2 h3 h4 h5 => drf_yes (prog := prog) (w := w) (fa := 633) (cd := cd) (e := e) (S1 := S1) (m := m) (tk := tk') (G0 := (I, o) :: G1) (ws := ws) hv (fun p hp => .tail _ (hGL p hp)) (fun G' hs => Tel.mono (C1 G' hs) (fun xx9 h => h) (fun v n q => q.2) fun n q => q.1 rfl) hkeep (fun p hp => (List.mem_cons.mp hp).elim (fun z => by rw [z]; exact hI1) fun z => hS1 p z) hws h1 h2 h3 h4 h5
      refine H _ _ (by exact rfl) (by exact rfl) (by exact rfl) (by exact rfl) (by exact rfl) p loose mean mg mb (dp + 1) (un + 3) gd [envOf cn cs L a ccd] _ base g2 L' _ _ _ B5 F7 X5 (News.has N7 (has_cons (.tail _ (.head _)) (has_cons (.head _) fun p hp => .tail _ (.tail _ hp)))) T5 (by omega) ⟨by omega, by passes_own, .inr RaisesTo.no, ⟨(fun xx9 h => nomatch h), fun h => nomatch h⟩⟩ ?_ (fun xx9 xx9 xx9 xx9 xx9 xx9 xx9 xx9 xx9 q => q.elim)
      rintro v9 m9 G9 h9 tk9 F9 N9 ⟨rfl, rfl, hs9⟩
      exact wpAny_execs_nil (wpAny_execs_nil (drf_end hoL T2 F9 (News.has N9 (has_cons (hs9 _ (.tail _ (.head _))) (has_cons (hs9 _ (.head _)) fun p hp => hs9 p (.tail _ (.tail _ hp))))) hIo hpl w2 w3 (hits_yes (tk := tk') rfl w4) rfl rfl rfl rfl))
    · have C2 : Tel prog w Fk [.ref rn, v] 30 150 ((I, o) :: (S1, listOf ws.toArray e) :: G1) (fun xx9 xx9 => False) (fun n => Has ((I, o) :: (S1, listOf ws.toArray e) :: G1) n) := Tel.mono (C1 _ (fun p hp => .tail _ (.tail _ (hGL p hp)))) (fun xx9 h => h) (fun xx9 xx9 q => hko q.1) fun xx9 q => q.2
      refine wpAny_execs_cons (wpAny_If (wpAny_isTrue_Compare1 (Attribute_any_ (Call_ (nameX_L (cl := []) F7 rfl (callWith_K X5 hkeep ?_ rfl rfl) (by kernel_rfl) (by kernel_rfl) (by decide +kernel)) rfl) (attr_he rfl)) rfl))
      refine args2 (φ := ⟨"_law_derefs", drS, 633, cd, [], Option.none, Option.none, false⟩) (dn := 199) (un' := 890) (Z := fun xx9 => False) (Q := fun vs mq Gq => vs = [.ref rn, v] ∧ mq = _ ∧ Gq = (I, o) :: (S1, listOf ws.toArray e) :: G1) ⟨rfl, by kernel_rfl⟩ rfl rfl (by kernel_rfl) (by kernel_rfl) (by decide +kernel) (by decide +kernel) ⟨rfl, rfl, rfl⟩ p loose mean mg mb (dp + 1) (un + 3) gd [envOf cn cs L a ccd] _ base g2 L' _ _ _ B5 F7 X5 N7 T5 (by omega) ⟨by omega, by passes_own, .inr RaisesTo.no, ⟨(fun xx9 h => nomatch h), fun h => nomatch h⟩⟩ (fun vs m1 G2 h8 t8 F8 N8 q => ?_) (fun xx9 xx9 xx9 xx9 xx9 xx9 xx9 xx9 xx9 q => q.elim)
      obtain ⟨rfl, rfl, rfl⟩ := q
      refine ⟨X5.keeps F8.keep, ?_⟩
      refine C2.use B5 F8 X5 N8 T5 (by kernel_rfl) (by omega) (by omega) (fun xx9 xx9 xx9 xx9 xx9 xx9 h => h.elim) fun e9 n9 g9 h9 tk9 F9 U9 R9 hx9 => ?_
      refine caught_dieS (A₀ := ktrTop dp un gd cn cs L a ccd [] []) (name := "_law_derefs") (scope := drS) (a := 633) (cd := cd) (RaisedSN.sub R9 hx9) F9 B5 U9 XB TB D5 T6 (fun h' g3 T3 F10 N10 B10 X10 Tp10 D10 => ?_) (by kernel_rfl) (by kernel_rfl) (hE2 _)
      exact wpAny_execs_cons (wpAny_Pass (wpAny_execs_nil (wpAny_execs_nil (drf_end hoL T3 F10 N10 hIo hpl w2 w3 (hits_no hko w4) rfl rfl rfl rfl))))
theorem derefs_p {prog : Program} {w : World} {rn tgt : Nat} {v : Value} {ko : Option Str} {GL : Led} (hv : DV GL v ko tgt) (CT : Tel prog w 600 [v] 150 700 GL (Tld ko GL) (fun xx9 => False)) (CD : ∀ K ∈ KL, Drs prog w rn K.2 v ko K.1 tgt GL) :
    TelL prog w 633 [.ref rn, v] 200 900 GL (fun r n => r = .bool true ∧ Has GL n) := by
  intro p loose mean mg mb dp un gd cn cs a ccd A₀ base h₀ L m s Q E B F X N T XB TB hk hd hu ret
  refine wpAny_call ?_
  k_dflt (refine' code_defS0 ?k1 ?k2 ?k3 ?k4 ?k5 ?kA ?k6 ?k7 ?k8 ?k9 ?kB ?_ ?cK ?c2 ?c3 ?c4 ?c5; (case kA => exact rfl); (case k2 => k_asm); (case k1 => k_asm); (case k3 => k_asm); (case k4 => k_asm); (case k5 => k_asm); (case k6 => k_is); (case k7 => k_is); (case k8 => ktr_room); (case k9 => exact BindsTo.of_eq rfl); (case kB => exact locs rfl); (case cK => assumption); (case c2 => exact rfl); (case c3 => exact rfl); (case c4 => exact rfl); (case c5 => decide))
  intro g' L' h' FG' F' N' B' X' T' D'
  obtain ⟨oL, hoL⟩ : ∃ oL, g'.get? L = some oL := by
    obtain ⟨oL, _, _, ho, _⟩ := D' L (.head _)
    exact ⟨oL, ho⟩
  refine drf_body (dp := dp) (un := un) hv CT CD hoL F' rfl rfl N' B' X' T' XB TB D' (by omega) (by omega) (by passes_own) (fun v => by passes_own) fun g2 m9 G9 h9 tk9 T2 F9 N9 hs9 => ?_
  k_steps
  all_goals exact ret _ _ _ _ (by assumption) (by assumption) ⟨rfl, hs9⟩
end
section
theorem drs_all {prog : Program} {w : World} {rn tgt : Nat} {v : Value} {ko : Option Str} {GL : Led}
    (C : ∀ (K : Str × Nat), K ∈ KL → ∀ tk G', Has GL G' → Tel prog w 378 [v, .str K.1 tk] 25 120 G' (fun r n => ko = some K.1 ∧ r = .ref tgt ∧ Has G' n) (fun n => ko ≠ some K.1 ∧ Has G' n)) :
    ∀ K ∈ KL, Drs prog w rn K.2 v ko K.1 tgt GL := by
  intro K hK G' h
  have D := fun tk => C K hK tk G' h
  simp only [KL, List.mem_cons, List.not_mem_nil, or_false] at hK
  rcases hK with rfl | rfl | rfl | rfl
  · exact dx_A D
  · exact dx_H D
  · exact dx_S D
  · exact dx_C D
theorem drs_none {prog : Program} {w : World} {tgt : Nat} {GL : Led} (K : Str × Nat) (_ : K ∈ KL) (tk : Tok) (G' : Led) (_ : Has GL G') : Tel prog w 378 [.none, .str K.1 tk] 25 120 G' (fun r n => (none : Option Str) = some K.1 ∧ r = .ref tgt ∧ Has G' n) (fun n => (none : Option Str) ≠ some K.1 ∧ Has G' n) :=
  Tel.mono deref_none (fun xx9 h => h) (fun xx9 xx9 q => q.elim) (fun n q => ⟨by simp, by rw [q]; exact fun xx9 h => h⟩)
theorem drs_int {prog : Program} {w : World} {tgt : Nat} {GL : Led} {i : Int} {t : Tok} (h0 : 0 ≤ i) (h1 : i < 1000) (K : Str × Nat) (_ : K ∈ KL) (tk : Tok) (G' : Led) (_ : Has GL G') : Tel prog w 378 [.int i t, .str K.1 tk] 25 120 G' (fun r n => (none : Option Str) = some K.1 ∧ r = .ref tgt ∧ Has G' n) (fun n => (none : Option Str) ≠ some K.1 ∧ Has G' n) :=
  Tel.mono (deref_int h0 h1) (fun xx9 h => h) (fun xx9 xx9 q => q.elim) (fun n q => ⟨by simp, by rw [q]; exact fun xx9 h => h⟩)
theorem drs_str {prog : Program} {w : World} {tgt : Nat} {GL : Led} {x : Str} {t : Tok} (h0 : x.length ≤ 10) (K : Str × Nat) (_ : K ∈ KL) (tk : Tok) (G' : Led) (_ : Has GL G') : Tel prog w 378 [.str x t, .str K.1 tk] 25 120 G' (fun r n => (none : Option Str) = some K.1 ∧ r = .ref tgt ∧ Has G' n) (fun n => (none : Option Str) ≠ some K.1 ∧ Has G' n) :=
  Tel.mono (deref_str h0) (fun xx9 h => h) (fun xx9 xx9 q => q.elim) (fun n q => ⟨by simp, by rw [q]; exact fun xx9 h => h⟩)
theorem drs_ref {prog : Program} {w : World} {GL : Led} {r dr a c da : Nat} {rd : RD} {od : Obj} {ko : Option Str} (hc : c = 66 ∨ c = 85 ∨ c = 104) (hk : ∀ K ∈ KL, ofKind K.1 c = (ko == some K.1))
    (h1 : (r, instObj 162 dr) ∈ GL) (h2 : (dr, refD rd a) ∈ GL) (h3 : (a, instObj c da) ∈ GL) (h4 : (da, od) ∈ GL) (K : Str × Nat) (hK : K ∈ KL) (tk : Tok) (G' : Led) (h : Has GL G') :
    Tel prog w 378 [.ref r, .str K.1 tk] 25 120 G' (fun v n => ko = some K.1 ∧ v = .ref a ∧ Has G' n) (fun n => ko ≠ some K.1 ∧ Has G' n) :=
  Tel.mono (deref_ref (rd := rd) (dr := dr) (da := da) (od := od) (rest := G') hc) (has_cons (h _ h1) (has_cons (h _ h2) (has_cons (h _ h3) (has_cons (h _ h4) fun xx9 h => h))))
    (fun v n q => ⟨by simpa using (hk K hK).symm.trans q.1, q.2.1, has_tail (has_tail (has_tail (has_tail q.2.2)))⟩)
    (fun n q => ⟨by simpa using (hk K hK).symm.trans q.1, has_tail (has_tail (has_tail (has_tail q.2)))⟩)
theorem Tel.wk {prog : Program} {w : World} {f : Addr} {args : List Value} {dn un1 dn' un' : Nat} {l : Led} {post : Value → Led → Prop} {exc : Led → Prop} (C : Tel prog w f args dn un1 l post exc) (h1 : dn ≤ dn') (h2 : un1 ≤ un') : Tel prog w f args dn' un' l post exc := by
  intro p loose mean mg mb dp un gd cn cs a9 ccd cl outer A₀ base h₀ L m s Q E B F X N T hk hd hu ret exc
  exact C.use B F X N T hk (by omega) (by omega) ret exc
theorem tld_leaf {GL new n : Led} {v : Value} {d : Dat} (hd : d = .none ∨ (∃ i, d = .int i) ∨ ∃ x, d = .str x) (h : Has (new ++ GL) n) (D : DatIn new v d) : Tld none GL v n := by
  refine ⟨fun p hp => h p (List.mem_append_right _ hp), .inl ⟨rfl, ?_⟩⟩
  rcases hd with rfl | ⟨i, rfl⟩ | ⟨x, rfl⟩ <;> cases D
  · exact .inl rfl
  · exact .inr (.inl ⟨_, _, rfl⟩)
  · exact .inr (.inr ⟨_, _, rfl⟩)
theorem tld_tup {GL new n : Led} {v : Value} {K : Str} {d2 : Dat} (h : Has (new ++ GL) n) (D : DatIn new v (.tuple [.str K, d2])) : Tld (some K) GL v n := by
  refine ⟨fun p hp => h p (List.mem_append_right _ hp), .inr ?_⟩
  cases D with
  | tuple hm hall =>
    cases hall with
    | cons h1 h2 =>
      cases h1
      cases h2 with
      | cons h3 h4 =>
        cases h4
        exact ⟨K, _, _, _, _, rfl, rfl, h _ (List.mem_append_left _ hm)⟩
end
section
theorem derefs_s {prog : Program} {w : World} {f : Fix} {S : PS} {R : Led} {σ : List Cont} {dl : Nat → Nat} {rn j : Nat} {n : PN} (G : PGood prog w f S R σ) (dp : Dp σ dl) (hz : ∀ (j : Nat) (ks : List (Str × Nat)), σ[j]? = some (.hash ks) → ks.length ≤ 1000) (hn : S.ps[j]? = some n) (hrt : ∀ k, 5 ≤ dl j + k → RT prog w 600 k n.b.val (dat σ k j) (S.led f R)) :
    TelL prog w 633 [.ref rn, n.b.val] 200 900 (S.led f R) (fun r n => r = .bool true ∧ Has (S.led f R) n) := by
  obtain ⟨hj, -⟩ := List.getElem?_eq_some_iff.mp hn
  have hc : σ[j]? = some (σ[j]'(by rw [← G.len]; exact hj)) := List.getElem?_eq_getElem _
  generalize σ[j]'(by rw [← G.len]; exact hj) = c0 at hc
  have hb := G.cm _ _ _ hn hc
  have bn : Has (PN.blk n) (S.led f R) := blk_has hn
  have R5 := hrt 5 (by omega)
  rw [dat_succ hc] at R5
  have R6 := Tel.wk (dn' := 150) (un' := 700) R5 (by omega) (by omega)
  obtain ⟨x1, dx, d, b⟩ := n
  dsimp only at *
  cases b <;> cases c0 <;> (try exact hb.elim)
  case none.none => exact derefs_p (tgt := 0) (.plain (.inl rfl)) (Tel.mono R6 (fun xx9 h => h) (fun v n q => let ⟨new, h1, _, h3⟩ := q; tld_leaf (.inl rfl) h1 h3) fun xx9 h => h) (drs_all drs_none)
  case int.int => exact derefs_p (tgt := 0) (.plain (.inr (.inl ⟨_, _, rfl⟩))) (Tel.mono R6 (fun xx9 h => h) (fun v n q => let ⟨new, h1, _, h3⟩ := q; tld_leaf (.inr (.inl ⟨_, rfl⟩)) h1 h3) fun xx9 h => h) (drs_all (drs_int hb.2.1 hb.2.2))
  case str.str => exact derefs_p (tgt := 0) (.plain (.inr (.inr ⟨_, _, rfl⟩))) (Tel.mono R6 (fun xx9 h => h) (fun v n q => let ⟨new, h1, _, h3⟩ := q; tld_leaf (.inr (.inr ⟨_, rfl⟩)) h1 h3) fun xx9 h => h) (drs_all (drs_str hb.2))
  case arr.arr => exact derefs_p (.arr (bn _ (.tail _ (.tail _ (.head _)))) (bn _ (.tail _ (.tail _ (.tail _ (.head _))))) (bn _ (.tail _ (.tail _ (.tail _ (.tail _ (.head _)))))) (bn _ (.tail _ (.tail _ (.tail _ (.tail _ (.tail _ (.head _)))))))) (Tel.mono R6 (fun xx9 h => h) (fun v n q => let ⟨new, h1, _, h3⟩ := q; tld_tup h1 h3) fun xx9 h => h) (drs_all (drs_ref (.inr (.inl rfl)) (by decide) (bn _ (.tail _ (.tail _ (.head _)))) (bn _ (.tail _ (.tail _ (.tail _ (.head _))))) (bn _ (.tail _ (.tail _ (.tail _ (.tail _ (.head _)))))) (bn _ (.tail _ (.tail _ (.tail _ (.tail _ (.tail _ (.head _)))))))))
  case hash.hash => exact derefs_p (.hash (bn _ (.tail _ (.tail _ (.head _)))) (bn _ (.tail _ (.tail _ (.tail _ (.head _))))) (bn _ (.tail _ (.tail _ (.tail _ (.tail _ (.head _)))))) (bn _ (.tail _ (.tail _ (.tail _ (.tail _ (.tail _ (.head _)))))))) (Tel.mono R6 (fun xx9 h => h) (fun v n q => let ⟨new, h1, _, h3⟩ := q; tld_tup h1 h3) fun xx9 h => h) (drs_all (drs_ref (.inr (.inr rfl)) (by decide) (bn _ (.tail _ (.tail _ (.head _)))) (bn _ (.tail _ (.tail _ (.tail _ (.head _))))) (bn _ (.tail _ (.tail _ (.tail _ (.tail _ (.head _)))))) (bn _ (.tail _ (.tail _ (.tail _ (.tail _ (.tail _ (.head _)))))))))
  case sc.sc =>
    obtain ⟨n2, hn2, rfl⟩ := Option.map_eq_some_iff.mp hb
    have b2 : Has (PN.blk n2) (S.led f R) := blk_has hn2
    exact derefs_p (.sc (bn _ (.tail _ (.tail _ (.head _)))) (bn _ (.tail _ (.tail _ (.tail _ (.head _))))) (b2 _ (.head _)) (b2 _ (.tail _ (.head _)))) (Tel.mono R6 (fun xx9 h => h) (fun v n q => let ⟨new, h1, _, h3⟩ := q; tld_tup h1 h3) fun xx9 h => h)
      (drs_all (drs_ref (.inl rfl) (by decide) (bn _ (.tail _ (.tail _ (.head _)))) (bn _ (.tail _ (.tail _ (.tail _ (.head _))))) (b2 _ (.head _)) (b2 _ (.tail _ (.head _)))))
end
section
theorem limits_init8 {prog : Program} {w : World} {x dx : Nat} {v : Value} {G : Led} (hx : x ≠ dx) (ha : Above dx G) :
    TelC prog w 587 ⟨[.ref x], [("items", v)]⟩ 5 20 ((x, instObj 590 dx) :: (dx, dictOf [] 0) :: G) (fun r n => r = .none ∧ ∃ es, getL "items" es = some (some v) ∧ n = (x, instObj 590 dx) :: (dx, dictOf es 5) :: G) (fun xx9 => False) := by
  k_dflt (refine' TelC.ofM (dn := 4) (un' := 17) ?k6 ?k7 ?k9 ?kB ?c2 ?c3 ?c4 ?c5 ?_; (case k6 => k_is); (case k7 => k_is); (case k9 => exact fun s X => binds_K X rfl (by k_is) rfl rfl rfl); (case kB => exact locs rfl); (case c5 => decide); (case c2 => exact rfl); (case c3 => exact rfl); (case c4 => exact rfl))
  intro Q Z _ q1 _ Γ
  refine M.setNew hx ha.ne (sa590 (by simp)) rfl (Nat.le_of_ble_eq_true rfl) fun h1 t1 => ?_
  refine M.setNew hx ha.ne (sa590 (by simp)) rfl (Nat.le_of_ble_eq_true rfl) fun h2 t2 => ?_
  refine M.setNew hx ha.ne (sa590 (by simp)) rfl (Nat.le_of_ble_eq_true rfl) fun h3 t3 => ?_
  refine M.setNew hx ha.ne (sa590 (by simp)) rfl (Nat.le_of_ble_eq_true rfl) fun h4 t4 => ?_
  refine M.setNew hx ha.ne (sa590 (by simp)) rfl (Nat.le_of_ble_eq_true rfl) fun h5 t5 => ?_
  exact q1 _ _ ⟨rfl, _, rfl, rfl⟩
theorem limits_init {prog : Program} {w : World} {x dx : Nat} {G : Led} (hx : x ≠ dx) (ha : Above dx G) :
    TelC prog w 587 ⟨[.ref x], []⟩ 5 20 ((x, instObj 590 dx) :: (dx, dictOf [] 0) :: G) (fun r n => r = .none ∧ ∃ es, n = (x, instObj 590 dx) :: (dx, dictOf es 5) :: G) (fun xx9 => False) := by
  k_dflt (refine' TelC.ofM (dn := 4) (un' := 17) ?k6 ?k7 ?k9 ?kB ?c2 ?c3 ?c4 ?c5 ?_; (case k6 => k_is); (case k7 => k_is); (case k9 => exact fun s X => binds_K X rfl (by k_is) rfl rfl rfl); (case kB => exact locs rfl); (case c5 => decide); (case c2 => exact rfl); (case c3 => exact rfl); (case c4 => exact rfl))
  intro Q Z _ q1 _ Γ
  refine M.setNew hx ha.ne (sa590 (by simp)) rfl (Nat.le_of_ble_eq_true rfl) fun h1 t1 => ?_
  refine M.setNew hx ha.ne (sa590 (by simp)) rfl (Nat.le_of_ble_eq_true rfl) fun h2 t2 => ?_
  refine M.setNew hx ha.ne (sa590 (by simp)) rfl (Nat.le_of_ble_eq_true rfl) fun h3 t3 => ?_
  refine M.setNew hx ha.ne (sa590 (by simp)) rfl (Nat.le_of_ble_eq_true rfl) fun h4 t4 => ?_
  refine M.setNew hx ha.ne (sa590 (by simp)) rfl (Nat.le_of_ble_eq_true rfl) fun h5 t5 => ?_
  exact q1 _ _ ⟨rfl, _, rfl⟩
end
section
theorem Lw.ofM {prog : Program} {w : World} {st : List Stmt} {m : Str → Option Value} {G : Led} {post : (Str → Option Value) → Led → Prop} {l : List (Str × Value)} (hk : lawS.kind = .function) (hl : look ⟨l, m⟩ = m)
    (h : ∀ a ccd (Q : Flow → (Str → Option Value) → Led → Prop), (∀ m' G' G2, Has G2 G' → post m' G2 → Q .next m' G') → let Γ : Cx := ⟨prog, w, ⟨lawQ, lawS, a, ccd, [], Option.none, Option.none, true⟩, 298, 1490, Q, fun xx9 => False, hk⟩; Cx.W Γ (.st st) [] ⟨l, m⟩ G) : Lw prog w st m G post := by
  unfold Lw
  intro p loose mean mg mb dp un gd a ccd h₀ L s Q E B F X N T hd hu hE ret
  have h := h a ccd (fun f m' G' => f = .next ∧ ∃ G2, Has G2 G' ∧ post m' G2) fun m' G' G2 hs q => ⟨rfl, G2, hs, q⟩
  unfold Cx.W at h
  rw [hl] at h
  refine h p loose mean mg mb (dp + 1) (un + 3) gd [] (kA dp un gd) h₀ h₀ L s Q E B F X N T (by dsimp only; omega) ⟨by dsimp only; omega, hE.1, .inl rfl, ⟨(fun xx9 h => nomatch h), fun xx9 => ⟨rfl, rfl⟩⟩⟩ ?_ ?_
  · rintro v m' G' h' tk' F' N' ⟨rfl, G2, hs, q⟩
    exact ret _ _ _ _ F' (News.has N' hs) q
  · exact fun xx9 xx9 xx9 xx9 xx9 xx9 xx9 xx9 xx9 q => q.elim
namespace M
variable {Γ : Cx} {K : List Fm} {ml : Ml} {G : Led}
theorem newKw {x a : Str} {p pos cp : Pos} {i : Int} {k : Nat} {C fI : Addr} {dn1 un1 : Nat} {kw : Keyword} {post : Tok → Nat → Nat → Led → Prop} (ekw : kw = ⟨some a, .Constant (.int i) k cp, kw.3⟩) (hv : gtab.lookup x = some (.ref C)) (hk : (Γ.φ.env 0).kindOf x = some .globalImplicit) (hdb : (x == ("__debug__" : Str)) = false) (hm : makesIn (hp0.heap_1_39 Γ.w.params) C = true) (hi : findIn (hp0.heap_1_39 Γ.w.params) (.ref C) "__init__" = some (some (.ref fI))) (hf : isFn (hp0.heap_1_39 Γ.w.params) (.ref fI) = true) (h1 : dn1 + 2 ≤ Γ.dn) (h2 : un1 + 8 ≤ Γ.un)
    (c : ∀ tk x dx, Above dx G → @LT.lt Nat _ dx x → TelC Γ.prog Γ.w fI ⟨[.ref x], [(a, .int i tk)]⟩ dn1 un1 ((x, instObj C dx) :: (dx, dictOf [] 0) :: G) (fun r G' => r = .none ∧ post tk x dx G') (fun xx9 => False))
    (h : ∀ tk x dx G', Above dx G → @LT.lt Nat _ dx x → post tk x dx G' → Γ.N 90 (.sg (.v (.ref x))) K ml G') (ht : Γ.φ.tr = Option.none := by rfl) : Γ.W (.ev (.Call (.Name x p) [] [kw] pos)) K ml G := by
  rw [ekw]
  have gt := (gtab_ok Γ.w).at hv
  intro p' loose mean mg mb dp un gd outer A₀ base h₀ L s Q' E' B F X N T hd' hu ret exc
  show wpAny _ _ (do callWith pos (← eval (.Name x p) (Γ.φ.env L)) [] (backTo pos (starEach [] (Γ.φ.env L))) (backToKw pos (keywordEach [⟨some a, .Constant (.int i) k cp, _⟩] (Γ.φ.env L)))) _ _ _
  rw [(Cx.ok ht).e]
  refine wpAny_bind (nameX_K (cl := Γ.φ.cl) F X (topRead_of T) gt.1 ?_ Γ.hk ((Cx.ok ht).k L hk) hdb)
  refine callWith_KW0 X gt.2 rfl ?_ rfl
  refine kwAll_cons (wpAny_Constant_int (kwAll_nil ⟨X.keeps F.keep, ?_⟩))
  have hu := hu.1
  refine call_cls F X N hm hi hf fun x dx h' F' N' a1 a2 => ?_
  have C1 := c s.toks x dx a1 a2
  unfold TelC at C1
  refine C1 p' loose mean mg mb _ _ _ Γ.φ.q Γ.φ.sc Γ.φ.fa Γ.φ.cd Γ.φ.cl outer A₀ base h₀ L (look ml) { s with heap := h', toks := s.toks + 1 } _ B F' X N' T Γ.hk ?_ ?_ ?_ ?_
  · have e : (Code.builtin "type.__call__" { pos := [Value.ref C], kw := [(a, .int i s.toks)] }).weight = 1 := by rfl
    show dp + (Code.builtin "type.__call__" { pos := [Value.ref C], kw := [(a, .int i s.toks)] }).weight + dn1 < recursionLimit
    rw [e]; omega
  · have e : (Code.builtin "type.__call__" { pos := [Value.ref C], kw := [(a, .int i s.toks)] }).cUnits ≤ 8 := by show (Code.builtin "type.__call__" { pos := [] }).cUnits ≤ 8; decide +kernel
    show un + (Code.builtin "type.__call__" { pos := [Value.ref C], kw := [(a, .int i s.toks)] }).cUnits + un1 < cLine
    omega
  · rintro r G' h2 t2 F2 N2 ⟨rfl, q⟩
    exact ⟨rfl, ret _ _ _ _ _ F2 N2 (Cx.N_ok (h _ x dx G' a1 a2 q))⟩
  · exact fun xx9 xx9 xx9 xx9 xx9 xx9 xx9 xx9 q => q.elim
end M
end
section
namespace M
variable {Γ : Cx} {K : List Fm} {ml : Ml} {G : Led}
theorem absI {a : Int} {t : Tok} (h : ∀ tk, Γ.N 90 (.sg (.v (.int (if a < 0 then -a else a) tk))) K ml G) : Γ.W (.cl (.cal (.builtin "abs")) [.int a t]) K ml G := by
  intro p loose mean mg mb dp un gd outer A₀ base h₀ L s Q' E' B F X N T hd hu ret exc
  dsimp only [Tgt.sem]
  k_steps
  all_goals exact ret _ _ _ _ _ F N (Cx.N_ok (h _))
theorem pow12 {t u : Tok} (h : ∀ tk, Γ.N 90 (.sg (.v (.int (10 ^ Int.toNat 12) tk))) K ml G) : Γ.W (.bo .Pow (.int 10 t) (.int 12 u)) K ml G := by
  intro p loose mean mg mb dp un gd outer A₀ base h₀ L s Q' E' B F X N T hd hu ret exc
  k_steps
  all_goals exact ret _ _ _ _ _ F N (Cx.N_ok (h _))
theorem fdiv2 {a : Int} {t u : Tok} (h : ∀ tk, Γ.N 90 (.sg (.v (.int (a.fdiv 2) tk))) K ml G) : Γ.W (.bo .FloorDiv (.int a t) (.int 2 u)) K ml G := by
  intro p loose mean mg mb dp un gd outer A₀ base h₀ L s Q' E' B F X N T hd hu ret exc
  k_steps
  all_goals exact ret _ _ _ _ _ F N (Cx.N_ok (h _))
theorem swap2 {e1 e2 : PySem.Expr} {x y : Str} {px py tp tp2 pos : Pos} {k k2 : Nat} {rest : List Stmt} (kx : (Γ.φ.env 0).kindOf x = some .local) (ky : (Γ.φ.env 0).kindOf y = some .local)
    (hs : ∀ L, swapsWithSole [.Tuple [.Name x px, .Name y py] k tp] (.Tuple [e1, e2] k2 tp2) pos.line (Γ.φ.env L) = pure false) (hw : ∀ L, swappedStores [.Tuple [.Name x px, .Name y py] k tp] (.Tuple [e1, e2] k2 tp2) (Γ.φ.env L) = pure (some [x, y]))
    (h : Γ.N 90 (.ev (.Tuple [e1, e2] k2 tp2)) (.sw x y rest :: K) ml G) (ht : Γ.φ.tr = Option.none := by rfl) : Γ.W (.st (.Assign [.Tuple [.Name x px, .Name y py] k tp] (.Tuple [e1, e2] k2 tp2) pos :: rest)) K ml G := by
  have h := Cx.N_ok h
  refine R.cons ?_
  unfold Cx.W at h
  intro p loose mean mg mb dp un gd outer A₀ base h₀ L s Q' E' B F X N T hd hu ret exc
  refine Assign_Tuple_swapped (h p loose mean mg mb dp un gd outer A₀ base h₀ L s _ E' B F X N T hd hu (fun v m1 G1 h1 t1 F1 N1 q => ?_) exc) (hs L) (hw L)
  obtain ⟨T2, n, a, b, rfl, hT, q⟩ := q
  refine unpackItemsN_ F1 N1 (News.isTup N1 hT) rfl rfl fun h2 F2 N2 => ?_
  rw [(Cx.ok ht).e]
  refine assignInOrder_cons (wpAny_bindName (storeX_L (cl := Γ.φ.cl) (L := L) F2 N2 (fun h3 F3 N3 => ?_) Γ.hk ((Cx.ok ht).k L ky)))
  refine assignInOrder_cons (wpAny_bindName (storeX_L (cl := Γ.φ.cl) (L := L) F3 N3 (fun h4 F4 N4 => ?_) Γ.hk ((Cx.ok ht).k L kx)))
  exact assignInOrder_nil (ret .next _ G1 h4 _ F4 N4 q)
theorem swapped {x y : Str} {T n : Nat} {a b : Value} {rest : List Stmt} (hT : (T, ({ cls := .type "tuple", data := .seq #[a, b] n } : Obj)) ∈ G) (h : Γ.N 90 (.st rest) K ((ml.add y b).add x a) G) : Γ.W (.sg (.v (.ref T))) (.sw x y rest :: K) ml G := by
  have h := Cx.N_ok h
  unfold Cx.W at h
  rw [look_add, look_add] at h
  exact ⟨T, n, a, b, rfl, hT, h⟩
end M
end
section
section
variable {prog : Program} {w : World} {A : Around} {E : Value → Shared → Prop} {s : Shared} {env : Env} {h₀ : Heap} {x : Str} {body : List Stmt} {Q : Flow → Shared → Prop}
theorem UnrEnd.mono {L : Addr} {I : Addr} {it : Obj} {r r' : (Str → Option Value) → Led → Prop} {s₁ s₂ : Shared} (h : UnrEnd h₀ L s₁ I it r s₂) (f : ∀ m n, r m n → r' m n) : UnrEnd h₀ L s₁ I it r' s₂ := by
  obtain ⟨h', tk, m', news', e, F, N, o, q⟩ := h
  exact ⟨h', tk, m', news', e, F, N, o, f _ _ q⟩
theorem krs_ind {I : Addr} {a c : Int} {n : Nat} (inv : Nat → (Str → Option Value) → Led → Prop)
    (h0 : ∀ m news, inv n m news → ∀ h tk, Fr h₀ env.locals h m → News h₀ env.locals h news → Q .next { s with heap := h, toks := tk })
    (hc : ∀ i m news, i < n → inv i m news → ∀ t h tk, Fr h₀ env.locals h (fun y => if y = x then some (.int (a + (i : Int) * c) t) else m y) → News h₀ env.locals h ((I, krsIt (a + ((i + 1 : Nat) : Int) * c) ((n : Int) - ((i + 1 : Nat) : Int)) c) :: news) →
      wpAny (model prog w) A (execs body env) (UnrPost h₀ env.locals { s with heap := h, toks := tk } I (krsIt (a + ((i + 1 : Nat) : Int) * c) ((n : Int) - ((i + 1 : Nat) : Int)) c) (inv (i + 1)) Q) E { s with heap := h, toks := tk }) :
    ∀ k i m news, i + k = n → inv i m news → KrsRest prog w A E h₀ env x body Q s I a c n k i m news
  | 0, i, m, news, e, hi => KrsRest.zero (h0 m news (by rw [Nat.add_zero] at e; exact e ▸ hi))
  | k + 1, i, m, news, e, hi => KrsRest.succ rfl fun t h tk F N => by
    refine wpAny_mono (hc i m news (by omega) hi t h tk F N) (fun fl s₃ p => ?_) fun xx9 xx9 e => e
    cases fl with
    | ret v => exact p
    | brk => exact p
    | next => exact UnrEnd.mono p fun m n q => krs_ind inv h0 hc k (i + 1) m n (by omega) q
    | cont => exact UnrEnd.mono p fun m n q => krs_ind inv h0 hc k (i + 1) m n (by omega) q
end
end
section
namespace M
variable {Γ : Cx} {K : List Fm} {ml : Ml} {G : Led}
theorem callT {T : String} {pos : Pos} {e : PySem.Expr} {m : Str → Option Value} {Q : Value → (Str → Option Value) → Led → Prop} (h : Wt Γ.prog Γ.w Γ.φ Γ.dn Γ.un (fun env => spliced (backTo pos (starEach [e] env))) m G (fun vs m1 G1 => R.Wv Γ.prog Γ.w Γ.φ Γ.dn Γ.un (PySem.call (.type T) vs) m1 G1 Q Γ.Z) Γ.Z) (he : ∀ L, starEach [e] (Γ.φ.env L) = (false, eval e (Γ.φ.env L)) :: starEach [] (Γ.φ.env L)) : Wt Γ.prog Γ.w Γ.φ Γ.dn Γ.un (fun env => callWith pos (.type T) [] (backTo pos (starEach [e] env)) []) m G Q Γ.Z := by
  intro p loose mean mg mb dp un gd outer A₀ base h₀ L s Q' E' B F X N T hd hu ret exc
  have k := h p loose mean mg mb dp un gd outer A₀ base h₀ L s (fun vs s1 => wpAny (model Γ.prog Γ.w) _ (PySem.call (.type _) vs) Q' E' s1) E' B F X N T hd hu (fun vs m1 G1 h1 t1 F1 N1 q => q p loose mean mg mb dp un gd outer A₀ base h₀ L { s with heap := h1, toks := t1 } _ E' B F1 X N1 T hd hu ret exc) exc
  dsimp only at k ⊢
  exact callWith_type1 k (he L)
theorem range {k : Int} {t : Tok} {m : Str → Option Value} {Q : Value → (Str → Option Value) → Led → Prop} (h : ∀ r t1 t2 t3, Q (.ref r) m ((r, ({ cls := .type "range", data := .fields #[.int 0 t1, .int k t2, .int 1 t3] } : Obj)) :: G)) : R.Wv Γ.prog Γ.w Γ.φ Γ.dn Γ.un (PySem.call (.type "range") [.int k t]) m G Q Γ.Z := by
  intro p loose mean mg mb dp un gd outer A₀ base h₀ L s Q' E' B F X N T hd hu ret exc
  exact call_range_1 (ret _ m _ _ _ (F.push _) (News.push F N _) (h _ _ _ _))
theorem forRange {x : Str} {px pf cp pos : Pos} {e : PySem.Expr} {body rest : List Stmt} {k : Nat} (hk : (Γ.φ.env 0).kindOf x = some .local) (kr : (Γ.φ.env 0).kindOf "range" = some .globalImplicit) (hn : noStar [e] = true) (hz : k ≤ 1000)
    (he : ∀ Q2 : Flow → (Str → Option Value) → Led → Prop, (∀ t, Q2 (.ret (.int (k : Int) t)) (look ml) G) → Cx.N (Γ.wQ Q2) 90 (.ev e) [.ret] ml G)
    (inv : Nat → Nat → (Str → Option Value) → Led → Prop) (h0 : ∀ I, Above I G → inv I 0 (look ml) G)
    (turn : ∀ I i m1 G1, i < k → inv I i m1 G1 → ∃ l, look ⟨l, m1⟩ = m1 ∧ ∀ o v (Q2 : Flow → (Str → Option Value) → Led → Prop), (∀ u m3 G3, Γ.run K (.f (.ret u)) m3 G3 → Q2 (.ret u) m3 G3) → (∀ m3 G3, (∃ G4, Has ((I, o) :: G4) G3 ∧ (∀ p ∈ G4, p.1 ≠ I) ∧ inv I (i + 1) m3 G4) → Q2 .next m3 G3) → Cx.N (Γ.wQ Q2) 90 (.st body) [] ⟨(x, v) :: l, m1⟩ ((I, o) :: G1))
    (done : ∀ I m1 G1, inv I k m1 G1 → ∃ l, look ⟨l, m1⟩ = m1 ∧ Γ.N 90 (.st rest) K ⟨l, m1⟩ G1) (ht : Γ.φ.tr = Option.none := by rfl) : Γ.W (.st (.For (.Name x px) (.Call (.Name "range" pf) [e] [] cp) body [] pos :: rest)) K ml G := by
  obtain ⟨prog, w, ⟨q9, sc9, fa9, cd9, cl9, fix9, tr9, tp9⟩, dn9, un9, Q9, Z9, hk9⟩ := Γ
  obtain rfl : tr9 = Option.none := ht
  have E : ∀ Q : Value → (Str → Option Value) → Led → Prop, (∀ r t1 t2 t3, Q (.ref r) (look ml) ((r, ({ cls := .type "range", data := .fields #[.int 0 t1, .int (k : Int) t2, .int 1 t3] } : Obj)) :: G)) → R.We prog w ⟨q9, sc9, fa9, cd9, cl9, fix9, Option.none, tp9⟩ dn9 un9 (.Call (.Name "range" pf) [e] [] cp) (look ml) G Q Z9 := fun Q h => by
    refine R.call (R.nameB (v := .type "range") (by k_is) (by decide +kernel) (by decide +kernel) kr ⟨rfl, hk9⟩ (by decide +kernel) (callT (Γ := ⟨prog, w, ⟨q9, sc9, fa9, cd9, cl9, fix9, Option.none, tp9⟩, dn9, un9, Q9, Z9, hk9⟩) (T := "range") (R.acons ?_ fun L => star_he hn) fun L => star_he hn)) fun xx9 => rfl
    have H := Cx.N_ok (he (fun fl m1 G1 => match fl with | .ret v => m1 = look ml ∧ G1 = G ∧ ∃ t, v = .int (k : Int) t | _ => False) fun t => ⟨rfl, rfl, t, rfl⟩)
    refine Wt.mono (show Cx.T ⟨prog, w, ⟨q9, sc9, fa9, cd9, cl9, fix9, Option.none, tp9⟩, dn9, un9, Q9, Z9, hk9⟩ (eval e) (look ml) G (fun v m1 G1 => m1 = look ml ∧ G1 = G ∧ ∃ t, v = .int (k : Int) t) from H) (fun v m1 G1 q => ?_) fun xx9 => id
    obtain ⟨rfl, rfl, t, rfl⟩ := q
    exact R.anil (range (Γ := ⟨prog, w, ⟨q9, sc9, fa9, cd9, cl9, fix9, Option.none, tp9⟩, dn9, un9, Q9, Z9, hk9⟩) h)
  refine R.cons ?_
  intro p loose mean mg mb dp un gd outer A₀ base h₀ L s Q' E' B F X N T hd hu ret exc
  refine For_invVF (env := envX q9 sc9 L fa9 cd9 cl9) F hk (by show (sc9.kind == _ || (sc9.kind == _ && _)) = false; rw [show sc9.kind = _ from hk9]; rfl) ?_ (hE := hu.2.1)
  have E2 := E (fun v m1 G1 => m1 = look ml ∧ ∃ r t1 t2 t3, v = .ref r ∧ G1 = (r, ({ cls := .type "range", data := .fields #[.int 0 t1, .int (k : Int) t2, .int 1 t3] } : Obj)) :: G) fun r t1 t2 t3 => ⟨rfl, r, t1, t2, t3, rfl, rfl⟩
  refine E2 p loose mean mg mb dp un gd outer A₀ base h₀ L s _ E' B F X N T hd hu (fun v m1 G1 h1 t1 F1 N1 q => ?_) exc
  obtain ⟨rfl, r, t1, t2, t3, rfl, rfl⟩ := q
  refine krs_iter (env := envX q9 sc9 L fa9 cd9 cl9) (n := k) rfl (N1 _ (.head _)).1 (small_one (by omega) (by omega) (by omega) (by omega)) (by unfold Builtin.Range.rangeSize; rw [if_pos (by decide)]; split <;> omega) F1 (News.has N1 fun p hp => .tail _ hp) fun I l1 => ?_
  refine krs_ind (inv := fun i m1 G1 => inv I i m1 G1) ?_ ?_ _ 0 _ _ (Nat.zero_add _) (h0 I l1)
  · intro m1 G1 hi h tk F1 N1
    obtain ⟨l, hl, hr⟩ := done I m1 G1 hi
    have hr := Cx.N_ok hr
    unfold Cx.W at hr
    rw [hl] at hr
    exact ret .next m1 G1 h tk F1 N1 hr
  · intro i m1 G1 hi hv t h tk F1 N1
    obtain ⟨l, hl, hb⟩ := turn I i m1 G1 hi hv
    have hb := Cx.N_ok (hb (krsIt (0 + ((i + 1 : Nat) : Int) * 1) ((k : Int) - ((i + 1 : Nat) : Int)) 1) (.int (0 + (i : Int) * 1) t) (fun fl m3 G3 => match fl with | .ret u => Cx.run ⟨prog, w, ⟨q9, sc9, fa9, cd9, cl9, fix9, Option.none, tp9⟩, dn9, un9, Q9, Z9, hk9⟩ K (.f (.ret u)) m3 G3 | .brk => False | _ => ∃ G4, Has ((I, krsIt (0 + ((i + 1 : Nat) : Int) * 1) ((k : Int) - ((i + 1 : Nat) : Int)) 1) :: G4) G3 ∧ (∀ p ∈ G4, p.1 ≠ I) ∧ inv I (i + 1) m3 G4) (fun xx9 xx9 xx9 q => q) fun xx9 xx9 q => q)
    have e : look ⟨(x, .int (0 + (i : Int) * 1) t) :: l, m1⟩ = upd m1 x (.int (0 + (i : Int) * 1) t) := by
      rw [show (⟨(x, .int (0 + (i : Int) * 1) t) :: l, m1⟩ : Ml) = Ml.add ⟨l, m1⟩ x (.int (0 + (i : Int) * 1) t) from rfl, look_add, hl]
    unfold Cx.W at hb
    rw [e] at hb
    refine hb p loose mean mg mb dp un gd outer A₀ base h₀ L _ _ E' B F1 X N1 T hd hu (fun fl m3 G3 h3 t3 F3 N3 q => ?_) exc
    cases fl with
    | ret u => exact ret (.ret u) m3 G3 h3 t3 F3 N3 q
    | brk => exact q.elim
    | next =>
      obtain ⟨G4, hs4, off, hv⟩ := q
      exact ⟨h3, t3, m3, G4, rfl, F3, News.has N3 hs4, off, hv⟩
    | cont =>
      obtain ⟨G4, hs4, off, hv⟩ := q
      exact ⟨h3, t3, m3, G4, rfl, F3, News.has N3 hs4, off, hv⟩
theorem fdiv {a b : Int} {t u : Tok} (hb : b ≠ 0) (hp : Builtin.divisionGoesByPylong a b = false) (h : ∀ tk, Γ.N 90 (.sg (.v (.int (a.fdiv b) tk))) K ml G) : Γ.W (.bo .FloorDiv (.int a t) (.int b u)) K ml G := leaft (f := .int (a.fdiv b)) rfl (fun h => PyProof.Rows.floordiv_int hb h (.inl hp)) h
theorem keyOf {ex sl : PySem.Expr} {k : Int} {u : Tok} (h0 : 0 ≤ k) (h1 : k < 4) (hs : ∀ k, subscripted sl false (.ref 595) (.int k u) = operate [.ref 595, .int k u] (getItem (.ref 595) (.int k u))) (h : ∀ q t, PyData.strOk q = true → Γ.N 90 (.sg (.v (.str q t))) K ml G) : Γ.W (.gi ex sl (.ref 595) (.int k u)) K ml G := by
  obtain ⟨j, rfl⟩ := Int.eq_ofNat_of_zero_le h0
  obtain ⟨q, t, hi, hx, ok⟩ : ∃ q t, seqIndex? (j : Int) 4 = some j ∧ [Value.str (Str.ofString "a") 1022, Value.str (Str.ofString "") 1023, Value.str (Str.ofString "b") 1024, Value.str (Str.ofString "0") 1025][j]? = some (Value.str q t) ∧ PyData.strOk q = true :=
    match j, Int.ofNat_lt.mp h1 with
    | 0, _ => ⟨_, _, rfl, rfl, by decide +kernel⟩
    | 1, _ => ⟨_, _, rfl, rfl, by decide +kernel⟩
    | 2, _ => ⟨_, _, rfl, rfl, by decide +kernel⟩
    | 3, _ => ⟨_, _, rfl, rfl, by decide +kernel⟩
    | j + 4, h => absurd h (Nat.not_lt.mpr (Nat.le_add_left 4 j))
  refine leafN rfl (.str q t) (fun F X N q => ?_) (h q t ok)
  exact item_tupleT (l := [Value.str (Str.ofString "a") 1022, Value.str (Str.ofString "") 1023, Value.str (Str.ofString "b") 1024, Value.str (Str.ofString "0") 1025]) (j := j) ⟨_, X.keeps F.keep 595 _ (by with_unfolding_all rfl), rfl, 0, rfl⟩ (by omega) (by omega) hi hx (q _) (hs _)
end M
end
section
theorem StepR.mono {R R' : Led} (h : Has R R') (v : Value) (s : Stp) (q : StepR R v s) : StepR R' v s := by
  obtain ⟨T, n, tk, u, e, m, a⟩ := q
  exact ⟨T, n, tk, u, e, h _ m, a⟩
noncomputable abbrev SokP (path : List Stp) : Prop := ∀ k, Stp.H k ∈ path → PyData.strOk k = true
structure QInv (GL : Led) (I : Addr) (i : Nat) (m : Str → Option Value) (news : Led) (pl e : Nat) (vs : List Value) (path : List Stp) (new : Led) (n : Int) (tn : Tok) : Prop where
  led : news = (pl, listOf vs.toArray e) :: (new ++ GL)
  items : All2 (StepR new) vs path
  len : path.length = i
  ab : Above pl GL
  abn : ∀ q ∈ new, Above q.1 GL
  uq : Uq ((pl, listOf vs.toArray e) :: new)
  sok : SokP path
  hp : m "path" = some (.ref pl)
  hn : m "n" = some (.int n tn)
  n0 : 0 ≤ n
  n1 : n < 1000000000000
  off : ∀ p ∈ news, p.1 ≠ I
theorem QInv.next {GL : Led} {I : Addr} {i : Nat} {m m' : Str → Option Value} {pl e D : Nat} {vs : List Value} {path : List Stp} {new : Led} {n n' : Int} {tn tn' tk : Tok} {u : Value} {stp : Stp} (W : QInv GL I i m ((pl, listOf vs.toArray e) :: (new ++ GL)) pl e vs path new n tn)
    (lt : Above D (new ++ GL)) (l2 : pl < D) (l3 : @LT.lt Nat _ I D) (ha : stp.arg u) (hk : ∀ k, stp = .H k → PyData.strOk k = true) (hp : m' "path" = some (.ref pl)) (hn : m' "n" = some (.int n' tn')) (h0 : 0 ≤ n') (h1 : n' < 1000000000000) :
    QInv GL I (i + 1) m' ((pl, listOf (vs ++ [Value.ref D]).toArray (e + 1)) :: ((((D, tupO #[.str stp.kd.str tk, u] 0) : Addr × Obj) :: new) ++ GL)) pl (e + 1) (vs ++ [Value.ref D]) (path ++ [stp]) ((D, tupO #[.str stp.kd.str tk, u] 0) :: new) n' tn' := by
  obtain ⟨-, a1, a2, a3, a4, a5, a6, -, -, -, -, a9⟩ := W
  refine ⟨rfl, (a1.mono (StepR.mono fun p hp => .tail _ hp)).append (.cons ⟨D, 0, tk, u, rfl, .head _, ha⟩ .nil), by simp [a2], a3, ?_, ?_, ?_, hp, hn, h0, h1, ?_⟩
  · intro q hq
    rcases List.mem_cons.mp hq with rfl | hq
    · exact fun p hp => lt p (List.mem_append_right _ hp)
    · exact a4 q hq
  · have h := (a5.addr (l' := (pl, listOf (vs ++ [Value.ref D]).toArray (e + 1)) :: new) rfl).push (d := D) (o := tupO #[.str stp.kd.str tk, u] 0) (above_cons l2 fun p hp => lt p (List.mem_append_left _ hp))
    exact h.perm (.swap _ _ _)
  · intro k hm
    rcases List.mem_append.mp hm with h | h
    · exact a6 k h
    · exact hk k (List.mem_singleton.mp h).symm
  · intro p hp
    rcases List.mem_cons.mp hp with rfl | hp
    · exact a9 (pl, listOf vs.toArray e) (.head _)
    · rcases List.mem_cons.mp hp with rfl | hp
      · exact Ne.symm (Nat.ne_of_lt l3)
      · exact a9 p (.tail _ hp)
theorem path_end {GL : Led} {I : Addr} {i : Nat} {m m' : Str → Option Value} {pl e D : Nat} {vs : List Value} {path : List Stp} {new : Led} {n n' : Int} {tn tn' tk : Tok} {u : Value} {stp : Stp} {it : Obj} (W : QInv GL I i m ((pl, listOf vs.toArray e) :: (new ++ GL)) pl e vs path new n tn)
    (a : Above D ((I, it) :: (pl, listOf vs.toArray e) :: (new ++ GL))) (ha : stp.arg u) (hk : ∀ k, stp = .H k → PyData.strOk k = true) (hp : m' "path" = some (.ref pl)) (hn : m' "n" = some (.int n' tn')) (h0 : 0 ≤ n') (h1 : n' < 1000000000000) :
    ∃ G4, Has ((I, it) :: G4) ((D, tupO #[.str stp.kd.str tk, u] 0) :: (I, it) :: (pl, listOf (vs.toArray.push (.ref D)) (e + 1)) :: (new ++ GL)) ∧ (∀ p ∈ G4, p.1 ≠ I) ∧ ∃ pl e vs path new n tn, QInv GL I (i + 1) m' G4 pl e vs path new n tn := by
  have W' := W.next (m' := m') (tk := tk) (u := u) (stp := stp) (tn' := tn') (fun p hp => a p (.tail _ (.tail _ hp))) (a _ (.tail _ (.head _))) (a _ (.head _)) ha hk hp hn h0 h1
  rw [List.push_toArray]
  exact ⟨_, has_cons (.tail _ (.head _)) (has_cons (.tail _ (.tail _ (.head _))) (has_cons (.head _) fun p hp => .tail _ (.tail _ (.tail _ hp)))), W'.off, _, _, _, _, _, _, _, W'⟩
theorem path_tel {prog : Program} {w : World} {n : Int} {tn : Tok} {GL : Led} (h0 : 0 ≤ n) (h1 : n < 1000000000000) :
    Tel prog w 612 [.int n tn] 60 300 GL
      (fun v n' => ∃ (pl e : Nat) (vs : List Value) (path : List Stp) (new : Led), v = .ref pl ∧ Has ((pl, listOf vs.toArray e) :: (new ++ GL)) n' ∧ All2 (StepR new) vs path ∧ path.length ≤ 4 ∧ Above pl GL ∧ (∀ q ∈ new, Above q.1 GL) ∧ Uq ((pl, listOf vs.toArray e) :: new) ∧ SokP path) (fun xx9 => False) := by
  k_dflt (refine' Tel.ofM (dn := 59) (un' := 297) ?k6 ?k7 ?k9 ?kB ?c2 ?c3 ?c4 ?c5 ?_; (case k6 => k_is); (case k7 => k_is); (case k9 => exact fun s X => BindsTo.of_eq rfl); (case kB => exact locs rfl); (case c5 => decide); (case c2 => exact rfl); (case c3 => exact rfl); (case c4 => exact rfl))
  intro Q Z q1 _ _ Γ
  have m0 : 0 ≤ n.fmod 5 := Int.fmod_nonneg_of_pos _ (by decide)
  have m1 : n.fmod 5 < 5 := Int.fmod_lt_of_pos _ (by decide)
  obtain ⟨k, hk⟩ := Int.eq_ofNat_of_zero_le m0
  have hk4 : k ≤ 4 := by omega
  refine M.newList (by decide) fun pl ab => ?_
  refine M.forRange (k := k) rfl rfl rfl (by omega) (fun Q2 h t5 => M.mod (by decide) fun t => by rw [hk]; exact h t) (fun I i m news => ∃ pl e vs path new n tn, QInv GL I i m news pl e vs path new n tn) (fun I l1 => ⟨_, _, [], [], [], n, tn, rfl, .nil, rfl, ab, (fun xx9 h => nomatch h), by simp [Uq], (fun xx9 h => nomatch h), rfl, rfl, h0, h1, fun p hp => Nat.ne_of_lt (l1 p hp)⟩) ?_ ?_
  · rintro I i m1 news1 hi ⟨pl, e, vs, path, new, n1, t1, W⟩
    obtain rfl := W.led
    have hz : vs.length ≤ 4 := by have a := W.items.length; have b := W.len; omega
    have q0 := W.n0
    have q1 := W.n1
    have f1 : I ≠ pl := fun e => W.off _ (.head _) e.symm
    have d0 : 0 ≤ n1.fdiv 5 := Int.fdiv_nonneg q0 (by decide)
    have d1 : n1.fdiv 5 < 1000000000000 := by rw [Int.fdiv_eq_ediv_of_nonneg _ (by decide)]; omega
    have e0 : 0 ≤ ((n1.fdiv 5).fdiv 7).fmod 11 := Int.fmod_nonneg_of_pos _ (by decide)
    have e1 : ((n1.fdiv 5).fdiv 7).fmod 11 < 11 := Int.fmod_lt_of_pos _ (by decide)
    refine ⟨[("path", .ref pl), ("n", .int n1 t1)], look_add1 (look_add1 look_base W.hn) W.hp, fun o v Q2 qr qn => ?_⟩
    refine fun t5 => M.fdiv (by decide) (PyProof.noPylong_of_log2 (by decide +kernel)) fun tn => ?_
    refine fun t7 => M.mod (by decide) fun tw => ?_
    refine fun t3 => M.lt _ rfl ?_
    generalize decide ((n1.fdiv 5).fmod 7 < 3) = z
    have fin : ∀ (ml : Ml) (stp : Stp) (u : Value) (tk : Tok), stp.arg u → (∀ k, stp = .H k → PyData.strOk k = true) → ml.l.lookup ("path" : Str) = some (.ref pl) → ml.l.lookup ("n" : Str) = some (.int (n1.fdiv 5) tn) → ∀ D, Above D ((I, o) :: (pl, listOf vs.toArray e) :: (new ++ GL)) → Q2 .next (look ml) ((D, tupO #[.str stp.kd.str tk, u] 0) :: (I, o) :: (pl, listOf (vs.toArray.push (.ref D)) (e + 1)) :: (new ++ GL)) := fun ml stp u tk ha hk hp hn D a => qn _ _ (path_end W a ha hk (look_at hp) (look_at hn) d0 d1)
    have up : ∀ D x, Above D ((I, o) :: (pl, listOf vs.toArray e) :: (new ++ GL)) → Upd pl (listOf vs.toArray e) (listOf (vs.toArray.push (.ref D)) (e + 1)) ((D, x) :: (I, o) :: (pl, listOf vs.toArray e) :: (new ++ GL)) ((D, x) :: (I, o) :: (pl, listOf (vs.toArray.push (.ref D)) (e + 1)) :: (new ++ GL)) := fun D x a => by
      have l2 := a _ (.tail _ (.head _))
      have f2 : ∀ p ∈ new ++ GL, p.1 ≠ pl := fun p hp => (List.mem_append.mp hp).elim (fun h => W.uq.ne .here _ _ h) fun h => Nat.ne_of_lt (W.ab p h)
      exact .tail (Nat.ne_of_gt l2) (.tail f1 (.head f2))
    have hz2 : vs.toArray.size ≤ 2000 := by rw [List.size_toArray]; omega
    cases z with
    | true =>
      refine M.methL (.tail _ (.head _)) PySem.F.slot_list_append PySem.F.type_list_append rfl ?_
      refine fun tA t7 => M.fdiv (by decide) (PyProof.noPylong_of_log2 (by decide +kernel)) fun t8 => ?_
      refine fun t11 => M.mod (by decide) fun t9 => ?_
      refine fun t2 => M.sub fun t6 => ?_
      refine M.newTuple (Nat.le_of_ble_eq_true rfl) fun D a => ?_
      refine M.append (up D _ a) hz2 ?_
      exact fin _ (.A _) _ tA ⟨_, rfl, by omega, by omega⟩ (fun k e => nomatch e) rfl rfl D a
    | false =>
      refine fun t6 => M.lt _ rfl ?_
      generalize decide ((n1.fdiv 5).fmod 7 < 6) = z
      cases z with
      | true =>
        refine M.methL (.tail _ (.head _)) PySem.F.slot_list_append PySem.F.type_list_append rfl ?_
        refine fun tA => M.glob (by k_is) rfl rfl ?_
        refine fun t7 => M.fdiv (by decide) (PyProof.noPylong_of_log2 (by decide +kernel)) fun t8 => ?_
        refine fun t4 => M.mod (by decide) fun t9 => ?_
        refine M.keyOf (Int.fmod_nonneg_of_pos _ (by decide)) (Int.fmod_lt_of_pos _ (by decide)) (fun xx9 => by with_unfolding_all rfl) fun q t ok => ?_
        refine M.newTuple (Nat.le_of_ble_eq_true rfl) fun D a => ?_
        refine M.append (up D _ a) hz2 ?_
        exact fin _ (.H _) _ tA ⟨_, rfl⟩ (fun k e => by cases e; exact ok) rfl rfl D a
      | false =>
        refine M.methL (.tail _ (.head _)) PySem.F.slot_list_append PySem.F.type_list_append rfl ?_
        refine fun tA t0 => M.newTuple (Nat.le_of_ble_eq_true rfl) fun D a => ?_
        refine M.append (up D _ a) hz2 ?_
        exact fin _ .S _ tA ⟨_, rfl⟩ (fun k e => nomatch e) rfl rfl D a
  · rintro I m1 news1 ⟨pl, e, vs, path, new, n1, t1, W⟩
    obtain ⟨rfl, hA, hl, ab, abn, uq, sk, hp, hn, q0, q1', off⟩ := W
    exact ⟨[("path", .ref pl)], look_add1 look_base hp, q1 _ _ _ ⟨pl, e, vs, path, new, rfl, fun p hp => hp, hA, by omega, ab, abn, uq, sk⟩⟩
end
section
section
variable {α : Type} {B : α → Led}
theorem one_split : ∀ {l : List α} {j : Nat} {a : α}, l[j]? = some a → ∃ Z : Led, (l.flatMap B).Perm (B a ++ Z) ∧ ∀ a', ((l.set j a').flatMap B).Perm (B a' ++ Z)
  | x :: r, 0, a, h => by
    simp at h; subst h
    exact ⟨r.flatMap B, .refl _, fun a' => .refl _⟩
  | x :: r, j + 1, a, h => by
    obtain ⟨Z, p, q⟩ := one_split (l := r) (j := j) (a := a) (by simpa using h)
    have mv : ∀ (b : Led) (t : Led), t.Perm (b ++ Z) → (B x ++ t).Perm (b ++ (B x ++ Z)) := fun b t e => (e.append_left _).trans (by rw [← List.append_assoc, ← List.append_assoc]; exact List.perm_append_comm.append_right _)
    exact ⟨B x ++ Z, mv _ _ p, fun a' => mv _ _ (q a')⟩
theorem two_split : ∀ {l : List α} {j k : Nat} {a b : α}, j ≠ k → l[j]? = some a → l[k]? = some b → ∃ Z : Led, (l.flatMap B).Perm (B a ++ (B b ++ Z)) ∧ ∀ a' b', (((l.set j a').set k b').flatMap B).Perm (B a' ++ (B b' ++ Z))
  | x :: r, 0, 0, _, _, h, _, _ => absurd rfl h
  | x :: r, 0, k + 1, a, b, _, h1, h2 => by
    simp at h1; subst h1
    obtain ⟨Z, p, q⟩ := one_split (B := B) (l := r) (j := k) (a := b) (by simpa using h2)
    exact ⟨Z, p.append_left _, fun a' b' => (q b').append_left _⟩
  | x :: r, j + 1, 0, a, b, _, h1, h2 => by
    simp at h2; subst h2
    obtain ⟨Z, p, q⟩ := one_split (B := B) (l := r) (j := j) (a := a) (by simpa using h1)
    have mv : ∀ (u v t : Led), t.Perm (v ++ Z) → (u ++ t).Perm (v ++ (u ++ Z)) := fun u v t e => (e.append_left _).trans (by rw [← List.append_assoc, ← List.append_assoc]; exact List.perm_append_comm.append_right _)
    exact ⟨Z, mv _ _ _ p, fun a' b' => mv _ _ _ (q a')⟩
  | x :: r, j + 1, k + 1, a, b, h, h1, h2 => by
    obtain ⟨Z, p, q⟩ := two_split (l := r) (j := j) (k := k) (a := a) (b := b) (by omega) (by simpa using h1) (by simpa using h2)
    have mv : ∀ (u v t : Led), t.Perm (u ++ (v ++ Z)) → (B x ++ t).Perm (u ++ (v ++ (B x ++ Z))) := fun u v t e => (e.append_left _).trans (by
      have sw : ∀ X Y W : Led, (X ++ (Y ++ W)).Perm (Y ++ (X ++ W)) := fun X Y W => by rw [← List.append_assoc, ← List.append_assoc]; exact List.perm_append_comm.append_right _
      exact (sw (B x) u (v ++ Z)).trans ((sw (B x) v Z).append_left _))
    exact ⟨B x ++ Z, mv _ _ _ p, fun a' b' => mv _ _ _ (q a' b')⟩
end
theorem fixed_move {f : Fix} {i : Int} {tn : Tok} {zs : Array Value} {ze : Nat} {A T : Led} : (fixedL f i tn zs ze (A ++ T)).Perm (A ++ fixedL f i tn zs ze T) := by
  have h2 : ∀ (A0 : Led), (A0 ++ (A ++ T)).Perm (A ++ (A0 ++ T)) := fun A0 => by
    rw [← List.append_assoc, ← List.append_assoc]
    exact List.perm_append_comm.append_right _
  exact h2 [(f.rn, runO f), (f.drn, runD f), (f.li, limO f), (f.dli, limD f), (f.ct, ctrO f), (f.dct, ctrD f), (f.hp, heapO f), (f.dhp, heapD f i tn), (f.pl, f.po), (f.zr, listOf zs ze)]
theorem fixed_in {f : Fix} {i : Int} {tn : Tok} {zs : Array Value} {ze : Nat} {A T : Led} (p : A.Perm T) : (fixedL f i tn zs ze A).Perm (fixedL f i tn zs ze T) :=
  p.append_left [(f.rn, runO f), (f.drn, runD f), (f.li, limO f), (f.dli, limD f), (f.ct, ctrO f), (f.dct, ctrD f), (f.hp, heapO f), (f.dhp, heapD f i tn), (f.pl, f.po), (f.zr, listOf zs ze)]
theorem led_one {f : Fix} {S : PS} {j : Nat} {n : PN} (h : S.ps[j]? = some n) : ∃ Z : Led, (∀ R : Led, (S.led f R).Perm (n.blk ++ fixedL f S.n S.tn S.zs S.ze (Z ++ R))) ∧ ∀ (R : Led) n' i tn zs ze, (PS.led f ⟨S.ps.set j n', i, tn, zs, ze⟩ R).Perm (n'.blk ++ fixedL f i tn zs ze (Z ++ R)) := by
  obtain ⟨Z, p, q⟩ := one_split (B := PN.blk) h
  have go : ∀ (R b t : Led) i tn zs ze, t.Perm (b ++ Z) → (fixedL f i tn zs ze (t ++ R)).Perm (b ++ fixedL f i tn zs ze (Z ++ R)) := fun R b t i tn zs ze e => (fixed_in ((e.append_right R).trans (by rw [List.append_assoc]))).trans fixed_move
  exact ⟨Z, fun R => go R _ _ _ _ _ _ p, fun R n' i tn zs ze => go R _ _ _ _ _ _ (q n')⟩
theorem led_two {f : Fix} {S : PS} {j k : Nat} {n m : PN} (hjk : j ≠ k) (h : S.ps[j]? = some n) (h' : S.ps[k]? = some m) : ∃ Z : Led, (∀ R : Led, (S.led f R).Perm (n.blk ++ (m.blk ++ fixedL f S.n S.tn S.zs S.ze (Z ++ R)))) ∧ ∀ (R : Led) n' m' i tn zs ze, (PS.led f ⟨(S.ps.set j n').set k m', i, tn, zs, ze⟩ R).Perm (n'.blk ++ (m'.blk ++ fixedL f i tn zs ze (Z ++ R))) := by
  obtain ⟨Z, p, q⟩ := two_split (B := PN.blk) hjk h h'
  have go : ∀ (R b c t : Led) i tn zs ze, t.Perm (b ++ (c ++ Z)) → (fixedL f i tn zs ze (t ++ R)).Perm (b ++ (c ++ fixedL f i tn zs ze (Z ++ R))) := fun R b c t i tn zs ze e =>
    (fixed_in ((e.append_right R).trans (by rw [List.append_assoc, List.append_assoc]))).trans (fixed_move.trans (fixed_move.append_left _))
  exact ⟨Z, fun R => go R _ _ _ _ _ _ _ p, fun R n' m' i tn zs ze => go R _ _ _ _ _ _ _ (q n' m')⟩
theorem fixed_new {f : Fix} {i : Int} {tn : Tok} {zs : Array Value} {ze : Nat} {Z N R : Led} : (fixedL f i tn zs ze (Z ++ (N ++ R))).Perm (N ++ fixedL f i tn zs ze (Z ++ R)) :=
  (fixed_in (by rw [← List.append_assoc, ← List.append_assoc]; exact List.perm_append_comm.append_right _)).trans fixed_move
theorem fixed_new2 {f : Fix} {i : Int} {tn : Tok} {zs : Array Value} {ze : Nat} {Y Z N R : Led} : (Y ++ fixedL f i tn zs ze (Z ++ (N ++ R))).Perm (N ++ fixedL f i tn zs ze (Y ++ (Z ++ R))) := by
  have e : Y ++ (Z ++ (N ++ R)) = (Y ++ Z) ++ (N ++ R) := by rw [List.append_assoc]
  have e2 : (Y ++ Z) ++ R = Y ++ (Z ++ R) := by rw [List.append_assoc]
  have h := @fixed_new f i tn zs ze (Y ++ Z) N R
  rw [← e, e2] at h
  exact fixed_move.symm.trans h
theorem Uq.tl {q : Addr × Obj} {l : Led} (h : Uq (q :: l)) : Uq l := by
  unfold Uq at *
  rw [List.map_cons, List.nodup_cons] at h
  exact h.2
theorem Uq.drop5 {a b c d e : Addr × Obj} {l : Led} (h : Uq (a :: b :: c :: d :: e :: l)) : Uq l := h.tl.tl.tl.tl.tl
structure PZ (prog : Program) (w : World) (f : Fix) (S S' : PS) (R : Led) (σ' : List Cont) (news' : Led) : Prop where
  good : PGood prog w f S' R σ'
  has : Has (S'.led f R) news'
  keep : ∀ c y, Xof S.ps c = some y → Xof S'.ps c = some y
  zs : S'.zs.size ≤ S.zs.size + 1
noncomputable abbrev sT (f : Fix) (x dx : Nat) (o : Obj) (i : Int) (tn : Tok) (zs : Array Value) (ze : Nat) (Z : Led) : Led :=
  (x, instObj 66 dx) :: (dx, o) :: (f.ct, ctrO f) :: (f.dct, ctrD f) :: (f.pl, f.po) :: (f.rn, runO f) :: (f.drn, runD f) :: (f.li, limO f) :: (f.dli, limD f) :: (f.hp, heapO f) :: (f.dhp, heapD f i tn) :: (f.zr, listOf zs ze) :: Z
theorem store_sp0 {prog : Program} {w : World} {f : Fix} {S : PS} {R : Led} {σ : List Cont} {j : Nat} {x dx : Nat} {d : TD} {b b' : PB} {c' : Cont} (ok : f.Ok prog w) (G : PGood prog w f S R σ) (hn : S.ps[j]? = some ⟨x, dx, d, b⟩) (hb : b.led = []) (h0 : Plain b.val) (hb' : b'.led = []) (h1 : Plain b'.val) (hcm : CM prog w (Xof S.ps) b' c') :
    Tel prog w 509 [.ref f.ct, .ref x, b'.val] 10 60 (S.led f R) (fun r n9 => r = .none ∧ ∃ S', PZ prog w f S S' R (σ.set j c') n9) (fun xx9 => False) := by
  obtain ⟨Z, P0, P1⟩ := led_one (f := f) hn
  replace P0 := P0 R
  replace P1 := P1 R
  have e0 : PN.blk ⟨x, dx, d, b⟩ = [(x, instObj 66 dx), (dx, scD d b.val)] := by unfold PN.blk; rw [hb]
  have e1 : PN.blk ⟨x, dx, d, b'⟩ = [(x, instObj 66 dx), (dx, scD d b'.val)] := by unfold PN.blk; rw [hb']
  rw [e0] at P0
  have fit : Fits (sT f x dx (scD d b.val) S.n S.tn S.zs S.ze (Z ++ R)) ((x, instObj 66 dx) :: (dx, scD d b.val) :: fixedL f S.n S.tn S.zs S.ze (Z ++ R)) := by exact fits_of [0, 0, 4, 4, 6] rfl
  have U1 := (G.uq.perm P0).fit fit
  have K1 := U1.ne (d := dx) (by exact ext_of 1 rfl)
  refine Tel.mono (store_plain ok.places ok.high h0 h1 (by exact apart_of K1 [0, 1, 2, 3] rfl) (fun p hp => K1 _ _ (by exact List.mem_of_mem_drop (i := 4) hp))) (fun q hq => P0.mem_iff.mpr (fit.has q hq)) ?_ fun xx9 h => h
  rintro v n9 ⟨rfl, hh⟩
  refine ⟨rfl, ⟨S.ps.set j ⟨x, dx, d, b'⟩, S.n, S.tn, S.zs, S.ze⟩, ⟨?_, by simpa using G.len, CMs.set G.cm hn rfl hcm⟩, ?_, fun c y h => (congrFun (Xof_set (n' := ⟨x, dx, d, b'⟩) hn rfl) c).trans h, Nat.le_succ _⟩
  · have P := P1 ⟨x, dx, d, b'⟩ S.n S.tn S.zs S.ze
    exact (G.uq.perm P0).addr (by rw [e1]; rfl) |>.perm P.symm
  · have P := P1 ⟨x, dx, d, b'⟩ S.n S.tn S.zs S.ze
    rw [e1] at P
    have fit2 : Fits ((x, instObj 66 dx) :: (dx, scD d b'.val) :: fixedL f S.n S.tn S.zs S.ze (Z ++ R)) (sT f x dx (scD d b'.val) S.n S.tn S.zs S.ze (Z ++ R)) := by exact fits_of [0, 0, 3, 3, 3, 3, 0, 0, 1, 1] rfl
    exact fun q hq => hh q (fit2.has q (P.mem_iff.mp hq))
noncomputable abbrev oldL (r dr a c da l : Nat) (rd : RD) (o ol : Obj) : Led := [(r, instObj 162 dr), (dr, refD rd a), (a, instObj c da), (da, o), (l, ol)]
noncomputable abbrev sT1 (f : Fix) (x dx : Nat) (o : Obj) (r dr a c da l : Nat) (rd : RD) (oa ol : Obj) (i : Int) (tn : Tok) (zs : Array Value) (ze : Nat) (Z : Led) : Led :=
  (x, instObj 66 dx) :: (dx, o) :: (f.ct, ctrO f) :: (f.dct, ctrD f) :: (f.pl, f.po) :: (r, instObj 162 dr) :: (dr, refD rd a) :: (a, instObj c da) :: (da, oa) :: (f.hp, heapO f) :: (f.dhp, heapD f i tn) :: (f.zr, listOf zs ze) :: (l, ol) :: (f.rn, runO f) :: (f.drn, runD f) :: (f.li, limO f) :: (f.dli, limD f) :: Z
theorem store_sp1 {prog : Program} {w : World} {f : Fix} {S : PS} {R : Led} {σ : List Cont} {j : Nat} {x dx r dr a c da l k : Nat} {d : TD} {b b' : PB} {c' : Cont} {rd : RD} {g : TG} {cnt : Int} {tc : Tok} {tl : List DictEntry} {ol : Obj} (ok : f.Ok prog w) (G : PGood prog w f S R σ) (hn : S.ps[j]? = some ⟨x, dx, d, b⟩) (hb : b.led = oldL r dr a c da l rd (thG g cnt tc tl k) ol) (h0 : b.val = .ref r) (hc : c = 66 ∨ c = 85 ∨ c = 104) (htl : tl.length ≤ 900) (hz : S.zs.size ≤ 1000) (hb' : b'.led = []) (h1 : Plain b'.val) (hcm : CM prog w (Xof S.ps) b' c') :
    Tel prog w 509 [.ref f.ct, .ref x, b'.val] 10 60 (S.led f R) (fun r n9 => r = .none ∧ ∃ S', PZ prog w f S S' R (σ.set j c') n9) (fun xx9 => False) := by
  obtain ⟨Z, P0, P1⟩ := led_one (f := f) hn
  replace P0 := P0 R
  replace P1 := P1 R
  have e0 : PN.blk ⟨x, dx, d, b⟩ = (x, instObj 66 dx) :: (dx, scD d (.ref r)) :: oldL r dr a c da l rd (thG g cnt tc tl k) ol := by unfold PN.blk; rw [hb]; dsimp only; rw [h0]
  have e1 : PN.blk ⟨x, dx, d, b'⟩ = [(x, instObj 66 dx), (dx, scD d b'.val)] := by unfold PN.blk; rw [hb']
  rw [e0] at P0
  have fit : Fits (sT1 f x dx (scD d (.ref r)) r dr a c da l rd (thG g cnt tc tl k) ol S.n S.tn S.zs S.ze (Z ++ R)) ((x, instObj 66 dx) :: (dx, scD d (.ref r)) :: (r, instObj 162 dr) :: (dr, refD rd a) :: (a, instObj c da) :: (da, thG g cnt tc tl k) :: (l, ol) :: fixedL f S.n S.tn S.zs S.ze (Z ++ R)) := by exact fits_of [0, 0, 9, 9, 11, 0, 0, 0, 0, 5, 5, 5] rfl
  have U1 := (G.uq.perm P0).fit fit
  have K1 := U1.ne (d := dx) (by exact ext_of 1 rfl)
  have K2 := U1.ne (d := da) (by exact ext_of 8 rfl)
  have K3 := U1.ne (d := f.zr) (by exact ext_of 11 rfl)
  refine Tel.mono (store_plain0 ok.places ok.high hc htl hz h1 (by exact apart_of K1 [0, 1, 2, 3, 4, 5, 6, 7, 8, 9, 10] rfl) (fun p hp => K1 _ _ (by exact List.mem_of_mem_drop (i := 11) hp)) (by exact apart_of K2 [0, 2, 3, 4, 1, 5, 6, 7, 8, 9, 10] rfl) (fun p hp => K2 _ _ (by exact List.mem_of_mem_drop (i := 11) hp)) (by exact apart_of K3 [0, 2, 3, 4, 1, 5, 6, 7, 8, 9, 10] rfl) (fun p hp => K3 _ _ (by exact List.mem_of_mem_drop (i := 11) hp))) (fun q hq => P0.mem_iff.mpr (fit.has q hq)) ?_ fun xx9 h => h
  rintro v n9 ⟨cnt', -, tc9, zs', ze', rfl, hh, hz'⟩
  have P := P1 ⟨x, dx, d, b'⟩ S.n S.tn zs' ze'
  rw [e1] at P
  have fit2 : Fits ((x, instObj 66 dx) :: (dx, scD d b'.val) :: fixedL f S.n S.tn zs' ze' (Z ++ R)) ((x, instObj 66 dx) :: (dx, scD d b'.val) :: fixedL f S.n S.tn zs' ze' (Z ++ R)) := .last
  have has2 : Has ((x, instObj 66 dx) :: (dx, scD d b'.val) :: fixedL f S.n S.tn zs' ze' (Z ++ R)) (sT1 f x dx (scD d b'.val) r dr a c da l rd (thG g cnt' tc9 tl k) ol S.n S.tn zs' ze' (Z ++ R)) := by
    exact perm [0, 1, 13, 14, 15, 16, 2, 3, 9, 10, 4, 11] 17 rfl
  refine ⟨rfl, ⟨S.ps.set j ⟨x, dx, d, b'⟩, S.n, S.tn, zs', ze'⟩, ⟨?_, by simpa using G.len, CMs.set G.cm hn rfl hcm⟩, fun q hq => hh q (has2 q (P.mem_iff.mp hq)), fun c y h => (congrFun (Xof_set (n' := ⟨x, dx, d, b'⟩) hn rfl) c).trans h, hz'⟩
  · have U2 : Uq ((x, instObj 66 dx) :: (dx, scD d b'.val) :: (r, instObj 162 dr) :: (dr, refD rd a) :: (a, instObj c da) :: (da, thG g cnt tc tl k) :: (l, ol) :: fixedL f S.n S.tn zs' ze' (Z ++ R)) := (G.uq.perm P0).addr rfl
    have fit3 : Fits ((r, instObj 162 dr) :: (dr, refD rd a) :: (a, instObj c da) :: (da, thG g cnt tc tl k) :: (l, ol) :: (x, instObj 66 dx) :: (dx, scD d b'.val) :: fixedL f S.n S.tn zs' ze' (Z ++ R)) ((x, instObj 66 dx) :: (dx, scD d b'.val) :: (r, instObj 162 dr) :: (dr, refD rd a) :: (a, instObj c da) :: (da, thG g cnt tc tl k) :: (l, ol) :: fixedL f S.n S.tn zs' ze' (Z ++ R)) := by exact fits_of [2, 2, 2, 2, 2] rfl
    exact ((U2.fit fit3).drop5).perm P.symm
theorem store_arr {prog : Program} {w : World} {f : Fix} {S : PS} {R : Led} {σ : List Cont} {j : Nat} {x dx r dr a da l e : Nat} {d td : TD} {rd : RD} {vs : Array Value} {b' : PB} {c' : Cont} (ok : f.Ok prog w) (G : PGood prog w f S R σ) (hn : S.ps[j]? = some ⟨x, dx, d, .arr r dr a da l e rd td vs⟩) (hz : S.zs.size ≤ 1000) (hb' : b'.led = []) (h1 : Plain b'.val) (hcm : CM prog w (Xof S.ps) b' c') :
    Tel prog w 509 [.ref f.ct, .ref x, b'.val] 10 60 (S.led f R) (fun r n9 => r = .none ∧ ∃ S', PZ prog w f S S' R (σ.set j c') n9) (fun xx9 => False) :=
  store_sp1 (g := ⟨td.h1, td.h2, td.t1, td.t2, td.num, td.tn⟩) (cnt := td.cnt) (tc := td.tc) (k := 8) (l := l) (ol := listOf vs e) ok G hn rfl rfl (by decide) (Nat.le_of_ble_eq_true rfl) hz hb' h1 hcm
theorem store_hash {prog : Program} {w : World} {f : Fix} {S : PS} {R : Led} {σ : List Cont} {j : Nat} {x dx r dr a da l : Nat} {d td : TD} {rd : RD} {i9 : Int} {t9 : Tok} {ot : Obj} {kvs : List (Str × Value)} {b' : PB} {c' : Cont} (ok : f.Ok prog w) (G : PGood prog w f S R σ) (hn : S.ps[j]? = some ⟨x, dx, d, .hash r dr a da l rd td i9 t9 ot kvs⟩) (hz : S.zs.size ≤ 1000) (hb' : b'.led = []) (h1 : Plain b'.val) (hcm : CM prog w (Xof S.ps) b' c') :
    Tel prog w 509 [.ref f.ct, .ref x, b'.val] 10 60 (S.led f R) (fun r n9 => r = .none ∧ ∃ S', PZ prog w f S S' R (σ.set j c') n9) (fun xx9 => False) :=
  store_sp1 (g := ⟨td.h1, td.h2, td.t1, td.t2, td.num, td.tn⟩) (cnt := td.cnt) (tc := td.tc) (k := 9) (l := l) (ol := ot) ok G hn rfl rfl (by decide) (Nat.le_of_ble_eq_true rfl) hz hb' h1 hcm
noncomputable abbrev sT2 (f : Fix) (x dx : Nat) (o : Obj) (r dr y dy : Nat) (rd : RD) (oy : Obj) (i : Int) (tn : Tok) (zs : Array Value) (ze : Nat) (Z : Led) : Led :=
  (x, instObj 66 dx) :: (dx, o) :: (f.ct, ctrO f) :: (f.dct, ctrD f) :: (f.pl, f.po) :: (r, instObj 162 dr) :: (dr, refD rd y) :: (y, instObj 66 dy) :: (dy, oy) :: (f.hp, heapO f) :: (f.dhp, heapD f i tn) :: (f.zr, listOf zs ze) :: (f.rn, runO f) :: (f.drn, runD f) :: (f.li, limO f) :: (f.dli, limD f) :: Z
theorem store_sp2 {prog : Program} {w : World} {f : Fix} {S : PS} {R : Led} {σ : List Cont} {j ch : Nat} {x dx r dr y dy : Nat} {d d2 : TD} {rd : RD} {b2 b' : PB} {c' c2 : Cont} (ok : f.Ok prog w) (G : PGood prog w f S R σ) (hn : S.ps[j]? = some ⟨x, dx, d, .sc r dr y rd⟩) (hm : S.ps[ch]? = some ⟨y, dy, d2, b2⟩) (hc2 : σ[ch]? = some c2) (hne : j ≠ ch) (hz : S.zs.size ≤ 1000) (hb' : b'.led = []) (h1 : Plain b'.val) (hcm : CM prog w (Xof S.ps) b' c') :
    Tel prog w 509 [.ref f.ct, .ref x, b'.val] 10 60 (S.led f R) (fun r n9 => r = .none ∧ ∃ S', PZ prog w f S S' R (σ.set j c') n9) (fun xx9 => False) := by
  obtain ⟨Z, P0, P1⟩ := led_two (f := f) hne hn hm
  replace P0 := P0 R
  replace P1 := P1 R
  have e1 : PN.blk ⟨x, dx, d, b'⟩ = [(x, instObj 66 dx), (dx, scD d b'.val)] := by unfold PN.blk; rw [hb']
  have P2 : (S.led f R).Perm ((x, instObj 66 dx) :: (dx, scD d (.ref r)) :: (r, instObj 162 dr) :: (dr, refD rd y) :: (y, instObj 66 dy) :: (dy, scD d2 b2.val) :: fixedL f S.n S.tn S.zs S.ze (b2.led ++ (Z ++ R))) :=
    P0.trans (List.Perm.append_left [(x, instObj 66 dx), (dx, scD d (.ref r)), (r, instObj 162 dr), (dr, refD rd y), (y, instObj 66 dy), (dy, scD d2 b2.val)] fixed_move.symm)
  have fit : Fits (sT2 f x dx (scD d (.ref r)) r dr y dy rd (scD d2 b2.val) S.n S.tn S.zs S.ze (b2.led ++ (Z ++ R))) ((x, instObj 66 dx) :: (dx, scD d (.ref r)) :: (r, instObj 162 dr) :: (dr, refD rd y) :: (y, instObj 66 dy) :: (dy, scD d2 b2.val) :: fixedL f S.n S.tn S.zs S.ze (b2.led ++ (Z ++ R))) := by exact fits_of [0, 0, 8, 8, 10, 0, 0, 0, 0, 4, 4, 4] rfl
  have U1 := (G.uq.perm P2).fit fit
  have K1 := U1.ne (d := dx) (by exact ext_of 1 rfl)
  have K2 := U1.ne (d := dy) (by exact ext_of 8 rfl)
  have K3 := U1.ne (d := f.zr) (by exact ext_of 11 rfl)
  refine Tel.mono (store_plain0 (g0 := ⟨d2.h1, d2.h2, d2.t1, d2.t2, d2.num, d2.tn⟩) (cnt0 := d2.cnt) (tc0 := d2.tc) (k0 := 8) ok.places ok.high (.inl rfl) (Nat.le_of_ble_eq_true rfl) hz h1 (by exact apart_of K1 [0, 1, 2, 3, 4, 5, 6, 7, 8, 9, 10] rfl) (fun p hp => K1 _ _ (by exact List.mem_of_mem_drop (i := 11) hp)) (by exact apart_of K2 [0, 2, 3, 4, 1, 5, 6, 7, 8, 9, 10] rfl) (fun p hp => K2 _ _ (by exact List.mem_of_mem_drop (i := 11) hp)) (by exact apart_of K3 [0, 2, 3, 4, 1, 5, 6, 7, 8, 9, 10] rfl) (fun p hp => K3 _ _ (by exact List.mem_of_mem_drop (i := 11) hp))) (fun q hq => P2.mem_iff.mpr (fit.has q hq)) ?_ fun xx9 h => h
  rintro v n9 ⟨cnt', -, tc9, zs', ze', rfl, hh, hz'⟩
  have P3 := (P1 ⟨x, dx, d, b'⟩ ⟨y, dy, { d2 with cnt := cnt', tc := tc9 }, b2⟩ S.n S.tn zs' ze')
  rw [e1] at P3
  have P := P3.trans (List.Perm.append_left [(x, instObj 66 dx), (dx, scD d b'.val), (y, instObj 66 dy), (dy, scD { d2 with cnt := cnt', tc := tc9 } b2.val)] fixed_move.symm)
  have has2 : Has ((x, instObj 66 dx) :: (dx, scD d b'.val) :: (y, instObj 66 dy) :: (dy, scD { d2 with cnt := cnt', tc := tc9 } b2.val) :: fixedL f S.n S.tn zs' ze' (b2.led ++ (Z ++ R))) (sT2 f x dx (scD d b'.val) r dr y dy rd (scD { d2 with cnt := cnt', tc := tc9 } b2.val) S.n S.tn zs' ze' (b2.led ++ (Z ++ R))) := by
    exact perm [0, 1, 7, 8, 12, 13, 14, 15, 2, 3, 9, 10, 4, 11] 16 rfl
  have hm' : (S.ps.set j ⟨x, dx, d, b'⟩)[ch]? = some ⟨y, dy, d2, b2⟩ := by rw [List.getElem?_set_ne hne]; exact hm
  have C1 := CMs.set (n' := ⟨x, dx, d, b'⟩) G.cm hn rfl hcm
  have hc2' : (σ.set j c')[ch]? = some c2 := by rw [List.getElem?_set_ne hne]; exact hc2
  have hb2 := C1 ch _ _ hm' hc2'
  have C2 := CMs.set (n' := ⟨y, dy, { d2 with cnt := cnt', tc := tc9 }, b2⟩) C1 hm' rfl hb2
  rw [set_same hc2'] at C2
  refine ⟨rfl, ⟨(S.ps.set j ⟨x, dx, d, b'⟩).set ch ⟨y, dy, { d2 with cnt := cnt', tc := tc9 }, b2⟩, S.n, S.tn, zs', ze'⟩, ⟨?_, by simpa using G.len, C2⟩, fun q hq => hh q (has2 q (P.mem_iff.mp hq)), fun c y' h => (congrFun (Xof_set (n' := ⟨y, dy, { d2 with cnt := cnt', tc := tc9 }, b2⟩) hm' rfl) c).trans ((congrFun (Xof_set (n' := ⟨x, dx, d, b'⟩) hn rfl) c).trans h), hz'⟩
  have U2 : Uq ((x, instObj 66 dx) :: (dx, scD d b'.val) :: (r, instObj 162 dr) :: (dr, refD rd y) :: (y, instObj 66 dy) :: (dy, scD { d2 with cnt := cnt', tc := tc9 } b2.val) :: fixedL f S.n S.tn zs' ze' (b2.led ++ (Z ++ R))) := (G.uq.perm P2).addr rfl
  have fit3 : Fits ((r, instObj 162 dr) :: (dr, refD rd y) :: (x, instObj 66 dx) :: (dx, scD d b'.val) :: (y, instObj 66 dy) :: (dy, scD { d2 with cnt := cnt', tc := tc9 } b2.val) :: fixedL f S.n S.tn zs' ze' (b2.led ++ (Z ++ R))) ((x, instObj 66 dx) :: (dx, scD d b'.val) :: (r, instObj 162 dr) :: (dr, refD rd y) :: (y, instObj 66 dy) :: (dy, scD { d2 with cnt := cnt', tc := tc9 } b2.val) :: fixedL f S.n S.tn zs' ze' (b2.led ++ (Z ++ R))) := by exact fits_of [2, 2] rfl
  exact ((U2.fit fit3).tl.tl).perm P.symm
noncomputable abbrev newL (r dr a da l : Nat) (rd : RD) (td : TD) : Led := [(r, instObj 162 dr), (dr, refD rd a), (a, instObj 85 da), (da, arD td l), (l, listOf #[] 0)]
noncomputable abbrev tdUp (td : TD) (tc : Tok) : TD := { td with cnt := td.cnt + 1, tc := tc }
noncomputable abbrev tgOf (td : TD) : TG := ⟨td.h1, td.h2, td.t1, td.t2, td.num, td.tn⟩
theorem store_sr0 {prog : Program} {w : World} {f : Fix} {S : PS} {R : Led} {σ : List Cont} {j : Nat} {x dx r9 dr9 a9 da9 l9 : Nat} {d td9 : TD} {rd9 : RD} {b : PB} (ok : f.Ok prog w) (G : PGood prog w f S (newL r9 dr9 a9 da9 l9 rd9 td9 ++ R) σ) (hn : S.ps[j]? = some ⟨x, dx, d, b⟩) (hb : b.led = []) (h0 : Plain b.val) :
    Tel prog w 509 [.ref f.ct, .ref x, .ref r9] 10 60 (S.led f (newL r9 dr9 a9 da9 l9 rd9 td9 ++ R)) (fun r n9 => r = .none ∧ ∃ S', PZ prog w f S S' R (σ.set j (.arr [])) n9) (fun xx9 => False) := by
  obtain ⟨Z, P0, P1⟩ := led_one (f := f) hn
  replace P0 := P0 (newL r9 dr9 a9 da9 l9 rd9 td9 ++ R)
  replace P1 := P1 R
  have e0 : PN.blk ⟨x, dx, d, b⟩ = [(x, instObj 66 dx), (dx, scD d b.val)] := by unfold PN.blk; rw [hb]
  rw [e0] at P0
  have P2 := P0.trans (List.Perm.append_left _ fixed_new)
  have fit : Fits ((x, instObj 66 dx) :: (dx, scD d b.val) :: (f.ct, ctrO f) :: (f.dct, ctrD f) :: (f.pl, f.po) :: (r9, instObj 162 dr9) :: (dr9, refD rd9 a9) :: (a9, instObj 85 da9) :: (da9, arD td9 l9) :: (l9, listOf #[] 0) :: (f.rn, runO f) :: (f.drn, runD f) :: (f.li, limO f) :: (f.dli, limD f) :: (f.hp, heapO f) :: (f.dhp, heapD f S.n S.tn) :: (f.zr, listOf S.zs S.ze) :: (Z ++ R)) ((x, instObj 66 dx) :: (dx, scD d b.val) :: (r9, instObj 162 dr9) :: (dr9, refD rd9 a9) :: (a9, instObj 85 da9) :: (da9, arD td9 l9) :: (l9, listOf #[] 0) :: fixedL f S.n S.tn S.zs S.ze (Z ++ R)) := by exact fits_of [0, 0, 9, 9, 11] rfl
  have U1 := (G.uq.perm P2).fit fit
  have K1 := U1.ne (d := dx) (by exact ext_of 1 rfl)
  have K2 := U1.ne (d := da9) (by exact ext_of 8 rfl)
  refine Tel.mono (store_ref (g := tgOf td9) (cnt := td9.cnt) (tc := td9.tc) (k := 8) ok.places ok.high h0 (c := 85) (by decide) (Nat.le_of_ble_eq_true rfl) (by exact apart_of K1 [0, 1, 2, 3, 4, 5, 6, 7] rfl) (fun p hp => K1 _ _ (by exact List.mem_of_mem_drop (i := 8) hp)) (by exact apart_of K2 [0, 2, 3, 4, 5, 6, 7] rfl) (fun p hp => K2 _ _ (by exact List.mem_of_mem_drop (i := 8) hp))) (fun q hq => P2.mem_iff.mpr (fit.has q hq)) ?_ fun xx9 h => h
  rintro v n9 ⟨tc', rfl, hh⟩
  have P := P1 ⟨x, dx, d, (.arr r9 dr9 a9 da9 l9 0 rd9 (tdUp td9 tc') #[])⟩ S.n S.tn S.zs S.ze
  have has2 : Has ((x, instObj 66 dx) :: (dx, scD d (.ref r9)) :: (r9, instObj 162 dr9) :: (dr9, refD rd9 a9) :: (a9, instObj 85 da9) :: (da9, arD (tdUp td9 tc') l9) :: (l9, listOf #[] 0) :: fixedL f S.n S.tn S.zs S.ze (Z ++ R)) ((x, instObj 66 dx) :: (dx, scD d (.ref r9)) :: (f.ct, ctrO f) :: (f.dct, ctrD f) :: (f.pl, f.po) :: (r9, instObj 162 dr9) :: (dr9, refD rd9 a9) :: (a9, instObj 85 da9) :: (da9, arD (tdUp td9 tc') l9) :: (l9, listOf #[] 0) :: (f.rn, runO f) :: (f.drn, runD f) :: (f.li, limO f) :: (f.dli, limD f) :: (f.hp, heapO f) :: (f.dhp, heapD f S.n S.tn) :: (f.zr, listOf S.zs S.ze) :: (Z ++ R)) := by
    exact perm [0, 1, 5, 6, 7, 8, 9, 10, 11, 12, 13, 2, 3, 14, 15, 4, 16] 17 rfl
  refine ⟨rfl, ⟨S.ps.set j ⟨x, dx, d, (.arr r9 dr9 a9 da9 l9 0 rd9 (tdUp td9 tc') #[])⟩, S.n, S.tn, S.zs, S.ze⟩, ⟨((G.uq.perm P2).addr (l' := PN.blk ⟨x, dx, d, (.arr r9 dr9 a9 da9 l9 0 rd9 (tdUp td9 tc') #[])⟩ ++ fixedL f S.n S.tn S.zs S.ze (Z ++ R)) rfl).perm P.symm, by simpa using G.len, CMs.set G.cm hn rfl ⟨by decide, .nil⟩⟩, fun q hq => hh q (has2 q (P.mem_iff.mp hq)), fun c y h => (congrFun (Xof_set (n' := ⟨x, dx, d, (.arr r9 dr9 a9 da9 l9 0 rd9 (tdUp td9 tc') #[])⟩) hn rfl) c).trans h, Nat.le_succ _⟩
theorem store_sr1 {prog : Program} {w : World} {f : Fix} {S : PS} {R : Led} {σ : List Cont} {j : Nat} {x dx r9 dr9 a9 da9 l9 : Nat} {d td9 : TD} {rd9 : RD} {r dr a da l c k : Nat} {b : PB} {rd : RD} {g : TG} {cnt : Int} {tc : Tok} {tl : List DictEntry} {ol : Obj} (ok : f.Ok prog w) (G : PGood prog w f S (newL r9 dr9 a9 da9 l9 rd9 td9 ++ R) σ) (hn : S.ps[j]? = some ⟨x, dx, d, b⟩) (hb : b.led = oldL r dr a c da l rd (thG g cnt tc tl k) ol) (h0 : b.val = .ref r) (hc : c = 66 ∨ c = 85 ∨ c = 104) (htl : tl.length ≤ 900) (hz : S.zs.size ≤ 1000) :
    Tel prog w 509 [.ref f.ct, .ref x, .ref r9] 10 60 (S.led f (newL r9 dr9 a9 da9 l9 rd9 td9 ++ R)) (fun r n9 => r = .none ∧ ∃ S', PZ prog w f S S' R (σ.set j (.arr [])) n9) (fun xx9 => False) := by
  obtain ⟨Z, P0, P1⟩ := led_one (f := f) hn
  replace P0 := P0 (newL r9 dr9 a9 da9 l9 rd9 td9 ++ R)
  replace P1 := P1 R
  have e0 : PN.blk ⟨x, dx, d, b⟩ = (x, instObj 66 dx) :: (dx, scD d (.ref r)) :: oldL r dr a c da l rd (thG g cnt tc tl k) ol := by unfold PN.blk; rw [hb]; dsimp only; rw [h0]
  rw [e0] at P0
  have P2 := P0.trans (List.Perm.append_left _ fixed_new)
  have fit : Fits ((x, instObj 66 dx) :: (dx, scD d (.ref r)) :: (f.ct, ctrO f) :: (f.dct, ctrD f) :: (f.pl, f.po) :: (r, instObj 162 dr) :: (dr, refD rd a) :: (a, instObj c da) :: (da, thG g cnt tc tl k) :: (f.hp, heapO f) :: (f.dhp, heapD f S.n S.tn) :: (f.zr, listOf S.zs S.ze) :: (r9, instObj 162 dr9) :: (dr9, refD rd9 a9) :: (a9, instObj 85 da9) :: (da9, arD td9 l9) :: (l9, listOf #[] 0) :: (l, ol) :: (f.rn, runO f) :: (f.drn, runD f) :: (f.li, limO f) :: (f.dli, limD f) :: (Z ++ R)) ((x, instObj 66 dx) :: (dx, scD d (.ref r)) :: (r, instObj 162 dr) :: (dr, refD rd a) :: (a, instObj c da) :: (da, thG g cnt tc tl k) :: (l, ol) :: (r9, instObj 162 dr9) :: (dr9, refD rd9 a9) :: (a9, instObj 85 da9) :: (da9, arD td9 l9) :: (l9, listOf #[] 0) :: fixedL f S.n S.tn S.zs S.ze (Z ++ R)) := by exact fits_of [0, 0, 14, 14, 16, 0, 0, 0, 0, 10, 10, 10, 1, 1, 1, 1, 1] rfl
  have U1 := (G.uq.perm P2).fit fit
  have K1 := U1.ne (d := dx) (by exact ext_of 1 rfl)
  have K2 := U1.ne (d := da) (by exact ext_of 8 rfl)
  have K3 := U1.ne (d := f.zr) (by exact ext_of 11 rfl)
  have K4 := U1.ne (d := da9) (by exact ext_of 15 rfl)
  refine Tel.mono (store_ref0 (g := tgOf td9) (cnt := td9.cnt) (tc := td9.tc) (k := 8) ok.places ok.high hc htl hz (c := 85) (by decide) (Nat.le_of_ble_eq_true rfl) (by exact apart_of K1 [0, 1, 2, 3, 4, 5, 6, 7, 8, 9, 10, 11, 12, 13, 14] rfl) (fun p hp => K1 _ _ (by exact List.mem_of_mem_drop (i := 15) hp)) (by exact apart_of K2 [0, 2, 3, 4, 1, 5, 6, 7, 8, 9, 10, 11, 12, 13, 14] rfl) (fun p hp => K2 _ _ (by exact List.mem_of_mem_drop (i := 15) hp)) (by exact apart_of K3 [0, 2, 3, 4, 1, 5, 6, 7, 8, 9, 10, 11, 12, 13, 14] rfl) (fun p hp => K3 _ _ (by exact List.mem_of_mem_drop (i := 15) hp)) (by exact apart_of K4 [0, 2, 3, 4, 1, 5, 6, 7, 8, 9, 10, 11, 12, 13, 14] rfl) (fun p hp => K4 _ _ (by exact List.mem_of_mem_drop (i := 15) hp))) (fun q hq => P2.mem_iff.mpr (fit.has q hq)) ?_ fun xx9 h => h
  rintro v n9 ⟨cnt', tc', tc9, zs', ze', rfl, hh, hz'⟩
  have P := P1 ⟨x, dx, d, (.arr r9 dr9 a9 da9 l9 0 rd9 (tdUp td9 tc') #[])⟩ S.n S.tn zs' ze'
  have has2 : Has ((x, instObj 66 dx) :: (dx, scD d (.ref r9)) :: (r9, instObj 162 dr9) :: (dr9, refD rd9 a9) :: (a9, instObj 85 da9) :: (da9, arD (tdUp td9 tc') l9) :: (l9, listOf #[] 0) :: fixedL f S.n S.tn zs' ze' (Z ++ R)) ((x, instObj 66 dx) :: (dx, scD d (.ref r9)) :: (f.ct, ctrO f) :: (f.dct, ctrD f) :: (f.pl, f.po) :: (r, instObj 162 dr) :: (dr, refD rd a) :: (a, instObj c da) :: (da, thG g cnt' tc9 tl k) :: (f.hp, heapO f) :: (f.dhp, heapD f S.n S.tn) :: (f.zr, listOf zs' ze') :: (r9, instObj 162 dr9) :: (dr9, refD rd9 a9) :: (a9, instObj 85 da9) :: (da9, arD (tdUp td9 tc') l9) :: (l9, listOf #[] 0) :: (l, ol) :: (f.rn, runO f) :: (f.drn, runD f) :: (f.li, limO f) :: (f.dli, limD f) :: (Z ++ R)) := by
    exact perm [0, 1, 12, 13, 14, 15, 16, 18, 19, 20, 21, 2, 3, 9, 10, 4, 11] 22 rfl
  have U2 : Uq ((x, instObj 66 dx) :: (dx, scD d (.ref r9)) :: (r, instObj 162 dr) :: (dr, refD rd a) :: (a, instObj c da) :: (da, thG g cnt tc tl k) :: (l, ol) :: (r9, instObj 162 dr9) :: (dr9, refD rd9 a9) :: (a9, instObj 85 da9) :: (da9, arD (tdUp td9 tc') l9) :: (l9, listOf #[] 0) :: fixedL f S.n S.tn zs' ze' (Z ++ R)) := (G.uq.perm P2).addr rfl
  have fit3 : Fits ((r, instObj 162 dr) :: (dr, refD rd a) :: (a, instObj c da) :: (da, thG g cnt tc tl k) :: (l, ol) :: (x, instObj 66 dx) :: (dx, scD d (.ref r9)) :: (r9, instObj 162 dr9) :: (dr9, refD rd9 a9) :: (a9, instObj 85 da9) :: (da9, arD (tdUp td9 tc') l9) :: (l9, listOf #[] 0) :: fixedL f S.n S.tn zs' ze' (Z ++ R)) ((x, instObj 66 dx) :: (dx, scD d (.ref r9)) :: (r, instObj 162 dr) :: (dr, refD rd a) :: (a, instObj c da) :: (da, thG g cnt tc tl k) :: (l, ol) :: (r9, instObj 162 dr9) :: (dr9, refD rd9 a9) :: (a9, instObj 85 da9) :: (da9, arD (tdUp td9 tc') l9) :: (l9, listOf #[] 0) :: fixedL f S.n S.tn zs' ze' (Z ++ R)) := by exact fits_of [2, 2, 2, 2, 2] rfl
  exact ⟨rfl, ⟨S.ps.set j ⟨x, dx, d, (.arr r9 dr9 a9 da9 l9 0 rd9 (tdUp td9 tc') #[])⟩, S.n, S.tn, zs', ze'⟩, ⟨((U2.fit fit3).drop5).perm P.symm, by simpa using G.len, CMs.set G.cm hn rfl ⟨by decide, .nil⟩⟩, fun q hq => hh q (has2 q (P.mem_iff.mp hq)), fun c y h => (congrFun (Xof_set (n' := ⟨x, dx, d, (.arr r9 dr9 a9 da9 l9 0 rd9 (tdUp td9 tc') #[])⟩) hn rfl) c).trans h, hz'⟩
theorem store_sr2 {prog : Program} {w : World} {f : Fix} {S : PS} {R : Led} {σ : List Cont} {j : Nat} {x dx r9 dr9 a9 da9 l9 : Nat} {d td9 : TD} {rd9 : RD} {ch r dr y dy : Nat} {d2 : TD} {rd : RD} {b2 : PB} {c2 : Cont} (ok : f.Ok prog w) (G : PGood prog w f S (newL r9 dr9 a9 da9 l9 rd9 td9 ++ R) σ) (hn : S.ps[j]? = some ⟨x, dx, d, .sc r dr y rd⟩) (hm : S.ps[ch]? = some ⟨y, dy, d2, b2⟩) (hc2 : σ[ch]? = some c2) (hne : j ≠ ch) (hz : S.zs.size ≤ 1000) :
    Tel prog w 509 [.ref f.ct, .ref x, .ref r9] 10 60 (S.led f (newL r9 dr9 a9 da9 l9 rd9 td9 ++ R)) (fun r n9 => r = .none ∧ ∃ S', PZ prog w f S S' R (σ.set j (.arr [])) n9) (fun xx9 => False) := by
  obtain ⟨Z, P0, P1⟩ := led_two (f := f) hne hn hm
  replace P0 := P0 (newL r9 dr9 a9 da9 l9 rd9 td9 ++ R)
  replace P1 := P1 R
  have P2 : (S.led f (newL r9 dr9 a9 da9 l9 rd9 td9 ++ R)).Perm ((x, instObj 66 dx) :: (dx, scD d (.ref r)) :: (r, instObj 162 dr) :: (dr, refD rd y) :: (y, instObj 66 dy) :: (dy, scD d2 b2.val) :: (r9, instObj 162 dr9) :: (dr9, refD rd9 a9) :: (a9, instObj 85 da9) :: (da9, arD td9 l9) :: (l9, listOf #[] 0) :: fixedL f S.n S.tn S.zs S.ze (b2.led ++ (Z ++ R))) :=
    P0.trans (List.Perm.append_left [(x, instObj 66 dx), (dx, scD d (.ref r)), (r, instObj 162 dr), (dr, refD rd y), (y, instObj 66 dy), (dy, scD d2 b2.val)] fixed_new2)
  have fit : Fits ((x, instObj 66 dx) :: (dx, scD d (.ref r)) :: (f.ct, ctrO f) :: (f.dct, ctrD f) :: (f.pl, f.po) :: (r, instObj 162 dr) :: (dr, refD rd y) :: (y, instObj 66 dy) :: (dy, scD d2 b2.val) :: (f.hp, heapO f) :: (f.dhp, heapD f S.n S.tn) :: (f.zr, listOf S.zs S.ze) :: (r9, instObj 162 dr9) :: (dr9, refD rd9 a9) :: (a9, instObj 85 da9) :: (da9, arD td9 l9) :: (l9, listOf #[] 0) :: (f.rn, runO f) :: (f.drn, runD f) :: (f.li, limO f) :: (f.dli, limD f) :: (b2.led ++ (Z ++ R))) ((x, instObj 66 dx) :: (dx, scD d (.ref r)) :: (r, instObj 162 dr) :: (dr, refD rd y) :: (y, instObj 66 dy) :: (dy, scD d2 b2.val) :: (r9, instObj 162 dr9) :: (dr9, refD rd9 a9) :: (a9, instObj 85 da9) :: (da9, arD td9 l9) :: (l9, listOf #[] 0) :: fixedL f S.n S.tn S.zs S.ze (b2.led ++ (Z ++ R))) := by exact fits_of [0, 0, 13, 13, 15, 0, 0, 0, 0, 9, 9, 9] rfl
  have U1 := (G.uq.perm P2).fit fit
  have K1 := U1.ne (d := dx) (by exact ext_of 1 rfl)
  have K2 := U1.ne (d := dy) (by exact ext_of 8 rfl)
  have K3 := U1.ne (d := f.zr) (by exact ext_of 11 rfl)
  have K4 := U1.ne (d := da9) (by exact ext_of 15 rfl)
  refine Tel.mono (store_ref0 (g0 := tgOf d2) (cnt0 := d2.cnt) (tc0 := d2.tc) (k0 := 8) (g := tgOf td9) (cnt := td9.cnt) (tc := td9.tc) (k := 8) ok.places ok.high (.inl rfl) (Nat.le_of_ble_eq_true rfl) hz (c := 85) (by decide) (Nat.le_of_ble_eq_true rfl) (by exact apart_of K1 [0, 1, 2, 3, 4, 5, 6, 7, 8, 9, 10, 11, 12, 13, 14] rfl) (fun p hp => K1 _ _ (by exact List.mem_of_mem_drop (i := 15) hp)) (by exact apart_of K2 [0, 2, 3, 4, 1, 5, 6, 7, 8, 9, 10, 11, 12, 13, 14] rfl) (fun p hp => K2 _ _ (by exact List.mem_of_mem_drop (i := 15) hp)) (by exact apart_of K3 [0, 2, 3, 4, 1, 5, 6, 7, 8, 9, 10, 11, 12, 13, 14] rfl) (fun p hp => K3 _ _ (by exact List.mem_of_mem_drop (i := 15) hp)) (by exact apart_of K4 [0, 2, 3, 4, 1, 5, 6, 7, 8, 9, 10, 11, 12, 13, 14] rfl) (fun p hp => K4 _ _ (by exact List.mem_of_mem_drop (i := 15) hp))) (fun q hq => P2.mem_iff.mpr (fit.has q hq)) ?_ fun xx9 h => h
  rintro v n9 ⟨cnt', tc', tc9, zs', ze', rfl, hh, hz'⟩
  have P := (P1 ⟨x, dx, d, (.arr r9 dr9 a9 da9 l9 0 rd9 (tdUp td9 tc') #[])⟩ ⟨y, dy, { d2 with cnt := cnt', tc := tc9 }, b2⟩ S.n S.tn zs' ze').trans (List.Perm.append_left ((x, instObj 66 dx) :: (dx, scD d (.ref r9)) :: (r9, instObj 162 dr9) :: (dr9, refD rd9 a9) :: (a9, instObj 85 da9) :: (da9, arD (tdUp td9 tc') l9) :: (l9, listOf #[] 0) :: [(y, instObj 66 dy), (dy, scD { d2 with cnt := cnt', tc := tc9 } b2.val)]) fixed_move.symm)
  have has2 : Has ((x, instObj 66 dx) :: (dx, scD d (.ref r9)) :: (r9, instObj 162 dr9) :: (dr9, refD rd9 a9) :: (a9, instObj 85 da9) :: (da9, arD (tdUp td9 tc') l9) :: (l9, listOf #[] 0) :: (y, instObj 66 dy) :: (dy, scD { d2 with cnt := cnt', tc := tc9 } b2.val) :: fixedL f S.n S.tn zs' ze' (b2.led ++ (Z ++ R))) ((x, instObj 66 dx) :: (dx, scD d (.ref r9)) :: (f.ct, ctrO f) :: (f.dct, ctrD f) :: (f.pl, f.po) :: (r, instObj 162 dr) :: (dr, refD rd y) :: (y, instObj 66 dy) :: (dy, scD { d2 with cnt := cnt', tc := tc9 } b2.val) :: (f.hp, heapO f) :: (f.dhp, heapD f S.n S.tn) :: (f.zr, listOf zs' ze') :: (r9, instObj 162 dr9) :: (dr9, refD rd9 a9) :: (a9, instObj 85 da9) :: (da9, arD (tdUp td9 tc') l9) :: (l9, listOf #[] 0) :: (f.rn, runO f) :: (f.drn, runD f) :: (f.li, limO f) :: (f.dli, limD f) :: (b2.led ++ (Z ++ R))) := by
    exact perm [0, 1, 12, 13, 14, 15, 16, 7, 8, 17, 18, 19, 20, 2, 3, 9, 10, 4, 11] 21 rfl
  have hm' : (S.ps.set j ⟨x, dx, d, (.arr r9 dr9 a9 da9 l9 0 rd9 (tdUp td9 tc') #[])⟩)[ch]? = some ⟨y, dy, d2, b2⟩ := by rw [List.getElem?_set_ne hne]; exact hm
  have C1 := CMs.set (n' := ⟨x, dx, d, (.arr r9 dr9 a9 da9 l9 0 rd9 (tdUp td9 tc') #[])⟩) (c' := .arr []) G.cm hn rfl ⟨by decide, .nil⟩
  have hc2' : (σ.set j (.arr []))[ch]? = some c2 := by rw [List.getElem?_set_ne hne]; exact hc2
  have hb2 := C1 ch _ _ hm' hc2'
  have C2 := CMs.set (n' := ⟨y, dy, { d2 with cnt := cnt', tc := tc9 }, b2⟩) C1 hm' rfl hb2
  rw [set_same hc2'] at C2
  have U2 : Uq ((x, instObj 66 dx) :: (dx, scD d (.ref r9)) :: (r, instObj 162 dr) :: (dr, refD rd y) :: (y, instObj 66 dy) :: (dy, scD { d2 with cnt := cnt', tc := tc9 } b2.val) :: (r9, instObj 162 dr9) :: (dr9, refD rd9 a9) :: (a9, instObj 85 da9) :: (da9, arD (tdUp td9 tc') l9) :: (l9, listOf #[] 0) :: fixedL f S.n S.tn zs' ze' (b2.led ++ (Z ++ R))) := (G.uq.perm P2).addr rfl
  have fit3 : Fits ((r, instObj 162 dr) :: (dr, refD rd y) :: (x, instObj 66 dx) :: (dx, scD d (.ref r9)) :: (r9, instObj 162 dr9) :: (dr9, refD rd9 a9) :: (a9, instObj 85 da9) :: (da9, arD (tdUp td9 tc') l9) :: (l9, listOf #[] 0) :: (y, instObj 66 dy) :: (dy, scD { d2 with cnt := cnt', tc := tc9 } b2.val) :: fixedL f S.n S.tn zs' ze' (b2.led ++ (Z ++ R))) ((x, instObj 66 dx) :: (dx, scD d (.ref r9)) :: (r, instObj 162 dr) :: (dr, refD rd y) :: (y, instObj 66 dy) :: (dy, scD { d2 with cnt := cnt', tc := tc9 } b2.val) :: (r9, instObj 162 dr9) :: (dr9, refD rd9 a9) :: (a9, instObj 85 da9) :: (da9, arD (tdUp td9 tc') l9) :: (l9, listOf #[] 0) :: fixedL f S.n S.tn zs' ze' (b2.led ++ (Z ++ R))) := by exact fits_of [2, 2, 0, 0, 2, 2, 2, 2, 2] rfl
  exact ⟨rfl, ⟨(S.ps.set j ⟨x, dx, d, (.arr r9 dr9 a9 da9 l9 0 rd9 (tdUp td9 tc') #[])⟩).set ch ⟨y, dy, { d2 with cnt := cnt', tc := tc9 }, b2⟩, S.n, S.tn, zs', ze'⟩, ⟨((U2.fit fit3).tl.tl).perm P.symm, by simpa using G.len, C2⟩, fun q hq => hh q (has2 q (P.mem_iff.mp hq)), fun c y' h => (congrFun (Xof_set (n' := ⟨y, dy, { d2 with cnt := cnt', tc := tc9 }, b2⟩) hm' rfl) c).trans ((congrFun (Xof_set (n' := ⟨x, dx, d, (.arr r9 dr9 a9 da9 l9 0 rd9 (tdUp td9 tc') #[])⟩) hn rfl) c).trans h), hz'⟩
end
section
set_option tactic.hygienic true in
theorem Dp.set {σ : List Cont} {dl : Nat → Nat} {j : Nat} {c' : Cont} (h : Dp σ dl) (hk : ∀ x ∈ c'.kids, x < σ.length ∧ dl x = dl j + 1) : Dp (σ.set j c') dl := by
  refine ⟨fun i c hi x hx => ?_, fun i hi => h.top i (by simpa using hi)⟩
  rw [List.length_set]
  rw [List.getElem?_set] at hi
  split at hi
  · rename_i e
    subst e
    split at hi
    · cases hi; exact hk x hx
    · cases hi
  · exact h.kid i c hi x hx
noncomputable def dlAdd (σ : List Cont) (dl : Nat → Nat) (d i : Nat) : Nat := if i = σ.length then d else dl i
theorem dlAdd_old {σ : List Cont} {dl : Nat → Nat} {d i : Nat} (h : i < σ.length) : dlAdd σ dl d i = dl i := if_neg (by omega)
theorem dlAdd_new {σ : List Cont} {dl : Nat → Nat} {d : Nat} : dlAdd σ dl d σ.length = d := if_pos rfl
theorem Dp.add {σ : List Cont} {dl : Nat → Nat} {d : Nat} (h : Dp σ dl) (hd : d ≤ 4) : Dp (σ ++ [Cont.none]) (dlAdd σ dl d) := by
  refine ⟨fun i c hi x hx => ?_, fun i hi => ?_⟩
  · by_cases hl : i < σ.length
    · rw [List.getElem?_append_left hl] at hi
      obtain ⟨a, b⟩ := h.kid i c hi x hx
      exact ⟨by simp; omega, by rw [dlAdd_old a, dlAdd_old hl]; exact b⟩
    · rw [List.getElem?_append_right (by omega)] at hi
      cases e : i - σ.length with
      | zero => rw [e] at hi; simp at hi; subst hi; cases hx
      | succ k => rw [e] at hi; simp at hi
  · by_cases hl : i < σ.length
    · rw [dlAdd_old hl]; exact h.top i hl
    · have : i = σ.length := by simp at hi; omega
      rw [this, dlAdd_new]; exact hd
theorem Sok.set {σ : List Cont} {j : Nat} {c' : Cont} (h : Sok σ) (hc : c'.sok) : Sok (σ.set j c') := by
  intro i c hi
  rw [List.getElem?_set] at hi
  split at hi
  · split at hi
    · cases hi; exact hc
    · cases hi
  · exact h i c hi
theorem Sok.add {σ : List Cont} (h : Sok σ) : Sok (σ ++ [Cont.none]) := by
  intro i c hi
  by_cases hl : i < σ.length
  · rw [List.getElem?_append_left hl] at hi; exact h i c hi
  · rw [List.getElem?_append_right (by omega)] at hi
    cases e : i - σ.length with
    | zero => rw [e] at hi; simp at hi; subst hi; trivial
    | succ k => rw [e] at hi; simp at hi
structure Kept (σ σ' : List Cont) (dl dl' : Nat → Nat) : Prop where
  dp : Dp σ' dl'
  sok : Sok σ'
  same : ∀ i, i < σ.length → dl' i = dl i
  len : σ.length ≤ σ'.length
theorem Kept.refl {σ : List Cont} {dl : Nat → Nat} (h : Dp σ dl) (k : Sok σ) : Kept σ σ dl dl := ⟨h, k, fun xx9 xx9 => rfl, Nat.le_refl _⟩
theorem Kept.trans {σ σ1 σ2 : List Cont} {dl dl1 dl2 : Nat → Nat} (a : Kept σ σ1 dl dl1) (b : Kept σ1 σ2 dl1 dl2) : Kept σ σ2 dl dl2 :=
  ⟨b.dp, b.sok, fun i h => (b.same i (Nat.lt_of_lt_of_le h a.len)).trans (a.same i h), Nat.le_trans a.len b.len⟩
theorem Kept.set {σ : List Cont} {dl : Nat → Nat} {j : Nat} {c' : Cont} (h : Dp σ dl) (k : Sok σ) (hc : c'.sok) (hk : ∀ x ∈ c'.kids, x < σ.length ∧ dl x = dl j + 1) : Kept σ (σ.set j c') dl dl :=
  ⟨h.set hk, k.set hc, fun xx9 xx9 => rfl, by simp⟩
theorem Kept.grow {σ : List Cont} {dl : Nat → Nat} {j : Nat} {c' : Cont} (h : Dp σ dl) (k : Sok σ) (hj : j < σ.length) (hd : dl j + 1 ≤ 4) (hc : c'.sok) (hk : ∀ x ∈ c'.kids, x = σ.length ∨ (x < σ.length ∧ dl x = dl j + 1)) :
    Kept σ ((σ ++ [Cont.none]).set j c') dl (dlAdd σ dl (dl j + 1)) := by
  refine ⟨(h.add hd).set fun x hx => ?_, k.add.set hc, fun i hi => dlAdd_old hi, by simp⟩
  rw [dlAdd_old hj]
  rcases hk x hx with rfl | ⟨a, b⟩
  · exact ⟨by simp, dlAdd_new⟩
  · exact ⟨by simp; omega, by rw [dlAdd_old a]; exact b⟩
theorem vivS_kept {σ σ1 : List Cont} {dl : Nat → Nat} {j : Nat} {k : Kd} (h : Dp σ dl) (s : Sok σ) (hd : dl j + 1 ≤ 4) (e : vivS σ j k = some σ1) : ∃ dl1, Kept σ σ1 dl dl1 := by
  unfold vivS at e
  cases hc : σ[j]? with
  | none => rw [hc] at e; cases e
  | some c =>
    obtain ⟨hj, -⟩ := List.getElem?_eq_some_iff.mp hc
    rw [hc] at e
    cases c with
    | none =>
      cases k with
      | A => cases e; exact ⟨dl, Kept.set h s trivial (fun x hx => nomatch hx)⟩
      | H => cases e; exact ⟨dl, Kept.set h s (fun p hp => nomatch hp) (fun x hx => nomatch hx)⟩
      | S => cases e; exact ⟨_, Kept.grow h s hj hd trivial fun x hx => .inl (List.mem_singleton.mp hx)⟩
    | _ =>
      dsimp only at e
      split at e
      · cases e; exact ⟨dl, Kept.refl h s⟩
      · cases e
theorem kids_arr_set {items : List (Option Nat)} {q n x : Nat} (hx : x ∈ (Cont.arr (items.set q (some n))).kids) : x = n ∨ x ∈ (Cont.arr items).kids := by
  obtain ⟨o, ho, e⟩ := List.mem_filterMap.mp hx
  rcases List.mem_or_eq_of_mem_set ho with h | h
  · exact .inr (List.mem_filterMap.mpr ⟨o, h, e⟩)
  · subst h; cases e; exact .inl rfl
theorem kids_arr_app {items : List (Option Nat)} {k x : Nat} (hx : x ∈ (Cont.arr (items ++ List.replicate k Option.none)).kids) : x ∈ (Cont.arr items).kids := by
  obtain ⟨o, ho, e⟩ := List.mem_filterMap.mp hx
  rcases List.mem_append.mp ho with h | h
  · exact List.mem_filterMap.mpr ⟨o, h, e⟩
  · rw [(List.mem_replicate.mp h).2] at e; cases e
set_option tactic.hygienic true in
theorem elemS_kept {σ σ2 : List Cont} {dl : Nat → Nat} {j c : Nat} {i : Int} (h : Dp σ dl) (s : Sok σ) (hd : dl j + 1 ≤ 4) (e : elemS σ j i = some (σ2, c)) : ∃ dl2, Kept σ σ2 dl dl2 ∧ c < σ2.length ∧ dl2 c = dl j + 1 := by
  unfold elemS at e
  split at e
  · rename_i items hc
    obtain ⟨hj, -⟩ := List.getElem?_eq_some_iff.mp hc
    split at e
    · cases e
    · split at e <;> cases e
      · rename_i hi
        obtain ⟨a, b⟩ := h.kid j _ hc c (mem_kids_arr hi)
        exact ⟨dl, Kept.refl h s, a, b⟩
      · exact ⟨_, Kept.grow h s hj hd trivial fun x hx => (kids_arr_set hx).imp id fun h' => h.kid j _ hc x h', by simp, dlAdd_new⟩
      · exact ⟨_, Kept.grow h s hj hd trivial fun x hx => (kids_arr_set hx).imp id fun h' => h.kid j _ hc x (kids_arr_app h'), by simp, dlAdd_new⟩
  · cases e
theorem look_mem {ks : List (Str × Nat)} {k : Str} {c : Nat} (h : lookS ks k = some c) : c ∈ (Cont.hash ks).kids := by
  unfold lookS at h
  obtain ⟨p, hp, rfl⟩ := Option.map_eq_some_iff.mp h
  exact List.mem_map.mpr ⟨p, List.mem_of_find?_eq_some hp, rfl⟩
set_option tactic.hygienic true in
theorem helemS_kept {σ σ2 : List Cont} {dl : Nat → Nat} {j c : Nat} {k : Str} (h : Dp σ dl) (s : Sok σ) (hd : dl j + 1 ≤ 4) (hk : PyData.strOk k = true) (e : helemS σ j k = some (σ2, c)) : ∃ dl2, Kept σ σ2 dl dl2 ∧ c < σ2.length ∧ dl2 c = dl j + 1 := by
  unfold helemS at e
  split at e
  · rename_i ks hc
    obtain ⟨hj, -⟩ := List.getElem?_eq_some_iff.mp hc
    split at e <;> cases e
    · rename_i hl
      obtain ⟨a, b⟩ := h.kid j _ hc c (look_mem hl)
      exact ⟨dl, Kept.refl h s, a, b⟩
    · refine ⟨_, Kept.grow h s hj hd ?_ fun x hx => ?_, by simp, dlAdd_new⟩
      · intro p hp
        rcases List.mem_append.mp hp with h' | h'
        · exact s j _ hc p h'
        · rw [List.mem_singleton.mp h']; exact hk
      · obtain ⟨p, hp, rfl⟩ := List.mem_map.mp hx
        rcases List.mem_append.mp hp with h' | h'
        · exact .inr (h.kid j _ hc _ (List.mem_map.mpr ⟨p, h', rfl⟩))
        · rw [List.mem_singleton.mp h']; exact .inl rfl
  · cases e
set_option tactic.hygienic true in
theorem stepS_kept {σ σ2 : List Cont} {dl : Nat → Nat} {j : Nat} {st : Stp} {r : Option Nat} (h : Dp σ dl) (s : Sok σ) (hj : j < σ.length) (hd : dl j + 1 ≤ 4) (hk : ∀ k, st = .H k → PyData.strOk k = true) (e : stepS σ j st = (σ2, r)) : ∃ dl2, Kept σ σ2 dl dl2 ∧ ∀ c, r = some c → c < σ2.length ∧ dl2 c = dl j + 1 := by
  unfold stepS at e
  cases hv : vivS σ j st.kd with
  | none => rw [hv] at e; cases e; exact ⟨dl, Kept.refl h s, fun c hc => nomatch hc⟩
  | some σ1 =>
    rw [hv] at e
    obtain ⟨dl1, K1⟩ := vivS_kept h s hd hv
    have hd1 : dl1 j + 1 ≤ 4 := by rw [K1.same j hj]; exact hd
    cases st with
    | A i =>
      dsimp only at e
      cases he : elemS σ1 j i with
      | none => rw [he] at e; cases e; exact ⟨dl1, K1, fun c hc => nomatch hc⟩
      | some p =>
        obtain ⟨σ3, c3⟩ := p
        rw [he] at e
        cases e
        obtain ⟨dl2, K2, a, b⟩ := elemS_kept K1.dp K1.sok hd1 he
        exact ⟨dl2, K1.trans K2, fun c hc => by cases hc; exact ⟨a, by rw [b, K1.same j hj]⟩⟩
    | H k =>
      dsimp only at e
      cases he : helemS σ1 j k with
      | none => rw [he] at e; cases e; exact ⟨dl1, K1, fun c hc => nomatch hc⟩
      | some p =>
        obtain ⟨σ3, c3⟩ := p
        rw [he] at e
        cases e
        obtain ⟨dl2, K2, a, b⟩ := helemS_kept K1.dp K1.sok hd1 (hk k rfl) he
        exact ⟨dl2, K1.trans K2, fun c hc => by cases hc; exact ⟨a, by rw [b, K1.same j hj]⟩⟩
    | S =>
      dsimp only at e
      split at e
      · rename_i c3 hc3
        cases e
        obtain ⟨a, b⟩ := K1.dp.kid j _ hc3 c3 (.head _)
        exact ⟨dl1, K1, fun c hc => by cases hc; exact ⟨a, by rw [b, K1.same j hj]⟩⟩
      · cases e; exact ⟨dl1, K1, fun c hc => nomatch hc⟩
theorem walkS_kept : ∀ {path : List Stp} {σ σ2 : List Cont} {dl : Nat → Nat} {j : Nat} {r : Option Nat}, Dp σ dl → Sok σ → j < σ.length → dl j + path.length ≤ 4 → SokP path → walkS σ j path = (σ2, r) → ∃ dl2, Kept σ σ2 dl dl2 ∧ ∀ c, r = some c → c < σ2.length ∧ dl2 c = dl j + path.length
  | [], σ, σ2, dl, j, r, h, s, hj, _, _, e => by cases e; exact ⟨dl, Kept.refl h s, fun c hc => by cases hc; exact ⟨hj, rfl⟩⟩
  | st :: path, σ, σ2, dl, j, r, h, s, hj, hd, hk, e => by
    rw [walkS] at e
    rw [List.length_cons] at hd
    cases hs : stepS σ j st with
    | mk σ1 r1 =>
      obtain ⟨dl1, K1, hc1⟩ := stepS_kept h s hj (by omega) (fun k e => hk k (e ▸ .head _)) hs
      rw [hs] at e
      cases r1 with
      | none => cases e; exact ⟨dl1, K1, fun c hc => nomatch hc⟩
      | some c1 =>
        obtain ⟨a, b⟩ := hc1 c1 rfl
        obtain ⟨dl2, K2, hc2⟩ := walkS_kept (path := path) K1.dp K1.sok a (by rw [b]; omega) (fun k hm => hk k (.tail _ hm)) e
        exact ⟨dl2, K1.trans K2, fun c hc => by obtain ⟨x, y⟩ := hc2 c hc; exact ⟨x, by rw [y, b, List.length_cons]; omega⟩⟩
theorem Wf.viv1 {σ σ1 : List Cont} {j n : Nat} {k : Kd} (W : Wf σ (n + 1)) (h : vivS σ j k = some σ1) : Wf σ1 n := by
  obtain ⟨a, b, d, e⟩ := W.viv h
  have := W.len
  exact ⟨by omega, a⟩
theorem stepS_wf {σ σ2 : List Cont} {j n : Nat} {st : Stp} {r : Option Nat} (W : Wf σ (n + 1)) (e : stepS σ j st = (σ2, r)) : Wf σ2 n := by
  unfold stepS at e
  cases hv : vivS σ j st.kd with
  | none => rw [hv] at e; cases e; exact W.less
  | some σ1 =>
    rw [hv] at e
    cases st with
    | A i =>
      dsimp only at e
      cases he : elemS σ1 j i with
      | none => rw [he] at e; cases e; exact W.viv1 hv
      | some p => obtain ⟨σ3, c3⟩ := p; rw [he] at e; cases e; exact Wf.A W hv he
    | H k =>
      dsimp only at e
      cases he : helemS σ1 j k with
      | none => rw [he] at e; cases e; exact W.viv1 hv
      | some p => obtain ⟨σ3, c3⟩ := p; rw [he] at e; cases e; exact Wf.H W hv he
    | S =>
      dsimp only at e
      split at e <;> (cases e; exact W.viv1 hv)
theorem walkS_wf : ∀ {path : List Stp} {σ σ2 : List Cont} {j n : Nat} {r : Option Nat}, Wf σ (path.length + n) → walkS σ j path = (σ2, r) → Wf σ2 n
  | [], σ, σ2, j, n, r, W, e => by cases e; rw [List.length_nil, Nat.zero_add] at W; exact W
  | st :: path, σ, σ2, j, n, r, W, e => by
    rw [walkS] at e
    rw [List.length_cons, Nat.add_right_comm] at W
    cases hs : stepS σ j st with
    | mk σ1 r1 =>
      have W1 := stepS_wf W hs
      rw [hs] at e
      cases r1 with
      | none => cases e; exact ⟨by have := W1.len; omega, W1.hash⟩
      | some c1 => exact walkS_wf (path := path) W1 e
theorem Wf.store {σ : List Cont} {j n : Nat} {c : Cont} (W : Wf σ n) (hc : ∀ ks, c = .hash ks → ks = []) : Wf (σ.set j c) n :=
  ⟨by rw [List.length_set]; exact W.len, fun i ks hi => by
    rw [List.length_set]
    rcases set_hash hi with h | h
    · rw [hc ks h]; exact Nat.zero_le _
    · exact W.hash i ks h⟩
end
section
theorem Dp.ne {σ : List Cont} {dl : Nat → Nat} (h : Dp σ dl) {j ch : Nat} (hc : σ[j]? = some (.sc ch)) : j ≠ ch := fun e => by
  have := (h.kid j _ hc ch (.head _)).2
  rw [e] at this
  omega
set_option tactic.hygienic true in
theorem store_p {prog : Program} {w : World} {f : Fix} {S : PS} {R : Led} {σ : List Cont} {dl : Nat → Nat} {j x : Nat} {b' : PB} {c' : Cont} (ok : f.Ok prog w) (G : PGood prog w f S R σ) (dp : Dp σ dl) (hx : Xof S.ps j = some x) (hz : S.zs.size ≤ 1000) (hb' : b'.led = []) (h1 : Plain b'.val) (hcm : CM prog w (Xof S.ps) b' c') :
    Tel prog w 509 [.ref f.ct, .ref x, b'.val] 10 60 (S.led f R) (fun r n9 => r = .none ∧ ∃ S', PZ prog w f S S' R (σ.set j c') n9) (fun xx9 => False) := by
  obtain ⟨⟨x, dx, d, b⟩, hn, rfl⟩ := Option.map_eq_some_iff.mp hx
  obtain ⟨hj, -⟩ := List.getElem?_eq_some_iff.mp hn
  have hc0 : σ[j]? = some (σ[j]'(by rw [← G.len]; exact hj)) := List.getElem?_eq_getElem _
  generalize σ[j]'(by rw [← G.len]; exact hj) = c0 at hc0
  have hb := G.cm _ _ _ hn hc0
  dsimp only
  cases b with
  | none => exact store_sp0 ok G hn rfl (.inl rfl) hb' h1 hcm
  | int n t => exact store_sp0 ok G hn rfl (.inr (.inl ⟨_, _, rfl⟩)) hb' h1 hcm
  | str n t => exact store_sp0 ok G hn rfl (.inr (.inr ⟨_, _, rfl⟩)) hb' h1 hcm
  | arr r dr a da l e rd td vs => exact store_arr ok G hn hz hb' h1 hcm
  | hash r dr a da l rd td i9 t9 ot kvs => exact store_hash ok G hn hz hb' h1 hcm
  | sc r dr y rd =>
    cases c0 <;> try exact hb.elim
    rename_i ch
    obtain ⟨⟨y, dy, d2, b2⟩, hm, rfl⟩ := Option.map_eq_some_iff.mp hb
    obtain ⟨hch, -⟩ := List.getElem?_eq_some_iff.mp hm
    exact store_sp2 ok G hn hm (List.getElem?_eq_getElem (by rw [← G.len]; exact hch)) (dp.ne hc0) hz hb' h1 hcm
set_option tactic.hygienic true in
theorem store_a {prog : Program} {w : World} {f : Fix} {S : PS} {R : Led} {σ : List Cont} {dl : Nat → Nat} {j x r9 dr9 a9 da9 l9 : Nat} {td9 : TD} {rd9 : RD} (ok : f.Ok prog w) (G : PGood prog w f S (newL r9 dr9 a9 da9 l9 rd9 td9 ++ R) σ) (dp : Dp σ dl) (hx : Xof S.ps j = some x) (hz : S.zs.size ≤ 1000) :
    Tel prog w 509 [.ref f.ct, .ref x, .ref r9] 10 60 (S.led f (newL r9 dr9 a9 da9 l9 rd9 td9 ++ R)) (fun r n9 => r = .none ∧ ∃ S', PZ prog w f S S' R (σ.set j (.arr [])) n9) (fun xx9 => False) := by
  obtain ⟨⟨x, dx, d, b⟩, hn, rfl⟩ := Option.map_eq_some_iff.mp hx
  obtain ⟨hj, -⟩ := List.getElem?_eq_some_iff.mp hn
  have hc0 : σ[j]? = some (σ[j]'(by rw [← G.len]; exact hj)) := List.getElem?_eq_getElem _
  generalize σ[j]'(by rw [← G.len]; exact hj) = c0 at hc0
  have hb := G.cm _ _ _ hn hc0
  dsimp only
  cases b with
  | none => exact store_sr0 ok G hn rfl (.inl rfl)
  | int n t => exact store_sr0 ok G hn rfl (.inr (.inl ⟨_, _, rfl⟩))
  | str n t => exact store_sr0 ok G hn rfl (.inr (.inr ⟨_, _, rfl⟩))
  | arr r dr a da l e rd td vs => exact store_sr1 (g := tgOf td) (cnt := td.cnt) (tc := td.tc) (k := 8) (l := l) (ol := listOf vs e) ok G hn rfl rfl (by decide) (Nat.le_of_ble_eq_true rfl) hz
  | hash r dr a da l rd td i9 t9 ot kvs => exact store_sr1 (g := tgOf td) (cnt := td.cnt) (tc := td.tc) (k := 9) (l := l) (ol := ot) ok G hn rfl rfl (by decide) (Nat.le_of_ble_eq_true rfl) hz
  | sc r dr y rd =>
    cases c0 <;> try exact hb.elim
    rename_i ch
    obtain ⟨⟨y, dy, d2, b2⟩, hm, rfl⟩ := Option.map_eq_some_iff.mp hb
    obtain ⟨hch, -⟩ := List.getElem?_eq_some_iff.mp hm
    exact store_sr2 ok G hn hm (List.getElem?_eq_getElem (by rw [← G.len]; exact hch)) (dp.ne hc0) hz
end
section
theorem m_one {m : Str → Option Value} {k1 : Str} {v1 : Value} (h1 : m k1 = some v1) : m = fun y => if y = k1 then some v1 else m y := by
  funext y
  by_cases e1 : y = k1
  · rw [if_pos e1, e1]; exact h1
  · rw [if_neg e1]
structure LJ (prog : Program) (w : World) (f : Fix) (S : PS) (os : List ON) (R : Led) (σ : List Cont) (dl : Nat → Nat) (k : Nat) : Prop where
  ok : f.Ok prog w
  G : PGood prog w f S (OL os R) σ
  O : OGood prog w os (S.led f R) σ
  dp : Dp σ dl
  sk : Sok σ
  wf : Wf σ k
  d0 : dl 0 = 0
  d1 : dl 1 = 0
  len : 2 ≤ σ.length
  zs : S.zs.size + k ≤ 900
theorem LJ.hz {prog : Program} {w : World} {f : Fix} {S : PS} {os : List ON} {R : Led} {σ : List Cont} {dl : Nat → Nat} {k : Nat} (J : LJ prog w f S os R σ dl k) : ∀ (j : Nat) (ks : List (Str × Nat)), σ[j]? = some (.hash ks) → ks.length ≤ 1000 := fun j ks h => by
  have h1 := J.wf.hash j ks h
  have h2 := J.wf.len
  omega
structure Wh (S : PS) (os : List ON) (R : Led) (ls lc e1 e2 : Nat) (vx vc : Array Value) (wi : Int) (j x c : Nat) : Prop where
  hj : j < 2
  hw : wi = (j : Int)
  hx : Xof S.ps j = some x
  hc : Cof os j = some c
  ms : (ls, listOf vx e1) ∈ R
  mc : (lc, listOf vc e2) ∈ R
  ix : vx[wi.toNat]? = some (.ref x)
  ic : vc[wi.toNat]? = some (.ref c)
  zx : vx.size = 2
  zc : vc.size = 2
structure Rows2 (S : PS) (os : List ON) (R : Led) (ls lc e1 e2 : Nat) (x0 x1 c0 c1 : Nat) : Prop where
  hx0 : Xof S.ps 0 = some x0
  hx1 : Xof S.ps 1 = some x1
  hc0 : Cof os 0 = some c0
  hc1 : Cof os 1 = some c1
  ms : (ls, listOf #[.ref x0, .ref x1] e1) ∈ R
  mc : (lc, listOf #[.ref c0, .ref c1] e2) ∈ R
theorem Rows2.wh {S : PS} {os : List ON} {R : Led} {ls lc e1 e2 x0 x1 c0 c1 : Nat} (h : Rows2 S os R ls lc e1 e2 x0 x1 c0 c1) {wi : Int} (h0 : 0 ≤ wi) (h1 : wi < 2) : ∃ j x c, Wh S os R ls lc e1 e2 #[.ref x0, .ref x1] #[.ref c0, .ref c1] wi j x c := by
  have : wi = 0 ∨ wi = 1 := by omega
  rcases this with rfl | rfl
  · exact ⟨0, x0, c0, by omega, rfl, h.hx0, h.hc0, h.ms, h.mc, rfl, rfl, rfl, rfl⟩
  · exact ⟨1, x1, c1, by omega, rfl, h.hx1, h.hc1, h.ms, h.mc, rfl, rfl, rfl, rfl⟩
theorem Uq.glue {A G : Led} (h : Uq A) (k : Uq G) (ab : ∀ q ∈ A, Above q.1 G) : Uq (A ++ G) := by
  unfold Uq at *
  rw [List.map_append, List.nodup_append]
  refine ⟨h, k, fun a ha b hb e => ?_⟩
  obtain ⟨p, hp, rfl⟩ := List.mem_map.mp ha
  obtain ⟨q, hq, rfl⟩ := List.mem_map.mp hb
  have h1 := ab p hp q hq
  rw [e] at h1
  exact Nat.lt_irrefl _ h1
theorem led_app {f : Fix} {S : PS} {A R : Led} : (S.led f (A ++ R)).Perm (A ++ S.led f R) := by
  induction A with
  | nil => exact .refl _
  | cons q A ih => exact led_cons.trans (ih.cons q)
theorem ol_app {os : List ON} {A R : Led} : (OL os (A ++ R)).Perm (A ++ OL os R) := by
  induction A with
  | nil => exact .refl _
  | cons q A ih => exact ol_cons.trans (ih.cons q)
theorem both_app {f : Fix} {S : PS} {os : List ON} {A R : Led} : (S.led f (OL os (A ++ R))).Perm (A ++ S.led f (OL os R)) := by
  refine comb_perm.trans ?_
  refine List.Perm.trans ?_ (List.Perm.append_left A comb_perm.symm)
  have h1 : (OL os (S.led f (A ++ R))).Perm (OL os (A ++ S.led f R)) := List.Perm.append_left _ led_app
  exact h1.trans ol_app
theorem LJ.grow {prog : Program} {w : World} {f : Fix} {S : PS} {os : List ON} {R A : Led} {σ : List Cont} {dl : Nat → Nat} {k : Nat} (J : LJ prog w f S os R σ dl k) (uq : Uq A) (ab : ∀ q ∈ A, Above q.1 (S.led f (OL os R))) : LJ prog w f S os (A ++ R) σ dl k :=
  have U : Uq (S.led f (OL os (A ++ R))) := (Uq.glue uq J.G.uq ab).perm both_app.symm
  ⟨J.ok, ⟨U, J.G.len, J.G.cm⟩, ⟨U.perm comb_perm, J.O.len, J.O.cm⟩, J.dp, J.sk, J.wf, J.d0, J.d1, J.len, J.zs⟩
theorem LJ.less {prog : Program} {w : World} {f : Fix} {S : PS} {os : List ON} {R A : Led} {σ : List Cont} {dl : Nat → Nat} {k : Nat} (J : LJ prog w f S os (A ++ R) σ dl k) : LJ prog w f S os R σ dl k := by
  have U : Uq (S.led f (OL os R)) := by
    have h := J.G.uq.perm both_app
    unfold Uq at *
    rw [List.map_append] at h
    exact (List.nodup_append.mp h).2.1
  exact ⟨J.ok, ⟨U, J.G.len, J.G.cm⟩, ⟨U.perm comb_perm, J.O.len, J.O.cm⟩, J.dp, J.sk, J.wf, J.d0, J.d1, J.len, J.zs⟩
theorem Wh.grow {S : PS} {os : List ON} {R A : Led} {ls lc e1 e2 : Nat} {vx vc : Array Value} {wi : Int} {j x c : Nat} (h : Wh S os R ls lc e1 e2 vx vc wi j x c) : Wh S os (A ++ R) ls lc e1 e2 vx vc wi j x c :=
  ⟨h.hj, h.hw, h.hx, h.hc, List.mem_append_right _ h.ms, List.mem_append_right _ h.mc, h.ix, h.ic, h.zx, h.zc⟩
theorem base_has {f : Fix} {S : PS} {os : List ON} {R : Led} : Has R (S.led f (OL os R)) := fun p hp => rest_has _ (orest_has _ hp)
theorem pl_high {prog : Program} {w : World} {f : Fix} {S : PS} {T : Led} {pl : Nat} (ok : f.Ok prog w) (h : Above pl (S.led f T)) : 1 < pl := by
  have := ok.high
  have h1 : @LT.lt Nat _ f.pl pl := h (f.pl, f.po) (.tail _ (.tail _ (.tail _ (.tail _ (.tail _ (.tail _ (.tail _ (.tail _ (.head _)))))))))
  omega
theorem path_has {f : Fix} {S : PS} {os : List ON} {R A X : Led} (hX : Has (S.led f (OL os R)) X) : Has (S.led f (OL os (A ++ R))) (A ++ X) := fun p hp =>
  (List.mem_append.mp (both_app.mem_iff.mp hp)).elim (List.mem_append_left _) fun h => List.mem_append_right _ (hX p h)
end
section
section
variable {prog : Program} {w : World} {A : Around} {E : Value → Shared → Prop} {s : Shared} {h₀ : Heap} {L : Addr}
theorem intsAt {vs : List Value} {ns : List Int} (h : IntsAre vs ns) : ∀ k : Nat, k < ns.length → ∃ x t, ns[k]? = some x ∧ vs[k]? = some (.int x t) := by
  induction h with
  | nil => exact fun k h => absurd h (Nat.not_lt_zero _)
  | cons n t _ ih =>
    intro k h
    cases k with
    | zero => exact ⟨n, t, rfl, rfl⟩
    | succ k => exact ih k (Nat.lt_of_succ_lt_succ h)
end
noncomputable def PathOut (GL : Led) (v : Value) (n' : Led) : Prop := ∃ (pl e : Nat) (vs : List Value) (path : List Stp) (new : Led), v = .ref pl ∧ Has ((pl, listOf vs.toArray e) :: (new ++ GL)) n' ∧ All2 (StepR new) vs path ∧ path.length ≤ 4 ∧ Above pl GL ∧ (∀ q ∈ new, Above q.1 GL) ∧ Uq ((pl, listOf vs.toArray e) :: new) ∧ SokP path
theorem path_out {prog : Program} {w : World} {n : Int} {tn : Tok} {GL : Led} (h0 : 0 ≤ n) (h1 : n < 1000000000000) : Tel prog w 612 [.int n tn] 60 300 GL (PathOut GL) (fun xx9 => False) := path_tel h0 h1
theorem div_mod {x n : Int} (h : n = ((if x < 0 then -x else x).fmod (10 ^ Int.toNat 12))) : 0 ≤ n ∧ n < 1000000000000 ∧ 0 ≤ n.fmod 2 ∧ n.fmod 2 < 2 ∧ 0 ≤ n.fdiv 2 ∧ n.fdiv 2 < 1000000000000 := by
  have e : (10 ^ Int.toNat 12 : Int) = 1000000000000 := by decide
  rw [e] at h
  have a := Int.fmod_nonneg_of_pos (if x < 0 then -x else x) (b := 1000000000000) (by decide)
  have b := Int.fmod_lt_of_pos (if x < 0 then -x else x) (b := 1000000000000) (by decide)
  rw [← h] at a b
  refine ⟨a, b, Int.fmod_nonneg_of_pos _ (by decide), Int.fmod_lt_of_pos _ (by decide), Int.fdiv_nonneg a (by decide), ?_⟩
  rw [Int.fdiv_eq_ediv_of_nonneg _ (by decide)]
  omega
theorem look_skip {l : List (Str × Value)} {m : Str → Option Value} {x y : Str} {v : Value} (h : y ≠ x) : look ⟨(x, v) :: l, m⟩ y = look ⟨l, m⟩ y := by
  have e := congrFun (look_add (ml := ⟨l, m⟩) (x := x) (v := v)) y
  exact e.trans (if_neg h)
theorem law_1 {prog : Program} {w : World} {f : Fix} {S : PS} {os : List ON} {σ : List Cont} {dl : Nat → Nat} {k : Nat} {m : Str → Option Value} {ln e e1 e2 x0 x1 c0 c1 : Nat} {nv : List Value} {ns : List Int} {i : Int} {ti : Tok} {ls lc : Nat} {R : Led} (J : LJ prog w f S os R σ dl k) (W : Rows2 S os R ls lc e1 e2 x0 x1 c0 c1) (hln : (ln, listOf nv.toArray e) ∈ R)
    (hi : IntsAre nv ns) (hz : ns.length ≤ 20) (hi0 : 0 ≤ i) (hi1 : i + 1 < ns.length) (h1 : m "numbers" = some (.ref ln)) (h2 : m "at" = some (.int i ti)) (h3 : m "scalars" = some (.ref ls)) (h4 : m "cells" = some (.ref lc)) :
    Lw prog w [fst 0, fst 1, fst 2, fst 3] m (S.led f (OL os R)) (fun m' n' => ∃ (A : Led) (pl e9 : Nat) (vs : List Value) (path : List Stp) (wi what : Int) (tw tw2 : Tok) (j x c : Nat), n' = S.led f (OL os (A ++ R)) ∧ LJ prog w f S os (A ++ R) σ dl k ∧ (pl, listOf vs.toArray e9) ∈ A ∧ All2 (StepR A) vs path ∧ path.length ≤ 4 ∧ SokP path ∧ 1 < pl ∧
      Wh S os R ls lc e1 e2 #[.ref x0, .ref x1] #[.ref c0, .ref c1] wi j x c ∧ m' "path" = some (.ref pl) ∧ m' "which" = some (.int wi tw) ∧ m' "what" = some (.int what tw2) ∧ ∀ y : Str, y ≠ "n" → y ≠ "what" → y ≠ "which" → y ≠ "path" → m' y = m y) := by
  generalize q0 : fst 0 = s0
  (conv at q0 => lhs; whnf)
  generalize q1 : fst 1 = s1
  (conv at q1 => lhs; whnf)
  generalize q2 : fst 2 = s2
  (conv at q2 => lhs; whnf)
  generalize q3 : fst 3 = s3
  (conv at q3 => lhs; whnf)
  subst q0 q1 q2 q3
  have hB : Has R (S.led f (OL os R)) := fun p hp => base_has _ hp
  obtain ⟨xa, ta, -, ha⟩ := intsAt hi i.toNat (by omega)
  obtain ⟨xb, tb, -, hb⟩ := intsAt hi (i + 1).toNat (by omega)
  replace ha : nv.toArray[i.toNat]? = some (.int xa ta) := by simpa using ha
  replace hb : nv.toArray[(i + 1).toNat]? = some (.int xb tb) := by simpa using hb
  have hnz : nv.toArray.size ≤ 1000 := by have := hi.length; simp; omega
  refine Lw.ofM (l := [("numbers", .ref ln), ("at", .int i ti), ("scalars", .ref ls), ("cells", .ref lc)]) (by kernel_rfl) (look_add1 (look_add1 (look_add1 (look_add1 look_base h4) h3) h2) h1) fun a ccd Q q => ?_
  intro Γ
  refine M.swap2 rfl rfl (fun xx9 => rfl) (fun xx9 => by kernel_rfl) ?_
  refine M.item (hB _ hln) hi0 hnz ha (by with_unfolding_all rfl) ?_
  refine M.absI fun t1 => ?_
  intro t2 t3
  refine M.pow12 fun t4 => ?_
  refine M.mod (by decide) fun t5 => ?_
  generalize hn : (if xa < 0 then -xa else xa).fmod (10 ^ Int.toNat 12) = n
  obtain ⟨g0, g1, g2, g3, g4, g5⟩ := div_mod hn.symm
  intro t6
  refine M.add fun t7 => ?_
  refine M.item (hB _ hln) (by omega) hnz hb (by with_unfolding_all rfl) ?_
  refine M.newTuple (Nat.le_of_ble_eq_true rfl) fun T hT => ?_
  refine M.swapped (.head _) ?_
  intro t8
  refine M.mod (by decide) fun t9 => ?_
  intro t10
  refine M.fdiv2 fun t11 => ?_
  refine M.tel (path_out (GL := S.led f (OL os R)) g4 g5) (fun xx9 h => .tail _ h) (Nat.le_of_ble_eq_true rfl) (Nat.le_of_ble_eq_true rfl) (fun xx9 h => h.elim) ?_
  rintro _ G1 ⟨pl, e9, vs, path, new, rfl, hh, hA, hl, ab, abn, uq, sok⟩
  obtain ⟨j, x, c, V⟩ := W.wh g2 g3
  have J2 := J.grow uq (fun q hq => by
    rcases List.mem_cons.mp hq with rfl | hq
    · exact ab
    · exact abn q hq)
  have V2 := V.grow (A := (pl, listOf vs.toArray e9) :: new)
  have hA2 : All2 (StepR ((pl, listOf vs.toArray e9) :: new)) vs path := hA.mono (StepR.mono fun p hp => .tail _ hp)
  have hS : Has (S.led f (OL os ((pl, listOf vs.toArray e9) :: new ++ R))) G1 := fun p hp => hh p (path_has (A := (pl, listOf vs.toArray e9) :: new) (fun xx9 h => h) p hp)
  have hR : Has R G1 := fun p hp => hh p (.tail _ (List.mem_append_right _ (hB p hp)))
  refine M.item (hR _ W.ms) g2 (Nat.le_of_ble_eq_true rfl) V.ix (by with_unfolding_all rfl) ?_
  refine M.item (hR _ W.mc) g2 (Nat.le_of_ble_eq_true rfl) V.ic (by with_unfolding_all rfl) ?_
  refine M.tel (looked_tel J2.G J2.O J2.dp J2.hz J2.sk V2.hx V2.hc (pl := pl) (e := e9) (List.mem_append_left _ (.head _)) (hA2.mono (StepR.mono fun p hp => List.mem_append_left _ hp))) hS (Nat.le_of_ble_eq_true rfl) (Nat.le_of_ble_eq_true rfl) (fun xx9 h => h.elim) ?_
  rintro _ G2 ⟨rfl, hs2⟩
  exact q _ _ _ hs2 ⟨_, pl, e9, vs, path, _, _, _, _, j, x, c, rfl, J2, .head _, hA2, hl, sok, pl_high J.ok ab, V, look_at rfl, look_at rfl, look_at rfl, fun y a b c d => by
    have e := congrFun (look_add1 (look_add1 (look_add1 (look_add1 look_base h4) h3) h2) h1) y
    refine (look_skip ?_).trans ?_
    rotate_left
    refine (look_skip ?_).trans ?_
    rotate_left
    refine (look_skip ?_).trans ?_
    rotate_left
    refine (look_skip ?_).trans ?_
    rotate_left
    exact e
    all_goals assumption⟩
end
section
noncomputable def GvOk (os : List ON) : Option Nat → Value → Prop
  | some c, gv => ∃ y, Cof os c = some y ∧ gv = .ref y
  | none, gv => gv = .none
noncomputable def OwnOut (prog : Program) (w : World) (os : List ON) (R : Led) (σ : List Cont) (j : Nat) (path : List Stp) (gv : Value) (n' : Led) : Prop :=
  ∃ os' σ' r, OStep prog w os os' R σ' n' ∧ walkS σ j path = (σ', r) ∧ GvOk os' r gv
theorem own_out {prog : Program} {w : World} {os : List ON} {R : Led} {σ : List Cont} {j x pl e : Nat} {vs : List Value} {path : List Stp} (G : OGood prog w os R σ) (hx : Cof os j = some x) (hp : (pl, listOf vs.toArray e) ∈ R) (hv : All2 (StepR R) vs path) (hw : Wf σ path.length) (hlo : 1 < pl) :
    Tel prog w 619 [.ref x, .ref pl] 60 300 (OL os R) (fun v n => OwnOut prog w os R σ j path v n) (fun xx9 => False) :=
  Tel.mono (own_tel G hx hp hv hw hlo) (fun xx9 h => h) (fun v n h => by
    obtain ⟨os', σ', st, ⟨c, y, h1, h2, rfl⟩ | ⟨h1, rfl⟩⟩ := h
    · exact ⟨os', σ', some c, st, h1, y, h2, rfl⟩
    · exact ⟨os', σ', none, st, h1, rfl⟩) (fun xx9 h => h)
theorem law_2a {prog : Program} {w : World} {f : Fix} {S : PS} {os : List ON} {σ : List Cont} {dl : Nat → Nat} {k : Nat} {m : Str → Option Value} {e1 e2 e9 x c j pl lc : Nat} {vs : List Value} {path : List Stp} {vc : Array Value} {wi : Int} {tw : Tok} {R : Led} (J : LJ prog w f S os R σ dl (path.length + k)) (hj : Cof os j = some c) (w0 : 0 ≤ wi) (mc : (lc, listOf vc e2) ∈ R) (ic : vc[wi.toNat]? = some (.ref c)) (zc : vc.size = 2)
    (hpl : (pl, listOf vs.toArray e9) ∈ R) (hv : All2 (StepR R) vs path) (hlo : 1 < pl) (h1 : m "cells" = some (.ref lc)) (h2 : m "which" = some (.int wi tw)) (h3 : m "path" = some (.ref pl)) :
    Lw prog w [ist 0] m (S.led f (OL os R)) (fun m' n' => ∃ gv, OwnOut prog w os (S.led f R) σ j path gv n' ∧ m' "goal" = some gv ∧ ∀ y : Str, y ≠ "goal" → m' y = m y) := by
  generalize q0 : ist 0 = s0
  (conv at q0 => lhs; whnf)
  subst q0
  have C := own_out J.O hj (rest_has _ hpl) (hv.mono (StepR.mono fun p hp => rest_has _ hp)) (by exact ⟨by have := J.wf.len; omega, J.wf.hash⟩) hlo
  have hl := look_add1 (look_add1 (look_add1 (look_base (m := m)) h3) h2) h1
  refine Lw.ofM (by kernel_rfl) hl fun a ccd Q q => ?_
  intro Γ
  refine Cx.N_ok (n := 90) ?_
  refine M.item (base_has _ mc) w0 (by omega) ic (by with_unfolding_all rfl) ?_
  refine M.tel C (fun p hp => comb_perm.mem_iff.mpr hp) (Nat.le_of_ble_eq_true rfl) (Nat.le_of_ble_eq_true rfl) (fun xx9 h => h.elim) ?_
  intro v G' O4
  exact q _ _ _ (fun xx9 h => h) ⟨_, O4, look_at rfl, fun y a => (look_skip a).trans (congrFun hl y)⟩
end
section
structure LK (prog : Program) (w : World) (f : Fix) (S : PS) (os : List ON) (R : Led) (σ' : List Cont) (k : Nat) : Prop where
  G : PGood prog w f S (OL os R) σ'
  O : OGood prog w os (S.led f R) σ'
theorem LJ.walked {prog : Program} {w : World} {f : Fix} {S S' : PS} {os os' : List ON} {R : Led} {σ σ' : List Cont} {dl : Nat → Nat} {k j : Nat} {path : List Stp} {r : Option Nat} {n1 n2 : Led} (J : LJ prog w f S os R σ dl (path.length + k)) (hj : j < 2) (hp : path.length ≤ 4) (sk : SokP path) (hw : walkS σ j path = (σ', r))
    (st : OStep prog w os os' (S.led f R) σ' n1) (st2 : PStep prog w f S S' (OL os' R) σ' n2) : ∃ dl', LJ prog w f S' os' R σ' dl' k ∧ ∀ c, r = some c → c < σ'.length := by
  have h0 := J.len
  have hd : dl j + path.length ≤ 4 := by
    have : j = 0 ∨ j = 1 := by omega
    rcases this with rfl | rfl
    · rw [J.d0]; omega
    · rw [J.d1]; omega
  obtain ⟨dl', K, hc⟩ := walkS_kept J.dp J.sk (by omega) hd sk hw
  refine ⟨dl', ⟨J.ok, st2.good, ⟨st2.good.uq.perm comb_perm, st.good.len, st.good.cm⟩, K.dp, K.sok, walkS_wf J.wf hw, ?_, ?_, Nat.le_trans h0 K.len, ?_⟩, fun c h => (hc c h).1⟩
  · rw [K.same 0 (by omega)]; exact J.d0
  · rw [K.same 1 (by omega)]; exact J.d1
  · rw [st2.zs]; have := J.zs; omega
theorem LJ.half {prog : Program} {w : World} {f : Fix} {S : PS} {os os' : List ON} {R : Led} {σ σ' : List Cont} {dl : Nat → Nat} {k : Nat} {n1 : Led} (J : LJ prog w f S os R σ dl k) (st : OStep prog w os os' (S.led f R) σ' n1) : PGood prog w f S (OL os' R) σ :=
  ⟨st.good.uq.perm comb_perm.symm, J.G.len, J.G.cm⟩
noncomputable def WOk (prog : Program) (w : World) (f : Fix) (S : PS) (R9 : Led) (σ' : List Cont) (r : Option Nat) (v : Value) (n : Led) : Prop := ∃ c S' y, r = some c ∧ PStep prog w f S S' R9 σ' n ∧ Xof S'.ps c = some y ∧ v = .ref y
noncomputable def WNo (prog : Program) (w : World) (f : Fix) (S : PS) (R9 : Led) (σ' : List Cont) (r : Option Nat) (n : Led) : Prop := r = none ∧ ∃ S', PStep prog w f S S' R9 σ' n
theorem walk_out {prog : Program} {w : World} {f : Fix} {S : PS} {R : Led} {σ σ' : List Cont} {r : Option Nat} {j x pl e : Nat} {vs : List Value} {path : List Stp} (ok : f.Ok prog w) (G : PGood prog w f S R σ) (hx : Xof S.ps j = some x) (hp : (pl, listOf vs.toArray e) ∈ R) (hv : All2 (StepR R) vs path) (hw : Wf σ path.length) (he : walkS σ j path = (σ', r)) :
    Tel prog w 455 [.ref f.rn, .ref x, .ref pl] 60 300 (S.led f R) (WOk prog w f S R σ' r) (WNo prog w f S R σ' r) :=
  Tel.mono (walk_tel ok G hx hp hv hw) (fun xx9 h => h) (fun v n h => by
    obtain ⟨S', σ2, c, y, h1, h2, h3, h4⟩ := h
    rw [he] at h1
    cases h1
    exact ⟨c, S', y, rfl, h2, h3, h4⟩) (fun n h => by
    obtain ⟨S', σ2, h1, h2⟩ := h
    rw [he] at h1
    cases h1
    exact ⟨rfl, S', h2⟩)
noncomputable def FdOk (S : PS) (m : Str → Option Value) : Option Nat → Prop
  | some c => ∃ y, Xof S.ps c = some y ∧ m "found" = some (.ref y)
  | none => True
theorem M.tryNo {Γ : Cx} {body : List Stmt} {h₁ : ExceptHandler} {hs : List ExceptHandler} {pos : Pos} {ml : Ml} {G : Led} (h : Cx.N ⟨Γ.prog, Γ.w, Γ.φ, Γ.dn, Γ.un, Γ.Q, fun xx9 => False, Γ.hk⟩ 90 (.st body) [] ml G) (hp : Γ.φ.top = true := by rfl) : Γ.W (.st [.Try body (h₁ :: hs) [] [] pos]) [] ml G := by
  have h := Cx.N_ok h
  intro p loose mean mg mb dp un gd outer A₀ base h₀ L s Q' E' B F X N T hd hu ret exc
  have own := hu.2.1
  show wpAny _ _ (execs [_] _) _ _ _
  rw [exec_one]
  refine wpAny_Try_except ?_
  refine h p loose mean mg mb dp un gd outer A₀ base h₀ L s _ _ B F X N T hd ⟨hu.1, by passes_own, .inl hp, hu.2.2.2⟩ (fun fl m' G' h' tk' F' N' q => ?_) (fun xx9 xx9 xx9 xx9 xx9 xx9 xx9 xx9 xx9 q => q.elim)
  cases fl with
  | next => exact wpAny_execs_nil (ret _ _ _ _ _ F' N' q)
  | _ => exact ret _ _ _ _ _ F' N' q
theorem walk_args {prog : Program} {w : World} {φ : Fn} {dn un' : Nat} {m : Str → Option Value} {G : Led} {Z : Led → Prop} {Q : List Value → (Str → Option Value) → Led → Prop} {rn x pl ls e1 : Nat} {vx : Array Value} {wi : Int} {tw : Tok} {p1 p2 p3 p4 ps pos : Pos} (ok : φ.ok) (ms : (ls, listOf vx e1) ∈ G) (w0 : 0 ≤ wi) (zx : vx.size ≤ 1000) (ix : vx[wi.toNat]? = some (.ref x))
    (h4 : m "run" = some (.ref rn)) (h1 : m "scalars" = some (.ref ls)) (h2 : m "which" = some (.int wi tw)) (h3 : m "path" = some (.ref pl)) (k4 : (φ.env 0).kindOf "run" = some .local) (k1 : (φ.env 0).kindOf "scalars" = some .local) (k2 : (φ.env 0).kindOf "which" = some .local) (k3 : (φ.env 0).kindOf "path" = some .local) (q : Q [.ref rn, .ref x, .ref pl] m G) :
    Wt prog w φ dn un' (fun env => spliced (backTo pos (starEach [.Name "run" p1, .Subscript (.Name "scalars" p2) (.Name "which" p3) ps, .Name "path" p4] env))) m G Q Z := by
  refine R.acons (R.name h4 k4 ok (by decide +kernel) (R.acons (R.subscript (R.name h1 k1 ok (by decide +kernel) (R.name h2 k2 ok (by decide +kernel) ?_))) (fun xx9 => rfl))) (fun xx9 => rfl)
  intro p loose mean mg mb dp un gd outer A₀ base h₀ L s Q' E' B F X N T hd hu ret exc
  exact item_is N ms w0 zx ix (ret _ m G s.heap s.toks F N (R.acons (R.name h3 k3 ok (by decide +kernel) (R.anil q)) fun xx9 => rfl)) (by with_unfolding_all rfl)
theorem law_2b {prog : Program} {w : World} {f : Fix} {S : PS} {os os' : List ON} {σ σ' : List Cont} {dl : Nat → Nat} {k : Nat} {r : Option Nat} {gv : Value} {n1 : Led} {m : Str → Option Value} {e1 e2 e9 x c j pl ls : Nat} {vs : List Value} {path : List Stp} {vx : Array Value} {wi : Int} {tw : Tok} {R : Led} (J : LJ prog w f S os R σ dl (path.length + k)) (hj : j < 2) (hx : Xof S.ps j = some x) (w0 : 0 ≤ wi) (ms : (ls, listOf vx e1) ∈ R) (ix : vx[wi.toNat]? = some (.ref x)) (zx : vx.size = 2)
    (hpl : (pl, listOf vs.toArray e9) ∈ R) (hv : All2 (StepR R) vs path) (hp4 : path.length ≤ 4) (sk : SokP path) (st : OStep prog w os os' (S.led f R) σ' n1) (hw : walkS σ j path = (σ', r)) (hg : GvOk os' r gv)
    (h1 : m "scalars" = some (.ref ls)) (h2 : m "which" = some (.int wi tw)) (h3 : m "path" = some (.ref pl)) (h4 : m "run" = some (.ref f.rn)) (h5 : m "goal" = some gv) :
    Lw prog w [ist 1] m (S.led f (OL os' R)) (fun m' n' => ∃ S' dl', n' = S'.led f (OL os' R) ∧ LJ prog w f S' os' R σ' dl' k ∧ (∀ c y, Xof S.ps c = some y → Xof S'.ps c = some y) ∧ FdOk S' m' r ∧ ∀ y : Str, y ≠ "found" → m' y = m y) := by
  generalize q0 : ist 1 = s0
  (conv at q0 => lhs; whnf)
  have C := walk_out J.ok (J.half st) hx (orest_has _ hpl) (hv.mono (StepR.mono fun p hp => orest_has _ hp)) (by exact ⟨by have := J.wf.len; omega, J.wf.hash⟩) hw
  cases r with
  | none =>
    subst hg
    have C : Tel prog w 455 [.ref f.rn, .ref x, .ref pl] 60 300 (S.led f (OL os' R)) (fun xx9 xx9 => False) (WNo prog w f S (OL os' R) σ' none) := Tel.mono C (fun xx9 h => h) (fun xx9 xx9 q => by obtain ⟨_, _, _, h, _⟩ := q; cases h) fun xx9 h => h
    unfold Lw
    intro p loose mean mg mb dp un gd a ccd h₀ L s Q E B F X N T hd hu hE ret
    have own := hE.1
    subst q0
    show wpAny _ _ (execs [_] _) _ _ _
    rw [exec_one]
    refine wpAny_Try_except (wpAny_execs_cons (wpAny_Assign_Name (Call_ (nameX_K (cl := []) F X (topRead_of T) ((gtab_ok w).at (x := "walk_path") rfl).1 (callWith_K X ((gtab_ok w).at (x := "walk_path") rfl).2 ?_ rfl rfl) (by kernel_rfl) (by kernel_rfl) (by decide +kernel)) rfl) rfl))
    refine walk_args (φ := ⟨lawQ, lawS, a, ccd, [], Option.none, Option.none, true⟩) (dn := 298) (un' := 1490) (Z := fun xx9 => False) (Q := fun vs mq Gq => vs = [.ref f.rn, .ref x, .ref pl] ∧ mq = m ∧ Gq = S.led f (OL os' R)) ⟨rfl, by kernel_rfl⟩ (base_has _ ms) w0 (by omega) ix h4 h1 h2 h3 (by kernel_rfl) (by kernel_rfl) (by kernel_rfl) (by kernel_rfl) ⟨rfl, rfl, rfl⟩ p loose mean mg mb (dp + 1) (un + 3) gd [] (kA dp un gd) h₀ h₀ L s _ _ B F X N T (by omega) ⟨by omega, by passes_own, .inl rfl, ⟨(fun xx9 h => nomatch h), fun xx9 => ⟨rfl, rfl⟩⟩⟩ (fun vs mq Gq h8 t8 F8 N8 q => ?_) (fun xx9 xx9 xx9 xx9 xx9 xx9 xx9 xx9 xx9 q => q.elim)
    obtain ⟨rfl, rfl, rfl⟩ := q
    refine ⟨X.keeps F8.keep, ?_⟩
    refine C.use (dp := dp + 1) (un := un + 3) B F8 X N8 T (by kernel_rfl) (by omega) (by omega) (fun xx9 xx9 xx9 xx9 xx9 xx9 h => h.elim) fun e9 n9 g9 h9 tk9 F9 U9 R9 W => ?_
    refine caught_die0 (hE := hE.2 _) B F9 U9 (RaisedSN.toN R9) X (topRead_of T) (fun h6 F6 N6 => ?_) (by kernel_rfl) (by kernel_rfl)
    obtain ⟨-, S', st'⟩ := W
    obtain ⟨dl', J2, -⟩ := J.walked hj hp4 sk hw st st'
    refine wpAny_execs_cons (wpAny_If (wpAny_isTrue_Compare1 (nameX_L (cl := []) F6 h5 (wpAny_Constant_none (isnot_none_gen (wpAny_truthy_bool ?_))) (by kernel_rfl) (by kernel_rfl) (by decide +kernel)) rfl))
    exact wpAny_execs_nil (wpAny_execs_nil (ret _ _ _ _ F6 (News.has N6 st'.has) ⟨S', dl', rfl, J2, st'.keep, trivial, fun y q => rfl⟩))
  | some c9 =>
    obtain ⟨y9, hy9, rfl⟩ := hg
    subst q0
    have hl := look_add1 (look_add1 (look_add1 (look_add1 (look_add1 (look_base (m := m)) h5) h4) h3) h2) h1
    refine Lw.ofM (by kernel_rfl) hl fun a ccd Q q => ?_
    intro Γ
    refine M.tryNo ?_
    refine M.item (base_has _ ms) w0 (by omega) ix (by with_unfolding_all rfl) ?_
    refine M.tel C (fun xx9 h => h) (Nat.le_of_ble_eq_true rfl) (Nat.le_of_ble_eq_true rfl) (fun xx9 h => nomatch h.1) ?_
    rintro _ G2 ⟨c', S', y', hr', st', hy', rfl⟩
    cases hr'
    obtain ⟨dl', J2, hlen⟩ := J.walked hj hp4 sk hw st st'
    obtain ⟨k9, n9, m9, hn9, hm9, bn, bm, hh9, okd, k5, k6, CT, CO⟩ := both_at J2.G J2.O J2.dp J2.hz J2.sk (hlen _ rfl)
    obtain ⟨n8, hn8, rfl⟩ := Option.map_eq_some_iff.mp hy'
    obtain ⟨m8, hm8, rfl⟩ := Option.map_eq_some_iff.mp hy9
    cases hn9.symm.trans hn8
    cases hm9.symm.trans hm8
    obtain ⟨x9, dx9, d9, b9⟩ := n9
    obtain ⟨c8, e8, ob⟩ := m9
    refine M.isN false rfl ?_
    refine M.tel (value_at (st'.has _ (bn _ (.head _))) (st'.has _ (bn _ (.tail _ (.head _)))) hh9) (fun xx9 h => h) (Nat.le_of_ble_eq_true rfl) (Nat.le_of_ble_eq_true rfl) (fun xx9 h => h.elim) ?_
    rintro _ G3 ⟨rfl, rfl⟩
    have h3' := st'.has
    refine M.tel (CT _ fun xx9 h => h) h3' (show 20 * k9 + 20 ≤ 298 by omega) (show 100 * k9 + 60 ≤ 1490 by omega) (fun xx9 h => h.elim) ?_
    rintro v1 G4 ⟨a1, ha1, -, D1⟩
    intro t1
    refine M.one (ha1 _ (List.mem_append_right _ (bm _ (.head _)))) (by with_unfolding_all rfl) ?_
    refine M.tel (CO _ fun p h => ha1 p (List.mem_append_right _ h)) (fun xx9 h => h) (show 20 * k9 + 20 ≤ 298 by omega) (show 100 * k9 + 60 ≤ 1490 by omega) (fun xx9 h => h.elim) ?_
    rintro v2 G5 ⟨a2, ha2, -, D2⟩
    refine M.datNe D1 (fun p h => ha2 p (List.mem_append_right _ (ha1 p (List.mem_append_left _ h)))) D2 (fun p h => ha2 p (List.mem_append_left _ h)) okd (Nat.le_of_ble_eq_true rfl) ?_
    exact q _ _ _ (fun p h => ha2 p (List.mem_append_right _ (ha1 p (List.mem_append_right _ h)))) ⟨S', dl', rfl, J2, st'.keep, ⟨_, hy', look_at rfl⟩, fun y q => (look_skip q).trans (congrFun hl y)⟩
end
section
inductive PlainC : Value → Cont → Prop
  | none : PlainC .none .none
  | int {n : Int} {t : Tok} : 0 ≤ n → n < 1000 → PlainC (.int n t) (.int n)
  | str {x : Str} {t : Tok} : x.length ≤ 10 → PyData.strOk x = true → PlainC (.str x t) (.str x)
noncomputable def VOk (A : Led) (v : Value) : Prop := (A = [] ∧ ∃ c', PlainC v c') ∨ ∃ T tn tk l te, v = .ref T ∧ A = [(T, tupO #[.str "A" tk, .ref l] tn), (l, listOf #[] te)]
theorem digit_nat : ∀ n : Nat, n < 10 → (Str.ofString "t" ++ Str.ofString (toString (n : Int))).length ≤ 10 ∧ PyData.strOk (Str.ofString "t" ++ Str.ofString (toString (n : Int))) = true := by decide +kernel
theorem digit_ok {q : Int} (h0 : 0 ≤ q) (h1 : q < 10) : (Str.ofString "t" ++ Str.ofString (toString q)).length ≤ 10 ∧ PyData.strOk (Str.ofString "t" ++ Str.ofString (toString q)) = true := by
  obtain ⟨n, rfl⟩ := Int.eq_ofNat_of_zero_le h0
  exact digit_nat n (Int.ofNat_lt.mp h1)
theorem values_ok {what : Int} {v : Value} {D : Nat} {t1 t2 t3 t4 : Tok} (h : v ∈ [Value.int (what.fmod 1000) t1, Value.str (Str.ofString "t" ++ Str.ofString (toString (what.fmod 10))) t2, Value.none, Value.none, Value.str (Str.ofString "") t3, Value.int 0 t4, Value.ref D]) : v = .ref D ∨ ∃ c', PlainC v c' := by
  have a0 := Int.fmod_nonneg_of_pos what (b := 1000) (by decide)
  have a1 := Int.fmod_lt_of_pos what (b := 1000) (by decide)
  have b0 := Int.fmod_nonneg_of_pos what (b := 10) (by decide)
  have b1 := Int.fmod_lt_of_pos what (b := 10) (by decide)
  have d := digit_ok b0 b1
  simp only [List.mem_cons, List.not_mem_nil, or_false] at h
  rcases h with rfl | rfl | rfl | rfl | rfl | rfl | rfl
  · exact .inr ⟨_, .int a0 a1⟩
  · exact .inr ⟨_, .str d.1 d.2⟩
  · exact .inr ⟨_, .none⟩
  · exact .inr ⟨_, .none⟩
  · exact .inr ⟨_, .str (Nat.le_of_ble_eq_true (by decide +kernel)) (by decide +kernel)⟩
  · exact .inr ⟨_, .int (by decide) (by decide)⟩
  · exact .inl rfl
namespace M
variable {Γ : Cx} {K : List Fm} {ml : Ml} {G : Led}
theorem strOf {p pos : Pos} {e : PySem.Expr} (hk : (Γ.φ.env 0).kindOf "str" = some .globalImplicit) (hs : noStar [e] = true) (h : Γ.N 90 (.ar pos (.cal (.type "str")) [] [e]) K ml G) (ht : Γ.φ.tr = Option.none := by rfl) : Γ.W (.ev (.Call (.Name "str" p) [e] [] pos)) K ml G :=
  R.call (R.nameB (by k_is) (by decide +kernel) (by decide +kernel) hk (Cx.ok ht) (by decide +kernel) (callT (T := "str") (Cx.N_ok h) fun L => star_he hs)) fun xx9 => rfl
theorem strI {a : Int} {t : Tok} (h0 : 0 ≤ a) (h1 : a < 10) (h : ∀ tk, Γ.N 90 (.sg (.v (.str (Str.ofString (toString a)) tk))) K ml G) : Γ.W (.cl (.cal (.type "str")) [.int a t]) K ml G :=
  leaft (f := fun tk => .str (Str.ofString (toString a)) tk) rfl (fun h => str_of_int_fit (N := 10) (by split <;> omega) (by decide) fun xx9 => h) h
theorem addS2 {a b : Str} {t u : Tok} (hz : a.length + b.length ≤ 100) (h : ∀ tk, Γ.N 90 (.sg (.v (.str (a ++ b) tk))) K ml G) : Γ.W (.bo .Add (.str a t) (.str b u)) K ml G :=
  leafC (t := binaryOp .Add (.str a t) (.str b u)) (P := fun v G' => G' = G ∧ ∃ tk, v = .str (a ++ b) tk) rfl (fun F xx9 N q => PyProof.Rows.add_str (fun t' tk => q _ _ _ _ ⟨rfl, t', rfl⟩ F N) (Nat.le_trans hz (by decide))) (by rintro _ _ ⟨rfl, tk, rfl⟩; exact h tk)
theorem itemCases {l e : Nat} {vs : List Value} {ex sl : PySem.Expr} {k : Int} {u : Tok} (hm : (l, listOf vs.toArray e) ∈ G) (h0 : 0 ≤ k) (hz : vs.length ≤ 1000) (hk : k < vs.length) (hs : subscripted sl false (.ref l) (.int k u) = operate [.ref l, .int k u] (getItem (.ref l) (.int k u))) (h : ∀ v, v ∈ vs → Γ.N 90 (.sg (.v v)) K ml G) : Γ.W (.gi ex sl (.ref l) (.int k u)) K ml G :=
  M.item hm h0 (by simpa using hz) (by simpa using List.getElem?_eq_getElem (l := vs) (i := k.toNat) (by omega)) hs (h _ (List.getElem_mem _))
end M
theorem v_end {prog : Program} {w : World} {f : Fix} {S : PS} {os : List ON} {σ : List Cont} {dl : Nat → Nat} {k l3 D li tn te : Nat} {tk : Tok} {o3 : Obj} {R : Led} (J : LJ prog w f S os R σ dl k) (a1 : Above li (S.led f (OL os R))) (a : Above D ((li, listOf #[] te) :: S.led f (OL os R))) :
    ∃ A, Has (S.led f (OL os (A ++ R))) ((l3, o3) :: (D, tupO #[.str "A" tk, .ref li] tn) :: (li, listOf #[] te) :: S.led f (OL os R)) ∧ LJ prog w f S os (A ++ R) σ dl k ∧ VOk A (.ref D) := by
  refine ⟨[(D, tupO #[.str "A" tk, .ref li] tn), (li, listOf #[] te)], fun p hp => ?_, J.grow ?_ ?_, .inr ⟨_, _, _, _, _, rfl, rfl⟩⟩
  · exact List.Mem.tail _ (path_has (A := [_, _]) (fun xx9 h => h) p hp)
  · exact Uq.push (Uq.push (by simp [Uq]) (fun xx9 h => nomatch h)) (fun q hq => by rw [List.mem_singleton.mp hq]; exact a _ (.head _))
  · intro q hq
    rcases List.mem_cons.mp hq with rfl | hq
    · exact fun p hp => a p (.tail _ hp)
    · rw [List.mem_singleton.mp hq]; exact a1
theorem law_v {prog : Program} {w : World} {f : Fix} {S : PS} {os : List ON} {σ : List Cont} {dl : Nat → Nat} {k : Nat} {m : Str → Option Value} {what : Int} {tw : Tok} {R : Led} (J : LJ prog w f S os R σ dl k) (h2 : m "what" = some (.int what tw)) :
    Lw prog w [jst 0] m (S.led f (OL os R)) (fun m' n' => ∃ A v, n' = S.led f (OL os (A ++ R)) ∧ LJ prog w f S os (A ++ R) σ dl k ∧ VOk A v ∧ m' "value" = some v ∧ ∀ y : Str, y ≠ "value" → m' y = m y) := by
  generalize q0 : jst 0 = s0
  (conv at q0 => lhs; whnf)
  subst q0
  have hl := look_add1 (look_base (m := m)) h2
  have b0 := Int.fmod_nonneg_of_pos what (b := 10) (by decide)
  have b1 := Int.fmod_lt_of_pos what (b := 10) (by decide)
  have dg := (digit_ok b0 b1).1
  rw [PySem.Str.length_append] at dg
  refine Lw.ofM (by kernel_rfl) hl fun a ccd Q q => ?_
  intro Γ
  refine Cx.N_ok (n := 90) ?_
  intro t1
  refine M.mod (by decide) fun t2 => ?_
  intro t3
  refine M.strOf rfl rfl ?_
  intro t4
  refine M.mod (by decide) fun t5 => ?_
  refine M.strI b0 b1 fun t6 => ?_
  refine M.addS2 (by omega) fun t7 => ?_
  intro t8 t9 t10
  refine M.newList (Nat.le_of_ble_eq_true rfl) fun li a1 => ?_
  refine M.newTuple (Nat.le_of_ble_eq_true rfl) fun D a2 => ?_
  refine M.newList (Nat.le_of_ble_eq_true rfl) fun l3 a3 => ?_
  intro t11
  refine M.mod (by decide) fun t12 => ?_
  intro t13
  refine M.mod (by decide) fun t14 => ?_
  refine M.itemCases (vs := [_, _, _, _, _, _, _]) (.head _) (Int.fmod_nonneg_of_pos _ (by decide)) (Nat.le_of_ble_eq_true rfl) (Int.fmod_lt_of_pos _ (by decide)) (by with_unfolding_all rfl) fun v hv => ?_
  rcases values_ok hv with rfl | hc
  · obtain ⟨A, n1, n2, n3⟩ := v_end J a1 a2
    exact q _ _ _ n1 ⟨A, _, rfl, n2, n3, look_at rfl, fun y q => (look_skip q).trans (congrFun hl y)⟩
  · exact q _ _ _ (fun p hp => .tail _ (.tail _ (.tail _ hp))) ⟨[], v, rfl, J, .inl ⟨rfl, hc⟩, look_at rfl, fun y q => (look_skip q).trans (congrFun hl y)⟩
end
section
noncomputable def ArrOut (f : Fix) (rest : Led) (r : Value) (news' : Led) : Prop := ∃ (a da l : Nat) (d : TD) (n' : Int) (tn' : Tok), r = .ref a ∧ Has ((a, instObj 85 da) :: (da, arD d l) :: (l, listOf #[] 0) :: (f.hp, heapO f) :: (f.dhp, heapD f n' tn') :: rest) news' ∧ Above da rest ∧ f.hp < da ∧ f.dhp < da ∧ da < a ∧ a < l
theorem arr_out {prog : Program} {w : World} {f : Fix} {n : Int} {tn : Tok} {rest : Led} (e1 : f.hp ≠ f.dhp) (b2 : ∀ p ∈ rest, p.1 ≠ f.dhp) : Tel prog w 201 [.ref f.hp] 10 60 ((f.hp, heapO f) :: (f.dhp, heapD f n tn) :: rest) (ArrOut f rest) (fun xx9 => False) := newarr_tel e1 b2
theorem plainC_pb {prog : Program} {w : World} {X Y : Nat → Option Nat} {v : Value} {c' : Cont} (h : PlainC v c') : ∃ (b' : PB) (ob' : OB), b'.led = [] ∧ ob'.led = [] ∧ b'.val = v ∧ ob'.val = v ∧ Plain b'.val ∧ CM prog w X b' c' ∧ OM prog w Y ob' c' ∧ c'.kids = [] ∧ c'.sok ∧ ∀ ks, c' ≠ .hash ks := by
  cases h with
  | none => exact ⟨.none, .none, rfl, rfl, rfl, rfl, .inl rfl, trivial, trivial, rfl, trivial, fun xx9 e => nomatch e⟩
  | @int n t h0 h1 => exact ⟨.int n t, .int n t, rfl, rfl, rfl, rfl, .inr (.inl ⟨_, _, rfl⟩), ⟨rfl, h0, h1⟩, ⟨rfl, h0, h1⟩, rfl, trivial, fun xx9 e => nomatch e⟩
  | @str x t h0 h1 => exact ⟨.str x t, .str x t, rfl, rfl, rfl, rfl, .inr (.inr ⟨_, _, rfl⟩), ⟨rfl, h0⟩, ⟨rfl, h0⟩, rfl, h1, fun xx9 e => nomatch e⟩
theorem law_sp {prog : Program} {w : World} {f : Fix} {S : PS} {os : List ON} {σ : List Cont} {dl : Nat → Nat} {k c x : Nat} {b' : PB} {c' : Cont} {m : Str → Option Value} {R : Led} (J : LJ prog w f S os R σ dl k) (hx : Xof S.ps c = some x) (hb : b'.led = []) (hp : Plain b'.val) (hcm : CM prog w (Xof S.ps) b' c')
    (h1 : m "run" = some (.ref f.rn)) (h2 : m "found" = some (.ref x)) (h3 : m "value" = some b'.val) :
    Lw prog w [jst 1] m (S.led f (OL os R)) (fun m' n' => ∃ S', n' = S'.led f (OL os R) ∧ PZ prog w f S S' (OL os R) (σ.set c c') n' ∧ m' = m) := by
  generalize q0 : jst 1 = s0
  (conv at q0 => lhs; whnf)
  subst q0
  have hl := look_add1 (look_add1 (look_add1 (look_base (m := m)) h3) h2) h1
  refine Lw.ofM (by kernel_rfl) hl fun a ccd Q q => ?_
  intro Γ
  refine Cx.N_ok (n := 90) ?_
  refine M.getOwn (at_ 0 rfl) (at_ 1 rfl) gaRun.2.1 J.ok.counter rfl ?_
  refine M.meth (at_ 4 rfl) (at_ 5 rfl) me_c.2.2.2.2 rfl rfl ?_
  refine M.isiTupNo hp ?_
  refine M.tel (store_p J.ok J.G J.dp hx (by have := J.zs; omega) hb hp hcm) (fun xx9 h => h) (Nat.le_of_ble_eq_true rfl) (Nat.le_of_ble_eq_true rfl) (fun xx9 h => h.elim) ?_
  rintro _ G' ⟨rfl, S', q9⟩
  exact q _ _ _ q9.has ⟨S', rfl, ⟨q9.good, fun xx9 h => h, q9.keep, q9.zs⟩, hl⟩
noncomputable abbrev restL (f : Fix) (S : PS) (X : Led) : Led := (f.rn, runO f) :: (f.drn, runD f) :: (f.ct, ctrO f) :: (f.dct, ctrD f) :: (f.li, limO f) :: (f.dli, limD f) :: (f.pl, f.po) :: (f.zr, listOf S.zs S.ze) :: (S.ps.flatMap PN.blk ++ X)
theorem sr_all {prog : Program} {w : World} {f : Fix} {S : PS} {os : List ON} {σ : List Cont} {dl : Nat → Nat} {k c x r9 dr9 a9 da9 l9 : Nat} {T : Addr} {oT : Obj} {td9 : TD} {rd9 : RD} {n9 : Int} {tn9 : Tok} {R : Led} (J : LJ prog w f S os R σ dl k) (hx : Xof S.ps c = some x)
    (ab : Above da9 ((T, oT) :: restL f S (OL os R))) (p1 : f.hp < da9) (p2 : f.dhp < da9) (p3 : da9 < a9) (p4 : a9 < l9) (q1 : l9 < dr9) (q2 : dr9 < r9) :
    Has (PS.led f ⟨S.ps, n9, tn9, S.zs, S.ze⟩ (newL r9 dr9 a9 da9 l9 rd9 td9 ++ OL os R)) ((r9, instObj 162 dr9) :: (dr9, refD rd9 a9) :: (a9, instObj 85 da9) :: (da9, arD td9 l9) :: (l9, listOf #[] 0) :: (f.hp, heapO f) :: (f.dhp, heapD f n9 tn9) :: (T, oT) :: restL f S (OL os R)) ∧
    Tel prog w 509 [.ref f.ct, .ref x, .ref r9] 10 60 (PS.led f ⟨S.ps, n9, tn9, S.zs, S.ze⟩ (newL r9 dr9 a9 da9 l9 rd9 td9 ++ OL os R)) (fun r n => r = .none ∧ ∃ S', PZ prog w f S S' (OL os R) (σ.set c (.arr [])) n) (fun xx9 => False) := by
  have ft : Fits ((f.hp, heapO f) :: (f.dhp, heapD f n9 tn9) :: restL f S (OL os R)) (PS.led f ⟨S.ps, n9, tn9, S.zs, S.ze⟩ (OL os R)) := by unfold PS.led; exact fits_of [6, 6, 0, 0, 2, 2] rfl
  have U1 : Uq (PS.led f ⟨S.ps, n9, tn9, S.zs, S.ze⟩ (OL os R)) := J.G.uq.addr rfl
  have aY : Above da9 (PS.led f ⟨S.ps, n9, tn9, S.zs, S.ze⟩ (OL os R)) := fun p hp => by
    rcases List.mem_cons.mp (ft.perm.mem_iff.mp hp) with rfl | hp
    · exact p1
    · rcases List.mem_cons.mp hp with rfl | hp
      · exact p2
      · exact ab p (.tail _ hp)
  have aA := aY.up p3
  have aL := aA.up p4
  have aD := aL.up q1
  have aR := aD.up q2
  have U2 : Uq (newL r9 dr9 a9 da9 l9 rd9 td9) := by
    unfold Uq
    simp only [List.map_cons, List.map_nil, List.nodup_cons, List.mem_cons, List.not_mem_nil, or_false, not_or, List.nodup_nil, and_true, not_false_eq_true]
    refine ⟨⟨?_, ?_, ?_, ?_⟩, ⟨?_, ?_, ?_⟩, ⟨?_, ?_⟩, ?_⟩ <;> first | exact Nat.ne_of_gt (by omega) | exact Nat.ne_of_lt (by omega)
  have U3 : Uq (PS.led f ⟨S.ps, n9, tn9, S.zs, S.ze⟩ (newL r9 dr9 a9 da9 l9 rd9 td9 ++ OL os R)) := (Uq.glue U2 U1 (by
    simp only [List.forall_mem_cons]
    exact ⟨aR, aD, aA, aY, aL, fun xx9 h => nomatch h⟩)).perm led_app.symm
  refine ⟨fun p hp => ?_, ?_⟩
  · rcases List.mem_append.mp (led_app.mem_iff.mp hp) with h | h
    · exact List.mem_append_left _ h
    · refine List.mem_append_right (newL r9 dr9 a9 da9 l9 rd9 td9) ?_
      rcases List.mem_cons.mp (ft.perm.mem_iff.mp h) with rfl | h
      · exact .head _
      · rcases List.mem_cons.mp h with rfl | h
        · exact .tail _ (.head _)
        · exact .tail _ (.tail _ (.tail _ h))
  · exact Tel.mono (store_a (S := ⟨S.ps, n9, tn9, S.zs, S.ze⟩) J.ok ⟨U3, J.G.len, J.G.cm⟩ J.dp hx (by have := J.zs; show S.zs.size ≤ 1000; omega)) (fun xx9 h => h) (fun v n h => let ⟨h1, S', h2⟩ := h; ⟨h1, S', h2.good, h2.has, h2.keep, h2.zs⟩) fun xx9 h => h
theorem law_sr {prog : Program} {w : World} {f : Fix} {S : PS} {os : List ON} {σ : List Cont} {dl : Nat → Nat} {k c x T tn : Nat} {vs : Array Value} {m : Str → Option Value} {R : Led} (J : LJ prog w f S os R σ dl k) (hx : Xof S.ps c = some x) (hT : (T, tupO vs tn) ∈ R)
    (h1 : m "run" = some (.ref f.rn)) (h2 : m "found" = some (.ref x)) (h3 : m "value" = some (.ref T)) (h4 : m "heap" = some (.ref f.hp)) :
    Lw prog w [jst 1] m (S.led f (OL os R)) (fun m' n' => ∃ S', n' = S'.led f (OL os R) ∧ PZ prog w f S S' (OL os R) (σ.set c (.arr [])) n' ∧ m' = m) := by
  generalize q0 : jst 1 = s0
  (conv at q0 => lhs; whnf)
  subst q0
  have ft : Fits ((f.hp, heapO f) :: (f.dhp, heapD f S.n S.tn) :: restL f S (OL os R)) (S.led f (OL os R)) := by unfold PS.led; exact fits_of [6, 6, 0, 0, 2, 2] rfl
  have U := J.G.uq.fit ft
  have b2 : ∀ p ∈ restL f S (OL os R), p.1 ≠ f.dhp := fun p hp => Uq.ne U (.there .here) _ _ (.tail _ hp)
  have e1 : f.hp ≠ f.dhp := Uq.ne U (.there .here) _ _ (.head _)
  have hTR : (T, tupO vs tn) ∈ restL f S (OL os R) := .tail _ (.tail _ (.tail _ (.tail _ (.tail _ (.tail _ (.tail _ (.tail _ (List.mem_append_right _ (orest_has _ hT)))))))))
  have hl := look_add1 (look_add1 (look_add1 (look_add1 (look_base (m := m)) h4) h3) h2) h1
  refine Lw.ofM (by kernel_rfl) hl fun a ccd Q q => ?_
  intro Γ
  refine Cx.N_ok (n := 90) ?_
  refine M.getOwn (at_ 0 rfl) (at_ 1 rfl) gaRun.2.1 J.ok.counter rfl ?_
  refine M.meth (at_ 4 rfl) (at_ 5 rfl) me_c.2.2.2.2 rfl rfl ?_
  refine M.isiTup (base_has _ hT) ?_
  refine M.meth (at_ 6 rfl) (at_ 7 rfl) me_h.2.2.1 rfl rfl ?_
  refine M.tel (arr_out (n := S.n) (tn := S.tn) (rest := (T, tupO vs tn) :: restL f S (OL os R)) e1 (fun p hp => (List.mem_cons.mp hp).elim (fun e => e ▸ b2 _ hTR) (b2 p))) (has_cons (ft.has _ (.head _)) (has_cons (ft.has _ (.tail _ (.head _))) (has_cons (base_has _ hT) fun p hp => ft.has _ (.tail _ (.tail _ hp))))) (Nat.le_of_ble_eq_true rfl) (Nat.le_of_ble_eq_true rfl) (fun xx9 h => h.elim) ?_
  rintro _ G1 ⟨a9, da9, l9, td9, n9, tn9, rfl, hh, ab, p1, p2, p3, p4⟩
  refine M.new (by k_is) (by k_is) (by k_is) (Nat.le_of_ble_eq_true rfl) (Nat.le_of_ble_eq_true rfl) (fun r dr u v => ref_init (Nat.ne_of_gt v) u) ?_
  rintro r9 dr9 _ u v ⟨h1, h2, t1, t2, rfl⟩
  obtain ⟨H5, C2⟩ := sr_all (rd9 := ⟨h1, h2, t1, t2⟩) J hx ab p1 p2 p3 p4 (u _ (hh _ (at_ 2 rfl))) v
  refine M.tel C2 (Has.trans H5 (has_cons (.head _) (has_cons (.tail _ (.head _)) fun p hp => .tail _ (.tail _ (hh p hp))))) (Nat.le_of_ble_eq_true rfl) (Nat.le_of_ble_eq_true rfl) (fun xx9 h => h.elim) ?_
  rintro _ G' ⟨rfl, S', q9⟩
  exact q _ _ _ q9.has ⟨S', rfl, ⟨q9.good, fun xx9 h => h, q9.keep, q9.zs⟩, hl⟩
end
section
theorem own_upd {prog : Program} {w : World} {os : List ON} {σ : List Cont} {c c8 e8 e' : Nat} {ob ob' : OB} {c' : Cont} {A Rr : Led} (hm : os[c]? = some ⟨c8, e8, ob⟩) (U : Uq (OL os (A ++ Rr))) (hl : os.length = σ.length) (cm : OMs prog w os σ) (hA : ob'.led = A) (hOM : OM prog w (Cof os) ob' c') :
    ∃ Z : Led, (∀ p ∈ Z, p.1 ≠ c8) ∧ Has ((c8, listOf #[ob.val] e8) :: Z) (OL os (A ++ Rr)) ∧ OGood prog w (os.set c ⟨c8, e', ob'⟩) Rr (σ.set c c') ∧ Has (OL (os.set c ⟨c8, e', ob'⟩) Rr) ((c8, listOf #[ob'.val] e') :: Z) ∧ ∀ i y, Cof os i = some y → Cof (os.set c ⟨c8, e', ob'⟩) i = some y := by
  obtain ⟨pre, post, rfl, rfl⟩ := split_at hm
  have P1 : (OL (pre ++ (⟨c8, e8, ob⟩ : ON) :: post) (A ++ Rr)).Perm ((c8, listOf #[ob.val] e8) :: (ob.led ++ (A ++ Zo pre post Rr))) := by
    refine ol_split.trans (List.Perm.cons _ (List.Perm.append_left _ ?_))
    unfold Zo
    have h : ∀ (X Y Z : Led), (X ++ (Y ++ Z)).Perm (Y ++ (X ++ Z)) := fun X Y Z => by
      rw [← List.append_assoc, ← List.append_assoc]
      exact List.perm_append_comm.append_right _
    exact (List.Perm.append_left _ (h _ _ _)).trans (h _ _ _)
  have U1 := U.perm P1
  unfold Uq at U1
  rw [List.map_cons, List.nodup_cons, List.map_append] at U1
  have U2 := (List.nodup_append.mp U1.2).2.1
  have ne : ∀ p ∈ A ++ Zo pre post Rr, p.1 ≠ c8 := fun p hp e => U1.1 (List.mem_append_right _ (List.mem_map.mpr ⟨p, hp, e⟩))
  have U3 : Uq ((⟨c8, e', ob'⟩ : ON).blk ++ Zo pre post Rr) := by
    show Uq ((c8, listOf #[ob'.val] e') :: (ob'.led ++ Zo pre post Rr))
    rw [hA]
    exact Uq.cons U2 ne
  refine ⟨A ++ Zo pre post Rr, ne, fun p hp => P1.mem_iff.mpr ?_, ?_, fun p hp => ?_, fun i y h => ?_⟩
  · rcases List.mem_cons.mp hp with rfl | hp
    · exact .head _
    · exact .tail _ (List.mem_append_right _ hp)
  · rw [set_mid]
    refine ⟨U3.perm ol_split.symm, by simpa using hl, ?_⟩
    have h := OMs.set (n' := (⟨c8, e', ob'⟩ : ON)) cm omid rfl hOM
    rwa [set_mid] at h
  · rw [set_mid] at hp
    have := ol_split.mem_iff.mp hp
    rcases List.mem_append.mp this with h | h
    · rcases List.mem_cons.mp h with rfl | h
      · exact .head _
      · exact .tail _ (List.mem_append_left _ (hA ▸ h))
    · exact .tail _ (List.mem_append_right _ h)
  · rw [Cof_set (n' := ⟨c8, e', ob'⟩) hm rfl]; exact h
theorem law_o {prog : Program} {w : World} {f : Fix} {S : PS} {os : List ON} {σ : List Cont} {c y8 : Nat} {c' : Cont} {ob' : OB} {m : Str → Option Value} {A R : Led} (hy : Cof os c = some y8) (O : OGood prog w os (A ++ S.led f R) σ) (hA : ob'.led = A) (hOM : OM prog w (Cof os) ob' c') (h1 : m "goal" = some (.ref y8)) (h2 : m "value" = some ob'.val) :
    Lw prog w [jst 2] m (OL os (A ++ S.led f R)) (fun m' n' => ∃ os', n' = OL os' (S.led f R) ∧ OGood prog w os' (S.led f R) (σ.set c c') ∧ (∀ i y, Cof os i = some y → Cof os' i = some y) ∧ m' = m) := by
  generalize q0 : jst 2 = s0
  (conv at q0 => lhs; whnf)
  subst q0
  obtain ⟨⟨c8, e8, ob⟩, hm, rfl⟩ := Option.map_eq_some_iff.mp hy
  obtain ⟨Z, ne, hs, G', hs', keep⟩ := own_upd (e' := e8) hm O.uq O.len O.cm hA hOM
  have hl := look_add1 (look_add1 (look_base (m := m)) h2) h1
  refine Lw.ofM (by kernel_rfl) hl fun a ccd Q q => ?_
  intro Γ
  refine Cx.N_ok (n := 90) ?_
  intro t
  refine M.led (c := .si _ _ _) ((c8, listOf #[ob.val] e8) :: Z) (by exact trivial) hs ?_
  refine M.setItem (.head ne) (Int.le_refl 0) (Nat.le_of_ble_eq_true rfl) (by show (0 : Int) < 1; decide) ?_
  exact q _ _ _ hs' ⟨_, rfl, G', keep, hl⟩
end
section
noncomputable def SameBut (m m' : Str → Option Value) (ys : List Str) : Prop := ∀ y : Str, y ∉ ys → m' y = m y
theorem stored {prog : Program} {w : World} {f : Fix} {S S' : PS} {os os' : List ON} {σ : List Cont} {dl : Nat → Nat} {k c : Nat} {c' : Cont} {R A : Led} {n : Led} (J : LJ prog w f S os (A ++ R) σ dl (k + 1)) (pz : PZ prog w f S S' (OL os (A ++ R)) (σ.set c c') n)
    (O' : OGood prog w os' (S'.led f R) (σ.set c c')) (hk : c'.kids = []) (hs : c'.sok) (hh : ∀ ks, c' = .hash ks → ks = []) : LJ prog w f S' os' R (σ.set c c') dl k := by
  refine ⟨J.ok, ⟨O'.uq.perm comb_perm.symm, pz.good.len, pz.good.cm⟩, O', J.dp.set (fun x hx => ?_), J.sk.set hs, Wf.store J.wf.less hh, J.d0, J.d1, ?_, ?_⟩
  · rw [hk] at hx; cases hx
  · rw [List.length_set]; exact J.len
  · have := J.zs; have := pz.zs; omega
theorem own_in {prog : Program} {w : World} {f : Fix} {S S' : PS} {os : List ON} {σ σ' : List Cont} {dl : Nat → Nat} {k : Nat} {R A : Led} {n : Led} (J : LJ prog w f S os (A ++ R) σ dl k) (pz : PZ prog w f S S' (OL os (A ++ R)) σ' n) : OGood prog w os (A ++ S'.led f R) σ :=
  ⟨(pz.good.uq.perm comb_perm).perm (List.Perm.append_left _ led_app), J.O.len, J.O.cm⟩
theorem own_hs {f : Fix} {S : PS} {os : List ON} {R A : Led} : Has (OL os (A ++ S.led f R)) (S.led f (OL os (A ++ R))) := fun p hp => comb_perm.mem_iff.mpr ((List.Perm.append_left _ led_app).mem_iff.mpr hp)
theorem law_j {prog : Program} {w : World} {f : Fix} {S : PS} {os : List ON} {σ : List Cont} {dl : Nat → Nat} {k c x y : Nat} {m : Str → Option Value} {what : Int} {tw : Tok} {R : Led} (J : LJ prog w f S os R σ dl (k + 1)) (hx : Xof S.ps c = some x) (hy : Cof os c = some y)
    (h1 : m "goal" = some (.ref y)) (h2 : m "what" = some (.int what tw)) (h3 : m "run" = some (.ref f.rn)) (h4 : m "heap" = some (.ref f.hp)) (h5 : m "found" = some (.ref x)) :
    Lw prog w jB m (S.led f (OL os R)) (fun m' n' => ∃ S' os' σ', Has (S'.led f (OL os' R)) n' ∧ LJ prog w f S' os' R σ' dl k ∧ (∀ c y, Xof S.ps c = some y → Xof S'.ps c = some y) ∧ (∀ c y, Cof os c = some y → Cof os' c = some y) ∧ SameBut m m' ["value"]) := by
  show Lw prog w ([jst 0] ++ ([jst 1] ++ [jst 2])) m _ _
  refine Lw.app (law_v J h2) ?_
  rintro m1 n1 ⟨A, v, rfl, J1, ok, hv, same⟩
  have e : ∀ {y : Str} {v : Value}, m y = some v → y ≠ "value" → m1 y = some v := fun h q => (same _ q).trans h
  have k1 := e h1 (by decide +kernel)
  have k3 := e h3 (by decide +kernel)
  have k4 := e h4 (by decide +kernel)
  have k5 := e h5 (by decide +kernel)
  have fin : SameBut m m1 ["value"] := fun y hy => same y (by simpa using hy)
  rcases ok with ⟨rfl, c', pc⟩ | ⟨T, tn, tk, l, te, rfl, rfl⟩
  · obtain ⟨b', ob', b1, b2, rfl, b4, b5, b6, b7, b8, b9, b0⟩ := plainC_pb (prog := prog) (w := w) (X := Xof S.ps) (Y := Cof os) pc
    refine Lw.app (law_sp J1 hx b1 b5 b6 k3 k5 hv) ?_
    rintro m2 n2 ⟨S', rfl, pz, rfl⟩
    refine Lw.mono (Lw.has (law_o (S := S') (A := []) hy (own_in J1 pz) b2 b7 k1 (b4 ▸ hv)) own_hs) ?_
    rintro m3 n3 ⟨os', rfl, O', keep, rfl⟩
    exact ⟨S', os', _, fun p hp => comb_perm.mem_iff.mp hp, stored J1 pz O' b8 b9 (fun ks h => absurd h (b0 ks)), pz.keep, keep, fin⟩
  · refine Lw.app (law_sr J1 hx (.head _) k3 k5 hv k4) ?_
    rintro m2 n2 ⟨S', rfl, pz, rfl⟩
    refine Lw.mono (Lw.has (law_o (S := S') (ob' := .arr T tn l te tk #[]) hy (own_in J1 pz) rfl (om_arr (by simp) .nil) k1 hv) own_hs) ?_
    rintro m3 n3 ⟨os', rfl, O', keep, rfl⟩
    exact ⟨S', os', _, fun p hp => comb_perm.mem_iff.mp hp, stored J1 pz O' rfl trivial (fun ks h => nomatch h), pz.keep, keep, fin⟩
noncomputable def Found (S : PS) (os : List ON) (m : Str → Option Value) : Option Nat → Value → Prop
  | some c, gv => ∃ y x, Cof os c = some y ∧ gv = .ref y ∧ Xof S.ps c = some x ∧ m "found" = some (.ref x)
  | none, gv => gv = .none
theorem law_2c {prog : Program} {w : World} {f : Fix} {S : PS} {os : List ON} {σ : List Cont} {dl : Nat → Nat} {k : Nat} {r : Option Nat} {gv : Value} {m : Str → Option Value} {what : Int} {tw : Tok} {R : Led} (J : LJ prog w f S os R σ dl (k + 1))
    (hg : Found S os m r gv)
    (h1 : m "goal" = some gv) (h2 : m "what" = some (.int what tw)) (h3 : m "run" = some (.ref f.rn)) (h4 : m "heap" = some (.ref f.hp)) :
    Lw prog w [ist 2] m (S.led f (OL os R)) (fun m' n' => ∃ S' os' σ', Has (S'.led f (OL os' R)) n' ∧ LJ prog w f S' os' R σ' dl k ∧ (∀ c y, Xof S.ps c = some y → Xof S'.ps c = some y) ∧ (∀ c y, Cof os c = some y → Cof os' c = some y) ∧ SameBut m m' ["value"]) := by
  have C := fun (c x y : Nat) a b g5 g1 => law_j (c := c) (x := x) (y := y) (m := m) J a b g1 h2 h3 h4 g5
  generalize q0 : ist 2 = s0
  (conv at q0 => lhs; whnf)
  change Stmt.If _ jB _ _ = s0 at q0
  generalize jB = jb at q0 C
  unfold Lw at C ⊢
  unfold lawQ
  generalize qs : lawS = sc at C ⊢
  (conv at qs => lhs; whnf)
  subst q0 qs
  intro p loose mean mg mb dp un gd a ccd h₀ L s Q E B F X N T hd hu hE ret
  cases r with
  | none =>
    subst hg
    have e4 := m_one h1
    rw [e4] at F
    k_steps
    rename Fr _ _ _ _ => F6
    rename News _ _ _ _ => N6
    exact ret _ _ _ _ F6 N6 ⟨S, os, σ, fun xx9 h => h, ⟨J.ok, J.G, J.O, J.dp, J.sk, J.wf.less, J.d0, J.d1, J.len, by have := J.zs; omega⟩, fun xx9 xx9 h => h, fun xx9 xx9 h => h, fun y xx9 => (congrFun e4 y).symm⟩
  | some c9 =>
    obtain ⟨y9, x9, hy9, rfl, hx9, h5⟩ := hg
    have C2 := C c9 x9 y9 hx9 hy9 h5 h1
    have e4 := m_one h1
    rw [e4] at F
    k_steps
    rename Fr _ _ _ _ => F6
    rename News _ _ _ _ => N6
    rw [← e4] at F6
    refine C2 p loose mean mg mb dp un gd a ccd h₀ L _ _ E B F6 X N6 T hd hu hE fun m' n' h' tk' F' N' q => ?_
    exact wpAny_execs_nil (ret _ _ _ _ F' N' q)
end
section
structure Turn (S S' : PS) (os os' : List ON) : Prop where
  x : ∀ c y, Xof S.ps c = some y → Xof S'.ps c = some y
  c : ∀ c y, Cof os c = some y → Cof os' c = some y
theorem LJ.wk {prog : Program} {w : World} {f : Fix} {S : PS} {os : List ON} {R : Led} {σ : List Cont} {dl : Nat → Nat} {k k' : Nat} (J : LJ prog w f S os R σ dl k) (h : k' ≤ k) : LJ prog w f S os R σ dl k' :=
  ⟨J.ok, J.G, J.O, J.dp, J.sk, ⟨by have := J.wf.len; omega, J.wf.hash⟩, J.d0, J.d1, J.len, by have := J.zs; omega⟩
theorem law_if {prog : Program} {w : World} {f : Fix} {S : PS} {os : List ON} {σ : List Cont} {dl : Nat → Nat} {k : Nat} {m : Str → Option Value} {e1 e2 e9 x c j pl ls lc : Nat} {vs : List Value} {path : List Stp} {vx vc : Array Value} {wi what : Int} {tw tw2 : Tok} {R : Led} (J : LJ prog w f S os R σ dl (path.length + (k + 1))) (V : Wh S os R ls lc e1 e2 vx vc wi j x c) (w0 : 0 ≤ wi)
    (hpl : (pl, listOf vs.toArray e9) ∈ R) (hv : All2 (StepR R) vs path) (hp4 : path.length ≤ 4) (sk : SokP path) (hlo : 1 < pl)
    (h1 : m "scalars" = some (.ref ls)) (h2 : m "cells" = some (.ref lc)) (h3 : m "which" = some (.int wi tw)) (h4 : m "path" = some (.ref pl)) (h5 : m "run" = some (.ref f.rn)) (h6 : m "heap" = some (.ref f.hp)) (h7 : m "what" = some (.int what tw2)) :
    Lw prog w ifB m (S.led f (OL os R)) (fun m' n' => ∃ S' os' σ' dl', Has (S'.led f (OL os' R)) n' ∧ LJ prog w f S' os' R σ' dl' k ∧ Turn S S' os os' ∧ SameBut m m' ["goal", "found", "value"]) := by
  show Lw prog w ([ist 0] ++ ([ist 1] ++ [ist 2])) m _ _
  refine Lw.app (law_2a (e1 := e1) (x := x) J V.hc w0 V.mc V.ic V.zc hpl hv hlo h2 h3 h4) ?_
  rintro m1 n1 ⟨gv, ⟨os', σ', r, st, hw, hg⟩, hgo, same⟩
  have e : ∀ {y : Str} {v : Value}, m y = some v → y ≠ "goal" → m1 y = some v := fun h q => (same _ q).trans h
  refine Lw.app (Lw.has (law_2b (e2 := e2) (c := c) J V.hj V.hx w0 V.ms V.ix V.zx hpl hv hp4 sk st hw hg (e h1 (by decide +kernel)) (e h3 (by decide +kernel)) (e h4 (by decide +kernel)) (e h5 (by decide +kernel)) hgo) fun p hp => st.has p (comb_perm.mem_iff.mp hp)) ?_
  rintro m2 n2 ⟨S', dl', rfl, J2, kx, hf, same2⟩
  have e2 : ∀ {y : Str} {v : Value}, m y = some v → y ≠ "goal" → y ≠ "found" → m2 y = some v := fun h q q2 => (same2 _ q2).trans (e h q)
  have fd : Found S' os' m2 r gv := by
    cases r with
    | none => exact hg
    | some c9 =>
      obtain ⟨y, hy, rfl⟩ := hg
      obtain ⟨x2, hx2, hf⟩ := hf
      exact ⟨y, x2, hy, rfl, hx2, hf⟩
  refine Lw.mono (law_2c J2 fd ((same2 _ (by decide +kernel)).trans hgo) (e2 h7 (by decide +kernel) (by decide +kernel)) (e2 h5 (by decide +kernel) (by decide +kernel)) (e2 h6 (by decide +kernel) (by decide +kernel))) ?_
  rintro m3 n3 ⟨S2, os2, σ2, hs, J3, kx2, kc2, same3⟩
  refine ⟨S2, os2, σ2, dl', hs, J3, ⟨fun c y h => kx2 c y (kx c y h), fun c y h => kc2 c y (st.keep c y h)⟩, fun y hy => ?_⟩
  simp only [List.mem_cons, List.not_mem_nil, or_false, not_or] at hy
  exact (same3 y (by simpa using hy.2.2)).trans ((same2 y hy.2.1).trans (same y hy.1))
theorem law_4 {prog : Program} {w : World} {f : Fix} {S : PS} {os : List ON} {σ : List Cont} {dl : Nat → Nat} {k : Nat} {m : Str → Option Value} {e1 e2 e9 x c j pl ls lc : Nat} {vs : List Value} {path : List Stp} {vx vc : Array Value} {wi what : Int} {tw tw2 : Tok} {R : Led} (J : LJ prog w f S os R σ dl (path.length + (k + 1))) (V : Wh S os R ls lc e1 e2 vx vc wi j x c) (w0 : 0 ≤ wi)
    (hpl : (pl, listOf vs.toArray e9) ∈ R) (hv : All2 (StepR R) vs path) (hp4 : path.length ≤ 4) (sk : SokP path) (hlo : 1 < pl)
    (h1 : m "scalars" = some (.ref ls)) (h2 : m "cells" = some (.ref lc)) (h3 : m "which" = some (.int wi tw)) (h4 : m "path" = some (.ref pl)) (h5 : m "run" = some (.ref f.rn)) (h6 : m "heap" = some (.ref f.hp)) (h7 : m "what" = some (.int what tw2)) :
    Lw prog w [fst 4] m (S.led f (OL os R)) (fun m' n' => ∃ S' os' σ' dl', Has (S'.led f (OL os' R)) n' ∧ LJ prog w f S' os' R σ' dl' k ∧ Turn S S' os os' ∧ SameBut m m' ["goal", "found", "value"]) := by
  have C := law_if J V w0 hpl hv hp4 sk hlo h1 h2 h3 h4 h5 h6 h7
  generalize q0 : fst 4 = s0
  (conv at q0 => lhs; whnf)
  change Stmt.If _ ifB _ _ = s0 at q0
  generalize ifB = jb at q0 C
  unfold Lw at C ⊢
  unfold lawQ
  generalize qs : lawS = sc at C ⊢
  (conv at qs => lhs; whnf)
  subst q0 qs
  intro p loose mean mg mb dp un gd a ccd h₀ L s Q E B F X N T hd hu hE ret
  have e4 := m_one h7
  rw [e4] at F
  k_steps
  · rename Fr _ _ _ _ => F6
    rename News _ _ _ _ => N6
    rw [← e4] at F6
    refine C p loose mean mg mb dp un gd a ccd h₀ L _ _ E B F6 X N6 T hd hu hE fun m' n' h' tk' F' N' q => ?_
    exact wpAny_execs_nil (ret _ _ _ _ F' N' q)
  · rename Fr _ _ _ _ => F6
    rename News _ _ _ _ => N6
    exact ret _ _ _ _ F6 N6 ⟨S, os, σ, dl, fun xx9 h => h, J.wk (by omega), ⟨fun xx9 xx9 h => h, fun xx9 xx9 h => h⟩, fun y xx9 => (congrFun e4 y).symm⟩
end
section
theorem M.neD {Γ : Cx} {K : List Fm} {ml : Ml} {G n1 n2 : Led} {v1 v2 : Value} {d : Dat} (D1 : DatIn n1 v1 d) (s1 : Has n1 G) (D2 : DatIn n2 v2 d) (s2 : Has n2 G) (hk : kqdOk 40 d = true) (hu : 64 ≤ Γ.un) (h : Γ.N 90 (.sg (.v (.bool false))) K ml G) : Γ.W (.co .NotEq v1 v2) K ml G := by
  intro p loose mean mg mb dp un gd outer A₀ base h₀ L s Q' E' B F X N T hd hu2 ret exc
  exact dat_ne N D1 s1 D2 s2 hk (Nat.lt_of_le_of_lt (Nat.add_le_add_left hu un) hu2.1) (ret _ _ _ s.heap s.toks F N (Cx.N_ok h))
theorem RInv.all {G0 : Led} {ds : List Dat} {n : Nat} {ys : List Value} {G1 : Led} {D : Addr} (hi : RInv G0 ds n ys G1) (hds : ds.length = n) : ∃ new, G1 = new ++ G0 ∧ DatIn ((D, LCg.lst ys) :: new) (.ref D) (.list ds) := by
  obtain ⟨new, rfl, ho, hD⟩ := hi
  rw [← hds, List.take_length] at hD
  exact ⟨new, rfl, .list (vs := ys) (.head _) (hD.mono fun p hp => .tail _ hp)⟩
theorem comp_out0 {I C D : Addr} {oI oC : Obj} {ys : List Value} {G0 news n' GX new2 : Led} {ds : List Dat} {i : Nat} {y : Value} {d : Dat} (hX : Has (new2 ++ GX) n') (hN : Has ((I, oI) :: (C, oC) :: (D, LCg.lst ys) :: news) GX) (ho2 : Off new2 GX) (off : LCg.Off3 I C D news) (hr : RInv G0 ds i ys news) (hd : DatIn new2 y d) (hi : ds[i]? = some d) :
    ∃ news', Has ((I, oI) :: (C, oC) :: (D, LCg.lst ys) :: news') n' ∧ LCg.Off3 I C D news' ∧ RInv G0 ds (i + 1) (ys ++ [y]) news' := comp_out (extra := []) hX hN ho2 (fun xx9 h => nomatch h) off hr hd hi
theorem kqd_one : ∀ (n : Nat) (d : Dat), kqdOk n d = true → kqdOk (n + 1) d = true := by
  intro n
  induction n with
  | zero => intro d h; cases d <;> simp_all [kqdOk]
  | succ n ih => intro d h; cases d <;> simp_all [kqdOk]
theorem kqd_up : ∀ (m n : Nat) (d : Dat), kqdOk n d = true → kqdOk (n + m) d = true
  | 0, _, _, h => h
  | m + 1, n, d, h => kqd_one _ _ (kqd_up m n d h)
theorem kqd_two {d0 d1 : Dat} (h0 : kqdOk 20 d0 = true) (h1 : kqdOk 20 d1 = true) : kqdOk 40 (.list [d0, d1]) = true := by
  show kqdOk (39 + 1) (.list _) = true
  simp only [kqdOk, List.all_cons, List.all_nil, Bool.and_true, Bool.and_eq_true]
  exact ⟨kqd_up 19 20 _ h0, kqd_up 19 20 _ h1⟩
noncomputable def HitP (prog : Program) (w : World) (G : Led) (vs : Array Value) (ds : List Dat) : Prop := ∀ (i : Nat) (v : Value), vs[i]? = some v → ∃ x dx d y dy k, handedIn y = true ∧ k ≤ 5 ∧ v = Value.ref x ∧ (x, instObj 66 dx) ∈ G ∧ (dx, scD d y) ∈ G ∧ ds[i]? = some dy ∧ ∀ G', Has G G' → RT prog w 600 k y dy G'
noncomputable def HitO (prog : Program) (w : World) (G : Led) (vs : Array Value) (ds : List Dat) : Prop := ∀ (i : Nat) (v : Value), vs[i]? = some v → ∃ c e y dy k, k ≤ 5 ∧ v = Value.ref c ∧ (c, listOf #[y] e) ∈ G ∧ ds[i]? = some dy ∧ ∀ G', Has G G' → RT prog w 605 k y dy G'
inductive Hit2 (prog : Program) (w : World) (GL : Led) (x c : Nat) (d : Dat) : Prop
  | mk {k dx e : Nat} {dd : TD} {y z : Value} (h1 : k ≤ 5) (h2 : handedIn y = true) (h3 : (x, instObj 66 dx) ∈ GL) (h4 : (dx, scD dd y) ∈ GL) (h5 : (c, listOf #[z] e) ∈ GL) (h6 : kqdOk 20 d = true) (h7 : ∀ G', Has GL G' → RT prog w 600 k y d G') (h8 : ∀ G', Has GL G' → RT prog w 605 k z d G') : Hit2 prog w GL x c d
theorem LJ.hit {prog : Program} {w : World} {f : Fix} {S : PS} {os : List ON} {σ : List Cont} {dl : Nat → Nat} {k j x c : Nat} {R : Led} (J : LJ prog w f S os R σ dl k) (hj : j < σ.length) (hx : Xof S.ps j = some x) (hc : Cof os j = some c) : ∃ d, Hit2 prog w (S.led f (OL os R)) x c d := by
  obtain ⟨k, n, m, hn, hm, bn, bm, hh, -, -, k6, CT, CO⟩ := both_at J.G J.O J.dp J.hz J.sk hj
  obtain ⟨n', hn', rfl⟩ := Option.map_eq_some_iff.mp hx
  obtain ⟨m', hm', rfl⟩ := Option.map_eq_some_iff.mp hc
  cases hn.symm.trans hn'
  cases hm.symm.trans hm'
  have h20 := kqd_up (20 - 4 * k) _ _ (dat_ok J.sk k j)
  rw [show 4 * k + (20 - 4 * k) = 20 by omega] at h20
  exact ⟨_, .mk k6 hh (bn _ (.head _)) (bn _ (.tail _ (.head _))) (bm _ (.head _)) h20 CT CO⟩
theorem two_at {a b v : Value} : ∀ {i : Nat}, (#[a, b] : Array Value)[i]? = some v → (i = 0 ∧ v = a) ∨ (i = 1 ∧ v = b)
  | 0, h => .inl ⟨rfl, by cases h; rfl⟩
  | 1, h => .inr ⟨rfl, by cases h; rfl⟩
  | i + 2, h => absurd h (by simp)
theorem Hit2.two {prog : Program} {w : World} {GL : Led} {x0 x1 c0 c1 : Nat} {d0 d1 : Dat} (a : Hit2 prog w GL x0 c0 d0) (b : Hit2 prog w GL x1 c1 d1) : kqdOk 40 (.list [d0, d1]) = true ∧ HitP prog w GL #[.ref x0, .ref x1] [d0, d1] ∧ HitO prog w GL #[.ref c0, .ref c1] [d0, d1] := by
  obtain ⟨a1, a2, a3, a4, a5, a6, a7, a8⟩ := a
  obtain ⟨b1, b2, b3, b4, b5, b6, b7, b8⟩ := b
  refine ⟨kqd_two a6 b6, fun i v hv => ?_, fun i v hv => ?_⟩
  · rcases two_at hv with ⟨rfl, rfl⟩ | ⟨rfl, rfl⟩
    · exact ⟨_, _, _, _, _, _, a2, a1, rfl, a3, a4, rfl, a7⟩
    · exact ⟨_, _, _, _, _, _, b2, b1, rfl, b3, b4, rfl, b7⟩
  · rcases two_at hv with ⟨rfl, rfl⟩ | ⟨rfl, rfl⟩
    · exact ⟨_, _, _, _, _, a1, rfl, a5, rfl, a8⟩
    · exact ⟨_, _, _, _, _, b1, rfl, b5, rfl, b8⟩
theorem LJ.two {prog : Program} {w : World} {f : Fix} {S : PS} {os : List ON} {σ : List Cont} {dl : Nat → Nat} {k : Nat} {e1 e2 x0 x1 c0 c1 ls lc : Nat} {R : Led} (J : LJ prog w f S os R σ dl k) (W : Rows2 S os R ls lc e1 e2 x0 x1 c0 c1) :
    ∃ ds : List Dat, ds.length = 2 ∧ kqdOk 40 (.list ds) = true ∧ HitP prog w (S.led f (OL os R)) #[.ref x0, .ref x1] ds ∧ HitO prog w (S.led f (OL os R)) #[.ref c0, .ref c1] ds := by
  have hl := J.len
  obtain ⟨d0, a⟩ := J.hit (j := 0) (by omega) W.hx0 W.hc0
  obtain ⟨d1, b⟩ := J.hit (j := 1) (by omega) W.hx1 W.hc1
  exact ⟨[d0, d1], rfl, a.two b⟩
theorem law_5 {prog : Program} {w : World} {f : Fix} {S : PS} {os : List ON} {σ : List Cont} {dl : Nat → Nat} {k : Nat} {m : Str → Option Value} {e1 e2 x0 x1 c0 c1 ls lc : Nat} {R : Led} (J : LJ prog w f S os R σ dl k) (W : Rows2 S os R ls lc e1 e2 x0 x1 c0 c1) 
    (h1 : m "scalars" = some (.ref ls)) (h2 : m "cells" = some (.ref lc)) :
    Lw prog w [fst 5] m (S.led f (OL os R)) (fun m' n' => Has (S.led f (OL os R)) n' ∧ SameBut m m' ["one", "cell"]) := by
  generalize q0 : fst 5 = s0
  (conv at q0 => lhs; whnf)
  subst q0
  obtain ⟨ds, hds, hdk, hitP, hitO⟩ := J.two W
  obtain ⟨-, -, -, -, ms, mc⟩ := W
  have ms := base_has (S := S) (f := f) (os := os) _ ms
  have mc := base_has (S := S) (f := f) (os := os) _ mc
  have hl : look ⟨[("scalars", .ref ls), ("cells", .ref lc)], m⟩ = m := look_add1 (look_add1 look_base h2) h1
  generalize S.led f (OL os R) = GL at ms mc hitP hitO ⊢
  refine Lw.ofM (by kernel_rfl) hl fun a ccd Q q => ?_
  intro Γ
  refine Cx.N_ok (n := 90) ?_
  refine M.compL (cl := []) (fun L => by with_unfolding_all rfl) (by decide) rfl (by decide) rfl (fun L y => rfl) (fun Q2 q => q) ms (Nat.le_of_ble_eq_true rfl) (RInv GL ds) RInv.zero (fun i ys n q => q.up _ ms) ?_ ?_
  · intro i ys G1 v I oI C oC D m2 hv hi hC hx off Q2 q2
    obtain ⟨x, dx, d, y, dy, k1, hy, k15, rfl, m1, m2', hd1, C1⟩ := hitP i v hv
    refine M.xCall rfl rfl rfl rfl rfl rfl ?_
    refine M.xLoc rfl rfl rfl (.tail _ (.head _)) hC hx rfl ?_
    refine M.getOwn (.tail _ (.tail _ (.tail _ (hi.up _ m1)))) (.tail _ (.tail _ (.tail _ (hi.up _ m2')))) ga_value rfl hy ?_
    refine M.tel (C1 _ fun p hp => .tail _ (.tail _ (.tail _ (hi.up p hp)))) (fun xx9 h => h) (Nat.le_trans (Nat.add_le_add_right (Nat.mul_le_mul_left 20 k15) 20) (Nat.le_of_ble_eq_true rfl)) (Nat.le_trans (Nat.add_le_add_right (Nat.mul_le_mul_left 100 k15) 60) (Nat.le_of_ble_eq_true rfl)) (fun xx9 h => h) ?_
    rintro rv G2 ⟨new2, hN, ho, hd⟩
    obtain ⟨n9, z1, z2, z3⟩ := comp_out0 hN (fun p hp => hp) ho off hi hd hd1
    exact q2 _ _ _ z1 z2 z3
  · intro D9 ys1 G1 hi1 o1
    obtain ⟨new1, rfl, d1⟩ := RInv.all (D := D9) hi1 hds
    have mc2 : (lc, listOf #[.ref c0, .ref c1] e2) ∈ (D9, LCg.lst ys1) :: (new1 ++ GL) := .tail _ (List.mem_append_right _ mc)
    refine M.compL (cl := []) (fun L => by with_unfolding_all rfl) (by decide) rfl (by decide) rfl (fun L y => rfl) (fun Q2 q => q) mc2 (Nat.le_of_ble_eq_true rfl) (RInv _ ds) RInv.zero (fun i ys n q => q.up _ mc2) ?_ ?_
    · intro i ys G1 v I oI C oC D m2 hv hi hC hx off Q2 q2
      obtain ⟨c, e, y, dy, k1, k15, rfl, m1, hd1, C1⟩ := hitO i v hv
      have hG : Has GL ((I, oI) :: (C, oC) :: (D, LCg.lst ys) :: G1) := fun p hp => .tail _ (.tail _ (.tail _ (hi.up p (.tail _ (List.mem_append_right _ hp)))))
      refine M.xCall rfl rfl rfl rfl rfl rfl ?_
      refine M.xLoc rfl rfl rfl (.tail _ (.head _)) hC hx rfl ?_
      refine fun t3 => M.one (hG _ m1) (by with_unfolding_all rfl) ?_
      refine M.tel (C1 _ hG) (fun xx9 h => h) (Nat.le_trans (Nat.add_le_add_right (Nat.mul_le_mul_left 20 k15) 20) (Nat.le_of_ble_eq_true rfl)) (Nat.le_trans (Nat.add_le_add_right (Nat.mul_le_mul_left 100 k15) 60) (Nat.le_of_ble_eq_true rfl)) (fun xx9 h => h) ?_
      rintro rv G2 ⟨new2, hN, ho, hd⟩
      obtain ⟨n9, z1, z2, z3⟩ := comp_out0 hN (fun p hp => hp) ho off hi hd hd1
      exact q2 _ _ _ z1 z2 z3
    · intro D8 ys2 G1 hi2 o2
      obtain ⟨new2, rfl, d2⟩ := RInv.all (D := D8) hi2 hds
      refine M.neD d1 (fun p hp => .tail _ (List.mem_append_right _ ((List.mem_cons.mp hp).elim (fun e => e ▸ .head _) fun h => .tail _ (List.mem_append_left _ h)))) d2 (fun p hp => (List.mem_cons.mp hp).elim (fun e => e ▸ .head _) fun h => .tail _ (List.mem_append_left _ h)) hdk (Nat.le_of_ble_eq_true rfl) ?_
      exact q _ _ _ (fun p hp => hp) ⟨fun p hp => .tail _ (List.mem_append_right _ (.tail _ (List.mem_append_right _ hp))), fun y hy => congrFun hl y⟩
end
section
theorem M.telL {Γ : Cx} {K : List Fm} {ml : Ml} {G G0 : Led} {f : Addr} {args : List Value} {dn1 un1 : Nat} {post : Value → Led → Prop} (C : TelL Γ.prog Γ.w f args dn1 un1 G0 post) (hs : Has G0 G) (h1 : dn1 ≤ Γ.dn) (h2 : un1 ≤ Γ.un) (k : ∀ r G', post r G' → Γ.N 90 (.sg (.v r)) K ml G') (hp : Γ.φ.top = true := by rfl) (hc : Γ.φ.cl = [] := by rfl) : Γ.W (.cl (.cal (.ref f)) args) K ml G := by
  intro p loose mean mg mb dp un gd outer A₀ base h₀ L s Q' E' B F X N T hd hu ret exc
  obtain ⟨rfl, rfl⟩ := hu.2.2.2.2 hp
  unfold TelL at C
  rw [hc]
  exact C p loose mean mg mb dp un gd _ _ _ _ A₀ _ _ L _ s Q' E' B F X (News.has N hs) T X T Γ.hk (Nat.lt_of_le_of_lt (Nat.add_le_add_left h1 dp) hd) (Nat.lt_of_le_of_lt (Nat.add_le_add_left h2 un) hu.1) fun r n' h' tk' F' N' q => ret r _ n' h' tk' F' N' (Cx.N_ok (k r n' q))
theorem law_6 {prog : Program} {w : World} {f : Fix} {S : PS} {os : List ON} {σ : List Cont} {dl : Nat → Nat} {k : Nat} {m : Str → Option Value} {e1 x j ls : Nat} {vx : Array Value} {wi : Int} {tw : Tok} {R : Led} (J : LJ prog w f S os R σ dl k) (hx : Xof S.ps j = some x) (w0 : 0 ≤ wi) (ms : (ls, listOf vx e1) ∈ R) (ix : vx[wi.toNat]? = some (.ref x)) (zx : vx.size = 2)
    (h1 : m "scalars" = some (.ref ls)) (h2 : m "which" = some (.int wi tw)) (h3 : m "run" = some (.ref f.rn)) :
    Lw prog w [fst 6] m (S.led f (OL os R)) (fun m' n' => Has (S.led f (OL os R)) n' ∧ m' = m) := by
  generalize q0 : fst 6 = s0
  (conv at q0 => lhs; whnf)
  subst q0
  obtain ⟨n, hn, rfl⟩ := Option.map_eq_some_iff.mp hx
  have C := derefs_s (rn := f.rn) J.G J.dp J.hz hn (fun k hk => told_s J.G J.dp J.hz k j n hn hk _ (fun xx9 h => h))
  have bn : Has (PN.blk n) (S.led f (OL os R)) := blk_has hn
  obtain ⟨x, dx, d, b⟩ := n
  have hh := PB.handed b
  have hl : look ⟨[("scalars", .ref ls), ("which", .int wi tw), ("run", .ref f.rn)], m⟩ = m := look_add1 (look_add1 (look_add1 look_base h3) h2) h1
  refine Lw.ofM (by kernel_rfl) hl fun a ccd Q q => ?_
  intro Γ
  refine Cx.N_ok (n := 90) ?_
  refine M.item (base_has _ ms) w0 (by omega) ix (by with_unfolding_all rfl) ?_
  refine M.getOwn (bn _ (.head _)) (bn _ (.tail _ (.head _))) ga_value rfl hh ?_
  refine M.telL C (fun xx9 h => h) (Nat.le_of_ble_eq_true rfl) (Nat.le_of_ble_eq_true rfl) ?_
  rintro _ G2 ⟨rfl, q9⟩
  exact q _ _ _ (fun xx9 h => h) ⟨q9, hl⟩
end
section
theorem Rows2.turn {S S' : PS} {os os' : List ON} {R : Led} {ls lc e1 e2 x0 x1 c0 c1 : Nat} (W : Rows2 S os R ls lc e1 e2 x0 x1 c0 c1) (T : Turn S S' os os') : Rows2 S' os' R ls lc e1 e2 x0 x1 c0 c1 :=
  ⟨T.x _ _ W.hx0, T.x _ _ W.hx1, T.c _ _ W.hc0, T.c _ _ W.hc1, W.ms, W.mc⟩
theorem law_turn {prog : Program} {w : World} {f : Fix} {S : PS} {os : List ON} {σ : List Cont} {dl : Nat → Nat} {k : Nat} {m : Str → Option Value} {ln e e1 e2 x0 x1 c0 c1 : Nat} {nv : List Value} {ns : List Int} {i : Int} {ti : Tok} {ls lc : Nat} {R : Led} (J : LJ prog w f S os R σ dl (5 + k)) (W : Rows2 S os R ls lc e1 e2 x0 x1 c0 c1) (hln : (ln, listOf nv.toArray e) ∈ R)
    (hi : IntsAre nv ns) (hz : ns.length ≤ 20) (hi0 : 0 ≤ i) (hi1 : i + 1 < ns.length) (h1 : m "numbers" = some (.ref ln)) (h2 : m "at" = some (.int i ti)) (h3 : m "scalars" = some (.ref ls)) (h4 : m "cells" = some (.ref lc)) (h5 : m "run" = some (.ref f.rn)) (h6 : m "heap" = some (.ref f.hp)) :
    Lw prog w forB m (S.led f (OL os R)) (fun m' n' => ∃ S' os' σ' dl', Has (S'.led f (OL os' R)) n' ∧ LJ prog w f S' os' R σ' dl' k ∧ Rows2 S' os' R ls lc e1 e2 x0 x1 c0 c1 ∧ SameBut m m' ["n", "what", "which", "path", "goal", "found", "value", "one", "cell"]) := by
  show Lw prog w ([fst 0, fst 1, fst 2, fst 3] ++ ([fst 4] ++ ([fst 5] ++ [fst 6]))) m _ _
  refine Lw.app (law_1 J W hln hi hz hi0 hi1 h1 h2 h3 h4) ?_
  rintro m1 n1 ⟨A, pl, e9, vs, path, wi, what, tw, tw2, j, x, c, rfl, J1, hpl, hv, hp4, sk, hlo, V, p1, p2, p3, same⟩
  have e : ∀ {y : Str} {v : Value}, m y = some v → y ≠ "n" → y ≠ "what" → y ≠ "which" → y ≠ "path" → m1 y = some v := fun h a b c d => (same _ a b c d).trans h
  have V2 := V.grow (A := A)
  have w0 : 0 ≤ wi := by have := V.hw; omega
  refine Lw.app (law_4 (k := k) (J1.wk (by omega)) V2 w0 (List.mem_append_left _ hpl) (hv.mono (StepR.mono fun p hp => List.mem_append_left _ hp)) hp4 sk hlo (e h3 (by decide +kernel) (by decide +kernel) (by decide +kernel) (by decide +kernel)) (e h4 (by decide +kernel) (by decide +kernel) (by decide +kernel) (by decide +kernel)) p2 p1 (e h5 (by decide +kernel) (by decide +kernel) (by decide +kernel) (by decide +kernel)) (e h6 (by decide +kernel) (by decide +kernel) (by decide +kernel) (by decide +kernel)) p3) ?_
  rintro m2 n2 ⟨S', os', σ', dl', hs, J2, T2, same2⟩
  have J3 := J2.less
  have W3 := W.turn T2
  have hs3 : Has (S'.led f (OL os' R)) n2 := fun p hp => hs p (both_app.mem_iff.mpr (List.mem_append_right _ hp))
  have e2 : ∀ {y : Str} {v : Value}, m1 y = some v → y ∉ (["goal", "found", "value"] : List Str) → m2 y = some v := fun h a => (same2 _ a).trans h
  have k3 := e2 (e h3 (by decide +kernel) (by decide +kernel) (by decide +kernel) (by decide +kernel)) (by decide +kernel)
  have k4 := e2 (e h4 (by decide +kernel) (by decide +kernel) (by decide +kernel) (by decide +kernel)) (by decide +kernel)
  have k5 := e2 (e h5 (by decide +kernel) (by decide +kernel) (by decide +kernel) (by decide +kernel)) (by decide +kernel)
  have k2 := e2 p2 (by decide +kernel)
  refine Lw.app (Lw.has (law_5 J3 W3 k3 k4) hs3) ?_
  rintro m3 n3 ⟨hs4, same3⟩
  have e3 : ∀ {y : Str} {v : Value}, m2 y = some v → y ∉ (["one", "cell"] : List Str) → m3 y = some v := fun h a => (same3 _ a).trans h
  refine Lw.mono (Lw.has (law_6 J3 (T2.x _ _ V.hx) w0 V.ms V.ix V.zx (e3 k3 (by decide +kernel)) (e3 k2 (by decide +kernel)) (e3 k5 (by decide +kernel))) hs4) ?_
  rintro m4 n4 ⟨hs5, rfl⟩
  refine ⟨S', os', σ', dl', hs5, J3, W3, fun y hy => ?_⟩
  simp only [List.mem_cons, List.not_mem_nil, or_false, not_or] at hy
  obtain ⟨a1, a2, a3, a4, a5, a6, a7, a8, a9⟩ := hy
  exact (same3 y (by simp [a8, a9])).trans ((same2 y (by simp [a5, a6, a7])).trans (same y a1 a2 a3 a4))
theorem LJ.cons {prog : Program} {w : World} {f : Fix} {S : PS} {os : List ON} {R : Led} {σ : List Cont} {dl : Nat → Nat} {k : Nat} {q : Addr × Obj} (J : LJ prog w f S os R σ dl k) (o : ∀ p ∈ S.led f (OL os R), p.1 ≠ q.1) : LJ prog w f S os (q :: R) σ dl k :=
  have U : Uq (S.led f (OL os (q :: R))) := (J.G.uq.cons o).perm (both_app (A := [q])).symm
  ⟨J.ok, ⟨U, J.G.len, J.G.cm⟩, ⟨U.perm comb_perm, J.O.len, J.O.cm⟩, J.dp, J.sk, J.wf, J.d0, J.d1, J.len, J.zs⟩
theorem LJ.off {prog : Program} {w : World} {f : Fix} {S : PS} {os : List ON} {R : Led} {σ : List Cont} {dl : Nat → Nat} {k : Nat} {q : Addr × Obj} (J : LJ prog w f S os (q :: R) σ dl k) : ∀ p ∈ S.led f (OL os R), p.1 ≠ q.1 := by
  have h := J.G.uq.perm (both_app (A := [q]))
  unfold Uq at h
  rw [List.singleton_append, List.map_cons, List.nodup_cons] at h
  exact fun p hp e => h.1 (List.mem_map.mpr ⟨p, hp, e⟩)
structure NInv (prog : Program) (w : World) (f : Fix) (R : Led) (I : Addr) (k : Nat) (ls lc e1 e2 x0 x1 c0 c1 ln : Nat) (m : Str → Option Value) (news : Led) (S : PS) (os : List ON) (σ : List Cont) (dl : Nat → Nat) : Prop where
  led : news = S.led f (OL os R)
  off : ∀ p ∈ news, p.1 ≠ I
  J : LJ prog w f S os R σ dl (5 * k)
  W : Rows2 S os R ls lc e1 e2 x0 x1 c0 c1
  numbers : m "numbers" = some (.ref ln)
  scalars : m "scalars" = some (.ref ls)
  cells : m "cells" = some (.ref lc)
  run : m "run" = some (.ref f.rn)
  heap : m "heap" = some (.ref f.hp)
section
variable {prog : Program} {w : World} {φ : Fn} {dn un' : Nat} {m : Str → Option Value} {G : Led} {Z : Led → Prop} {Q : Value → (Str → Option Value) → Led → Prop}
theorem R.callTn {T : String} {pos : Pos} {e : PySem.Expr} {r : List PySem.Expr} (h : Wt prog w φ dn un' (fun env => spliced (backTo pos (starEach (e :: r) env))) m G (fun vs m1 G1 => R.Wv prog w φ dn un' (PySem.call (.type T) vs) m1 G1 Q Z) Z) (he : ∀ L, starEach (e :: r) (φ.env L) = (false, eval e (φ.env L)) :: starEach r (φ.env L)) (hp : ∀ L, (backTo pos (starEach r (φ.env L))).any (·.1) = false) : Wt prog w φ dn un' (fun env => callWith pos (.type T) [] (backTo pos (starEach (e :: r) env)) []) m G Q Z := by
  intro p loose mean mg mb dp un gd outer A₀ base h₀ L s Q' E' B F X N T hd hu ret exc
  have k := h p loose mean mg mb dp un gd outer A₀ base h₀ L s (fun vs s1 => wpAny (model prog w) _ (PySem.call (.type _) vs) Q' E' s1) E' B F X N T hd hu (fun vs m1 G1 h1 t1 F1 N1 q => q p loose mean mg mb dp un gd outer A₀ base h₀ L { s with heap := h1, toks := t1 } _ E' B F1 X N1 T hd hu ret exc) exc
  dsimp only at k ⊢
  exact callWith_type1 k (he L) (hp L)
theorem R.lenL {l e : Nat} {vs : Array Value} (hm : (l, listOf vs e) ∈ G) (hz : vs.size ≤ 1000) (h : ∀ tk, Q (.int vs.size tk) m G) : R.Wv prog w φ dn un' (PySem.call (.builtin "len") [.ref l]) m G Q Z := by
  intro p loose mean mg mb dp un gd outer A₀ base h₀ L s Q' E' B F X N T hd hu ret exc
  exact len_L N hm hz (ret _ m G s.heap _ F N (h _))
theorem R.range2 {b : Int} {t u v : Tok} (h : ∀ r t1 t2 t3, Q (.ref r) m ((r, ({ cls := .type "range", data := .fields #[.int 0 t1, .int b t2, .int 2 t3] } : Obj)) :: G)) : R.Wv prog w φ dn un' (PySem.call (.type "range") [.int 0 t, .int b u, .int 2 v]) m G Q Z := by
  intro p loose mean mg mb dp un gd outer A₀ base h₀ L s Q' E' B F X N T hd hu ret exc
  exact call_range_3 (by decide) (ret _ m _ _ _ (F.push _) (News.push F N _) (h _ _ _ _)) (.inl (PyProof.noPylong_of_log2 (by decide +kernel)))
theorem range_call {ln e : Nat} {nv : Array Value} {pr p0 pl pn pc p1 pb p2 cp : Pos} {k0 k1 k2 : Nat} (ok : φ.ok) (hm : (ln, listOf nv e) ∈ G) (hz : nv.size ≤ 1000) (h1 : m "numbers" = some (.ref ln)) (kn : (φ.env 0).kindOf "numbers" = some .local) (kl : (φ.env 0).kindOf "len" = some .globalImplicit) (kr : (φ.env 0).kindOf "range" = some .globalImplicit)
    (q : ∀ r t1 t2 t3, Q (.ref r) m ((r, ({ cls := .type "range", data := .fields #[.int 0 t1, .int ((nv.size : Int) - 1) t2, .int 2 t3] } : Obj)) :: G)) :
    R.We prog w φ dn un' (.Call (.Name "range" pr) [.Constant (.int 0) k0 p0, .BinOp (.Call (.Name "len" pl) [.Name "numbers" pn] [] pc) .Sub (.Constant (.int 1) k1 p1) pb, .Constant (.int 2) k2 p2] [] cp) m G Q Z := by
  refine R.call (R.nameB (v := .type "range") (by k_is) (by decide +kernel) (by decide +kernel) kr ok (by decide +kernel) (R.callTn (R.acons (R.int fun t0 => R.acons (R.binop (R.call (R.nameB (v := .builtin "len") (by k_is) (by decide +kernel) (by decide +kernel) kl ok (by decide +kernel) (R.callwB (R.acons (R.name h1 kn ok (by decide +kernel) (R.anil ?_)) fun xx9 => rfl) (fun xx9 => rfl) fun xx9 => rfl)) fun xx9 => rfl)) fun xx9 => rfl) fun xx9 => rfl) (fun xx9 => rfl) fun xx9 => rfl)) fun xx9 => rfl
  exact R.lenL hm hz fun t => R.int fun t1 => Wt.valt (f := .int ((nv.size : Int) - 1)) (fun t2 => R.acons (R.int fun t3 => R.anil (R.range2 q)) fun xx9 => rfl) fun h => sub_int h
end
theorem range_facts : ∀ n : Nat, n < 21 → 1 ≤ n → Builtin.Range.rangeSize 0 ((n : Int) - 1) 2 = ((n / 2 : Nat) : Int) ∧ Builtin.Range.small 0 ((n : Int) - 1) 2 = true := by decide +kernel
theorem law_for {prog : Program} {w : World} {f : Fix} {S : PS} {os : List ON} {σ : List Cont} {dl : Nat → Nat} {m : Str → Option Value} {ln e e1 e2 x0 x1 c0 c1 : Nat} {nv : List Value} {ns : List Int} {ls lc : Nat} {R : Led} (J : LJ prog w f S os R σ dl 50) (W : Rows2 S os R ls lc e1 e2 x0 x1 c0 c1) (hln : (ln, listOf nv.toArray e) ∈ R)
    (hi : IntsAre nv ns) (hz : ns.length ≤ 20) (hz0 : 1 ≤ ns.length) (h1 : m "numbers" = some (.ref ln)) (h3 : m "scalars" = some (.ref ls)) (h4 : m "cells" = some (.ref lc)) (h5 : m "run" = some (.ref f.rn)) (h6 : m "heap" = some (.ref f.hp)) :
    Lw prog w [lst 5] m (S.led f (OL os R)) (fun m' n' => True) := by
  have CT := fun (S : PS) os σ dl k m i ti (q : Addr × Obj) J W g1 g2 g3 g4 g5 g6 g7 g8 => law_turn (prog := prog) (w := w) (f := f) (S := S) (os := os) (σ := σ) (dl := dl) (k := k) (m := m) (e := e) (e1 := e1) (e2 := e2) (x0 := x0) (x1 := x1) (c0 := c0) (c1 := c1) (i := i) (ti := ti) (ls := ls) (lc := lc) (R := q :: R) J W (.tail _ hln) hi hz g1 g2 g3 g4 g5 g6 g7 g8
  generalize q0 : lst 5 = s0
  (conv at q0 => lhs; whnf)
  change Stmt.For _ _ forB _ _ = s0 at q0
  generalize forB = fb at q0 CT
  have hsz : nv.toArray.size = ns.length := by rw [List.size_toArray]; first | exact hi.length | exact hi.length.symm
  have E2 := fun a ccd pr p0 pl pn pc p1 pb p2 cp k0 k1 k2 => range_call (prog := prog) (w := w) (φ := ⟨lawQ, lawS, a, ccd, [], Option.none, Option.none, true⟩) (dn := 298) (un' := 1490) (Z := fun xx9 => False) (pr := pr) (p0 := p0) (pl := pl) (pn := pn) (pc := pc) (p1 := p1) (pb := pb) (p2 := p2) (cp := cp) (k0 := k0) (k1 := k1) (k2 := k2) ⟨rfl, by kernel_rfl⟩ (base_has (S := S) (f := f) (os := os) _ hln) (by rw [hsz]; exact Nat.le_trans hz (by decide)) h1 (by kernel_rfl) (by kernel_rfl) (by kernel_rfl) (Q := fun v m1 G1 => m1 = m ∧ ∃ r t1 t2 t3, v = .ref r ∧ G1 = (r, ({ cls := .type "range", data := .fields #[.int 0 t1, .int ((nv.toArray.size : Int) - 1) t2, .int 2 t3] } : Obj)) :: S.led f (OL os R)) (fun r t1 t2 t3 => ⟨rfl, r, t1, t2, t3, rfl, rfl⟩)
  unfold Lw at CT ⊢
  subst q0
  intro p loose mean mg mb dp un gd a ccd h₀ L s Q E B F X N T hd hu hE ret
  obtain ⟨hrs, hsm⟩ := range_facts ns.length (by omega) hz0
  rw [← show ((nv.toArray.size : Nat) : Int) = (ns.length : Int) by rw [hsz]] at hrs hsm
  rw [exec_one]
  refine For_invVF (env := envOf lawQ lawS L a ccd) F (by kernel_rfl) (by kernel_rfl) ?_ (hE := hE.1)
  refine E2 a ccd _ _ _ _ _ _ _ _ _ _ _ _ p loose mean mg mb (dp + 1) (un + 3) gd [] (kA dp un gd) h₀ h₀ L s _ E B F X N T (by omega) ⟨by omega, hE.1, .inl rfl, ⟨(fun xx9 h => nomatch h), fun xx9 => ⟨rfl, rfl⟩⟩⟩ (fun v m1 G1 h1 t1 F1 N1 q => ?_) fun xx9 xx9 xx9 xx9 xx9 xx9 xx9 xx9 xx9 q => q.elim
  obtain ⟨rfl, r, t1, t2, t3, rfl, rfl⟩ := q
  refine krs_iter (env := envOf lawQ lawS L a ccd) (n := ns.length / 2) rfl (N1 _ (.head _)).1 hsm hrs F1 (News.has N1 fun p hp => .tail _ hp) ?_
  intro I l1
  have o1 : ∀ p ∈ S.led f (OL os R), p.1 ≠ I := fun p hp => Nat.ne_of_lt (l1 p hp)
  refine krs_ind (inv := fun i m news => ∃ S os σ dl, NInv prog w f R I (10 - i) ls lc e1 e2 x0 x1 c0 c1 ln m news S os σ dl) ?_ ?_ _ 0 _ _ (Nat.zero_add _) ⟨S, os, σ, dl, rfl, o1, J, W, h1, h3, h4, h5, h6⟩
  · rintro m1 news1 ⟨S1, os1, σ1, dl1, W1⟩ h tk F1 N1
    obtain ⟨rfl, -⟩ := W1
    exact ret _ _ _ _ F1 N1 trivial
  · rintro i m1 news1 hi' ⟨S1, os1, σ1, dl1, W1⟩ t h tk F1 N1
    obtain ⟨rfl, off, J1, W2, g1, g2, g3, g4, g5⟩ := W1
    have hk : 5 * (10 - i) = 5 + 5 * (10 - (i + 1)) := by omega
    rw [hk] at J1
    have N2 : News h₀ L h (S1.led f (OL os1 ((I, krsIt (0 + ((i + 1 : Nat) : Int) * 2) (((ns.length / 2 : Nat) : Int) - ((i + 1 : Nat) : Int)) 2) :: R))) := News.has N1 fun p hp => (both_app (A := [_])).mem_iff.mp hp
    let m2 : Str → Option Value := fun y => if y = Str.ofString "at" then some (Value.int (0 + (i : Int) * 2) t) else m1 y
    have e : ∀ {y : Str} {v : Value}, m1 y = some v → y ≠ "at" → m2 y = some v := fun h q => (if_neg q).trans h
    have C2 := CT S1 os1 σ1 dl1 (5 * (10 - (i + 1))) m2 (0 + (i : Int) * 2) t (I, krsIt (0 + ((i + 1 : Nat) : Int) * 2) (((ns.length / 2 : Nat) : Int) - ((i + 1 : Nat) : Int)) 2) (J1.cons off) ⟨W2.hx0, W2.hx1, W2.hc0, W2.hc1, .tail _ W2.ms, .tail _ W2.mc⟩ (by omega) (by omega) (e g1 (by decide +kernel)) (if_pos rfl) (e g2 (by decide +kernel)) (e g3 (by decide +kernel)) (e g4 (by decide +kernel)) (e g5 (by decide +kernel))
    refine C2 p loose mean mg mb dp un gd a ccd h₀ L _ _ E B F1 X N2 T hd hu hE ?_
    rintro m' n' h' tk' F' N' ⟨S', os', σ', dl', hs, J', W', same⟩
    have off' := J'.off
    have N3 := News.has N' fun p hp => hs p ((both_app (A := [_])).mem_iff.mpr hp)
    have e' : ∀ {y : Str} {v : Value}, m1 y = some v → y ≠ "at" → y ∉ (["n", "what", "which", "path", "goal", "found", "value", "one", "cell"] : List Str) → m' y = some v := fun h q r => (same _ r).trans (e h q)
    exact ⟨h', tk', m', S'.led f (OL os' R), rfl, F', N3, off', S', os', σ', dl', rfl, off', J'.less (A := [_]), ⟨W'.hx0, W'.hx1, W'.hc0, W'.hc1, W2.ms, W2.mc⟩, e' g1 (by decide +kernel) (by decide +kernel), e' g2 (by decide +kernel) (by decide +kernel), e' g3 (by decide +kernel) (by decide +kernel), e' g4 (by decide +kernel) (by decide +kernel), e' g5 (by decide +kernel) (by decide +kernel)⟩
end
section
noncomputable def SAs (w : World) (C : Addr) : List Str → Prop
  | [] => True
  | a :: r => SA w C a ∧ SAs w C r
theorem sa568 {w : World} : SAs w 568 ["heap", "counter", "stash", "limits", "nodes", "lvs", "statements", "funcs", "operators", "out", "err", "saves", "frames", "match", "patterns", "empties", "steps", "methods", "call_code", "compile_text"] := ⟨⟨by k_is, by k_is, by k_is, by k_is⟩, ⟨by k_is, by k_is, by k_is, by k_is⟩, ⟨by k_is, by k_is, by k_is, by k_is⟩, ⟨by k_is, by k_is, by k_is, by k_is⟩, ⟨by k_is, by k_is, by k_is, by k_is⟩, ⟨by k_is, by k_is, by k_is, by k_is⟩, ⟨by k_is, by k_is, by k_is, by k_is⟩, ⟨by k_is, by k_is, by k_is, by k_is⟩, ⟨by k_is, by k_is, by k_is, by k_is⟩, ⟨by k_is, by k_is, by k_is, by k_is⟩, ⟨by k_is, by k_is, by k_is, by k_is⟩, ⟨by k_is, by k_is, by k_is, by k_is⟩, ⟨by k_is, by k_is, by k_is, by k_is⟩, ⟨by k_is, by k_is, by k_is, by k_is⟩, ⟨by k_is, by k_is, by k_is, by k_is⟩, ⟨by k_is, by k_is, by k_is, by k_is⟩, ⟨by k_is, by k_is, by k_is, by k_is⟩, ⟨by k_is, by k_is, by k_is, by k_is⟩, ⟨by k_is, by k_is, by k_is, by k_is⟩, ⟨by k_is, by k_is, by k_is, by k_is⟩, trivial⟩
theorem run_init {prog : Program} {w : World} {x dx : Nat} {v1 v2 v3 v4 : Value} {G : Led} (hx : x ≠ dx) (ha : Above dx G) :
    TelC prog w 565 ⟨[.ref x, v1, v2, v3, v4], []⟩ 5 20 ((x, instObj 568 dx) :: (dx, dictOf [] 0) :: G) (fun r n => r = .none ∧ ∃ es, getL "heap" es = some (some v1) ∧ getL "counter" es = some (some v2) ∧ getL "limits" es = some (some v4) ∧ n = (x, instObj 568 dx) :: (dx, dictOf es 20) :: G) (fun xx9 => False) := by
  k_dflt (refine' TelC.ofM (dn := 4) (un' := 17) ?k6 ?k7 ?k9 ?kB ?c2 ?c3 ?c4 ?c5 ?_; (case k6 => k_is); (case k7 => k_is); (case k9 => exact fun s X => BindsTo.of_eq rfl); (case kB => exact locs rfl); (case c5 => decide); (case c2 => exact rfl); (case c3 => exact rfl); (case c4 => exact rfl))
  intro Q Z _ q1 _ Γ
  have hr := ha.ne
  refine M.setNew hx hr sa568.1 (by kernel_rfl) (Nat.le_of_ble_eq_true (by kernel_rfl)) fun h0 t0 => ?_
  refine M.setNew hx hr sa568.2.1 (by kernel_rfl) (Nat.le_of_ble_eq_true (by kernel_rfl)) fun h1 t1 => ?_
  refine M.setNew hx hr sa568.2.2.1 (by kernel_rfl) (Nat.le_of_ble_eq_true (by kernel_rfl)) fun h2 t2 => ?_
  refine M.setNew hx hr sa568.2.2.2.1 (by kernel_rfl) (Nat.le_of_ble_eq_true (by kernel_rfl)) fun h3 t3 => ?_
  refine M.newDict fun l o hl o1 o2 => ?_
  refine M.led (c := .sa _ _ _) ((x, instObj 568 dx) :: (dx, _) :: G) (by exact trivial) (fun xx9 h => .tail _ h) ?_
  refine M.setNew hx hr sa568.2.2.2.2.1 (by kernel_rfl) (Nat.le_of_ble_eq_true (by kernel_rfl)) fun h4 t4 => ?_
  refine M.newDict fun l o hl o1 o2 => ?_
  refine M.led (c := .sa _ _ _) ((x, instObj 568 dx) :: (dx, _) :: G) (by exact trivial) (fun xx9 h => .tail _ h) ?_
  refine M.setNew hx hr sa568.2.2.2.2.2.1 (by kernel_rfl) (Nat.le_of_ble_eq_true (by kernel_rfl)) fun h5 t5 => ?_
  refine M.newDict fun l o hl o1 o2 => ?_
  refine M.led (c := .sa _ _ _) ((x, instObj 568 dx) :: (dx, _) :: G) (by exact trivial) (fun xx9 h => .tail _ h) ?_
  refine M.setNew hx hr sa568.2.2.2.2.2.2.1 (by kernel_rfl) (Nat.le_of_ble_eq_true (by kernel_rfl)) fun h6 t6 => ?_
  refine M.newDict fun l o hl o1 o2 => ?_
  refine M.led (c := .sa _ _ _) ((x, instObj 568 dx) :: (dx, _) :: G) (by exact trivial) (fun xx9 h => .tail _ h) ?_
  refine M.setNew hx hr sa568.2.2.2.2.2.2.2.1 (by kernel_rfl) (Nat.le_of_ble_eq_true (by kernel_rfl)) fun h7 t7 => ?_
  refine M.newDict fun l o hl o1 o2 => ?_
  refine M.led (c := .sa _ _ _) ((x, instObj 568 dx) :: (dx, _) :: G) (by exact trivial) (fun xx9 h => .tail _ h) ?_
  refine M.setNew hx hr sa568.2.2.2.2.2.2.2.2.1 (by kernel_rfl) (Nat.le_of_ble_eq_true (by kernel_rfl)) fun h8 t8 => ?_
  refine M.newList (by decide) fun l hl => ?_
  refine M.led (c := .sa _ _ _) ((x, instObj 568 dx) :: (dx, _) :: G) (by exact trivial) (fun xx9 h => .tail _ h) ?_
  refine M.setNew hx hr sa568.2.2.2.2.2.2.2.2.2.1 (by kernel_rfl) (Nat.le_of_ble_eq_true (by kernel_rfl)) fun h9 t9 => ?_
  refine M.newList (by decide) fun l hl => ?_
  refine M.led (c := .sa _ _ _) ((x, instObj 568 dx) :: (dx, _) :: G) (by exact trivial) (fun xx9 h => .tail _ h) ?_
  refine M.setNew hx hr sa568.2.2.2.2.2.2.2.2.2.2.1 (by kernel_rfl) (Nat.le_of_ble_eq_true (by kernel_rfl)) fun h10 t10 => ?_
  refine M.newList (by decide) fun l hl => ?_
  refine M.led (c := .sa _ _ _) ((x, instObj 568 dx) :: (dx, _) :: G) (by exact trivial) (fun xx9 h => .tail _ h) ?_
  refine M.setNew hx hr sa568.2.2.2.2.2.2.2.2.2.2.2.1 (by kernel_rfl) (Nat.le_of_ble_eq_true (by kernel_rfl)) fun h11 t11 => ?_
  refine M.newList (by decide) fun l hl => ?_
  refine M.led (c := .sa _ _ _) ((x, instObj 568 dx) :: (dx, _) :: G) (by exact trivial) (fun xx9 h => .tail _ h) ?_
  refine M.setNew hx hr sa568.2.2.2.2.2.2.2.2.2.2.2.2.1 (by kernel_rfl) (Nat.le_of_ble_eq_true (by kernel_rfl)) fun h12 t12 => ?_
  refine M.setNew hx hr sa568.2.2.2.2.2.2.2.2.2.2.2.2.2.1 (by kernel_rfl) (Nat.le_of_ble_eq_true (by kernel_rfl)) fun h13 t13 => ?_
  refine M.newDict fun l o hl o1 o2 => ?_
  refine M.led (c := .sa _ _ _) ((x, instObj 568 dx) :: (dx, _) :: G) (by exact trivial) (fun xx9 h => .tail _ h) ?_
  refine M.setNew hx hr sa568.2.2.2.2.2.2.2.2.2.2.2.2.2.2.1 (by kernel_rfl) (Nat.le_of_ble_eq_true (by kernel_rfl)) fun h14 t14 => ?_
  refine M.newDict fun l o hl o1 o2 => ?_
  refine M.led (c := .sa _ _ _) ((x, instObj 568 dx) :: (dx, _) :: G) (by exact trivial) (fun xx9 h => .tail _ h) ?_
  refine M.setNew hx hr sa568.2.2.2.2.2.2.2.2.2.2.2.2.2.2.2.1 (by kernel_rfl) (Nat.le_of_ble_eq_true (by kernel_rfl)) fun h15 t15 => ?_
  intro tk
  refine M.setNew hx hr sa568.2.2.2.2.2.2.2.2.2.2.2.2.2.2.2.2.1 (by kernel_rfl) (Nat.le_of_ble_eq_true (by kernel_rfl)) fun h16 t16 => ?_
  refine M.setNew hx hr sa568.2.2.2.2.2.2.2.2.2.2.2.2.2.2.2.2.2.1 (by kernel_rfl) (Nat.le_of_ble_eq_true (by kernel_rfl)) fun h17 t17 => ?_
  refine M.setNew hx hr sa568.2.2.2.2.2.2.2.2.2.2.2.2.2.2.2.2.2.2.1 (by kernel_rfl) (Nat.le_of_ble_eq_true (by kernel_rfl)) fun h18 t18 => ?_
  refine M.setNew hx hr sa568.2.2.2.2.2.2.2.2.2.2.2.2.2.2.2.2.2.2.2.1 (by kernel_rfl) (Nat.le_of_ble_eq_true (by kernel_rfl)) fun h19 t19 => ?_
  exact q1 _ _ ⟨rfl, _, by kernel_rfl, by kernel_rfl, by kernel_rfl, rfl⟩
end
section
noncomputable def hf (a1 a2 a3 a4 a5 a6 : Int) : Nat → Int
  | 1 => a1 | 2 => a2 | 3 => a3 | 4 => a4 | 5 => a5 | _ => a6
noncomputable def tf (a1 a2 a3 a4 a5 a6 a7 : Tok) : Nat → Tok
  | 1 => a1 | 2 => a2 | 3 => a3 | 4 => a4 | 5 => a5 | 6 => a6 | _ => a7
noncomputable abbrev fixL (f : Fix) (n : Int) (tn : Tok) : Led := PS.led f ⟨[], n, tn, #[], 0⟩ []
theorem fix_uq {f : Fix} {n : Int} {tn : Tok} (q1 : @LT.lt Nat _ f.dhp f.hp) (q2 : @LT.lt Nat _ f.hp f.zr) (q3 : @LT.lt Nat _ f.zr f.dct) (q4 : @LT.lt Nat _ f.dct f.ct) (q5 : @LT.lt Nat _ f.ct f.pl) (q6 : @LT.lt Nat _ f.pl f.dli) (q7 : @LT.lt Nat _ f.dli f.li) (q8 : @LT.lt Nat _ f.li f.drn) (q9 : @LT.lt Nat _ f.drn f.rn) : Uq (fixL f n tn) ∧ 1 < f.pl := by
  have a : ∀ {x y : Nat} {o : Obj} {l : Led}, x < y → Above x l → Above y ((x, o) :: l) := fun h k => above_cons h (Above.up k h)
  have h0 : Above f.dhp [] := fun xx9 h => nomatch h
  have u : Uq ((f.rn, runO f) :: (f.drn, runD f) :: (f.li, limO f) :: (f.dli, limD f) :: (f.pl, f.po) :: (f.ct, ctrO f) :: (f.dct, ctrD f) :: (f.zr, listOf #[] 0) :: (f.hp, heapO f) :: (f.dhp, heapD f n tn) :: []) := by
    refine Uq.push (Uq.push (Uq.push (Uq.push (Uq.push (Uq.push (Uq.push (Uq.push (Uq.push (Uq.push (by simp [Uq]) h0) (a q1 h0)) (a q2 (a q1 h0))) (a q3 (a q2 (a q1 h0)))) (a q4 (a q3 (a q2 (a q1 h0))))) (a q5 (a q4 (a q3 (a q2 (a q1 h0)))))) (a q6 (a q5 (a q4 (a q3 (a q2 (a q1 h0))))))) (a q7 (a q6 (a q5 (a q4 (a q3 (a q2 (a q1 h0)))))))) (a q8 (a q7 (a q6 (a q5 (a q4 (a q3 (a q2 (a q1 h0))))))))) (a q9 (a q8 (a q7 (a q6 (a q5 (a q4 (a q3 (a q2 (a q1 h0)))))))))
  refine ⟨u.perm ?_, by omega⟩
  unfold fixL PS.led
  simp only [List.flatMap_nil, List.nil_append]
  refine List.Perm.cons _ (List.Perm.cons _ (List.Perm.cons _ (List.Perm.cons _ ?_)))
  have e : Fits ((f.pl, f.po) :: (f.ct, ctrO f) :: (f.dct, ctrD f) :: (f.zr, listOf #[] 0) :: (f.hp, heapO f) :: (f.dhp, heapD f n tn) :: []) ((f.ct, ctrO f) :: (f.dct, ctrD f) :: (f.hp, heapO f) :: (f.dhp, heapD f n tn) :: (f.pl, f.po) :: (f.zr, listOf #[] 0) :: []) := by repeat' (first | exact Fits.last | exact Ext.here | refine' Fits.cons ?_ ?_ | refine' Ext.there ?_)
  exact e.perm.symm
theorem law_i {prog : Program} {w : World} {m : Str → Option Value} : Lw prog w [lst 0, lst 1] m [] (fun m' n' => ∃ (f : Fix) (n : Int) (tn : Tok), Has (fixL f n tn) n' ∧ f.Ok prog w ∧ Uq (fixL f n tn) ∧ m' "heap" = some (.ref f.hp) ∧ m' "run" = some (.ref f.rn) ∧ ∀ y : Str, y ≠ "heap" → y ≠ "run" → m' y = m y) := by
  generalize q0 : lst 0 = s0
  (conv at q0 => lhs; whnf)
  generalize q1 : lst 1 = s1
  (conv at q1 => lhs; whnf)
  subst q0 q1
  refine Lw.ofM (l := []) (by kernel_rfl) look_base fun a ccd Q q => ?_
  intro Γ
  refine Cx.N_ok (n := 90) ?_
  refine M.new (by k_is) (by k_is) (by k_is) (Nat.le_of_ble_eq_true rfl) (Nat.le_of_ble_eq_true rfl) (fun x dx u v => limits_init (Nat.ne_of_gt v) u) ?_
  rintro li0 dli0 _ u0 v0 ⟨es0, rfl⟩
  refine M.new (by k_is) (by k_is) (by k_is) (Nat.le_of_ble_eq_true rfl) (Nat.le_of_ble_eq_true rfl) (fun x dx u v => heap_init (Nat.ne_of_gt v) u) ?_
  rintro hp dhp _ u1 v1 ⟨h1, h2, h3, t1, t2, t3, tk, zr, z1, z2, rfl⟩
  refine M.new (by k_is) (by k_is) (by k_is) (Nat.le_of_ble_eq_true rfl) (Nat.le_of_ble_eq_true rfl) (fun x dx u v => counter_init (Nat.ne_of_gt v) u) ?_
  rintro ct dct _ u2 v2 ⟨h4, h5, h6, t4, t5, t6, pl, po, p1, p2, hpo, rfl⟩
  refine M.newKw (fI := 587) rfl rfl (by kernel_rfl) (by decide +kernel) (by k_is) (by k_is) (by k_is) (Nat.le_of_ble_eq_true rfl) (Nat.le_of_ble_eq_true rfl) (fun tk x dx u v => limits_init8 (Nat.ne_of_gt v) u) ?_
  rintro t7 li dli _ u3 v3 ⟨les, g4, rfl⟩
  refine M.new (by k_is) (by k_is) (by k_is) (Nat.le_of_ble_eq_true rfl) (Nat.le_of_ble_eq_true rfl) (fun x dx u v => run_init (Nat.ne_of_gt v) u) ?_
  rintro rn drn _ u4 v4 ⟨res, g1, g2, g3, rfl⟩
  have l1 := u2 _ (at_ 2 rfl)
  have l2 := u3 _ (at_ 2 rfl)
  have l3 := u4 _ (at_ 0 rfl)
  have fx := fix_uq (f := ⟨ct, dct, hp, dhp, rn, drn, li, dli, pl, zr, hf h4 h5 h6 h1 h2 h3, tf t4 t5 t6 t1 t2 t3 t7, .ref li0, res, les, po⟩) (n := 0) (tn := tk) v1 z1 l1 v2 p1 l2 v3 l3 v4
  exact q _ _ _ (fun xx9 h => h) ⟨⟨ct, dct, hp, dhp, rn, drn, li, dli, pl, zr, hf h4 h5 h6 h1 h2 h3, tf t4 t5 t6 t1 t2 t3 t7, .ref li0, res, les, po⟩, 0, tk, perm [0, 1, 2, 3, 4, 5, 7, 8, 6, 9] 20 rfl, ⟨hpo, fx.2, g1, g2, g3, g4⟩, fx.1, look_at rfl, look_at rfl, fun y a b => by
    show (match List.lookup y [("run", Value.ref rn), ("heap", Value.ref hp)] with | some v => some v | Option.none => m y) = m y
    rw [List.lookup_cons, show (y == "run") = false from beq_eq_false_iff_ne.mpr b]
    show (match List.lookup y [("heap", Value.ref hp)] with | some v => some v | Option.none => m y) = m y
    rw [List.lookup_cons, show (y == "heap") = false from beq_eq_false_iff_ne.mpr a]
    rfl⟩
end
section
noncomputable def FreshOut (prog : Program) (w : World) (f : Fix) (S : PS) (R : Led) (σ : List Cont) (r : Value) (n' : Led) : Prop := ∃ S' x, r = .ref x ∧ PStep prog w f S S' R (σ ++ [Cont.none]) n' ∧ Xof S'.ps σ.length = some x
theorem fresh_s {prog : Program} {w : World} {f : Fix} {S : PS} {R : Led} {σ : List Cont} (G : PGood prog w f S R σ) : Tel prog w 516 [.ref f.ct, .none] 10 60 (S.led f R) (FreshOut prog w f S R σ) (fun xx9 => False) := by
  have ft : Fits ((f.ct, ctrO f) :: (f.dct, ctrD f) :: (f.hp, heapO f) :: (f.dhp, heapD f S.n S.tn) :: (f.rn, runO f) :: (f.drn, runD f) :: (f.li, limO f) :: (f.dli, limD f) :: (f.pl, f.po) :: (f.zr, listOf S.zs S.ze) :: (S.ps.flatMap PN.blk ++ R)) (S.led f R) := by unfold PS.led; exact fits_of [4, 4, 4, 4] rfl
  have U := G.uq.fit ft
  have K : ∀ y o', (y, o') ∈ _ → y ≠ f.dhp := Uq.ne U (.there (.there (.there .here)))
  refine Tel.mono (fresh_tel (n := S.n) (tn := S.tn) (rest := (f.rn, runO f) :: (f.drn, runD f) :: (f.li, limO f) :: (f.dli, limD f) :: (f.pl, f.po) :: (f.zr, listOf S.zs S.ze) :: (S.ps.flatMap PN.blk ++ R)) (K _ _ (.tail _ (.tail _ (.head _)))) (K _ _ (.head _)) (K _ _ (.tail _ (.head _))) (fun p hp => K p.1 p.2 (.tail _ (.tail _ (.tail _ hp))))) (fun p hp => ft.has p hp) (fun v n h => ?_) fun xx9 h => h
  obtain ⟨x, dx, d, n', tn', rfl, hh, ab, q1, q2, q3, q4, q5⟩ := h
  have ft2 : Fits ((f.ct, ctrO f) :: (f.dct, ctrD f) :: (f.hp, heapO f) :: (f.dhp, heapD f n' tn') :: (f.rn, runO f) :: (f.drn, runD f) :: (f.li, limO f) :: (f.dli, limD f) :: (f.pl, f.po) :: (f.zr, listOf S.zs S.ze) :: (S.ps.flatMap PN.blk ++ R)) (PS.led f ⟨S.ps, n', tn', S.zs, S.ze⟩ R) := by unfold PS.led; exact fits_of [4, 4, 4, 4] rfl
  have P : (PS.led f ⟨S.ps ++ [⟨x, dx, d, .none⟩], n', tn', S.zs, S.ze⟩ R).Perm ((x, instObj 66 dx) :: (dx, scD d .none) :: PS.led f ⟨S.ps, n', tn', S.zs, S.ze⟩ R) := by
    have h : PS.led f ⟨S.ps ++ [⟨x, dx, d, .none⟩], n', tn', S.zs, S.ze⟩ R = PS.led f ⟨S.ps, n', tn', S.zs, S.ze⟩ ([(x, instObj 66 dx), (dx, scD d .none)] ++ R) := by
      unfold PS.led
      rw [List.flatMap_append, List.append_assoc]
      rfl
    rw [h]
    have led_ap : ∀ A : Led, (PS.led f ⟨S.ps, n', tn', S.zs, S.ze⟩ (A ++ R)).Perm (A ++ PS.led f ⟨S.ps, n', tn', S.zs, S.ze⟩ R) := fun A => led_app
    exact led_ap _
  have aD : Above dx (PS.led f ⟨S.ps, n', tn', S.zs, S.ze⟩ R) := fun p hp => by
    rcases List.mem_cons.mp (ft2.perm.mem_iff.mp hp) with rfl | hp
    · exact q1
    rcases List.mem_cons.mp hp with rfl | hp
    · exact q2
    rcases List.mem_cons.mp hp with rfl | hp
    · exact q3
    rcases List.mem_cons.mp hp with rfl | hp
    · exact q4
    exact ab p hp
  have U2 : Uq (PS.led f ⟨S.ps ++ [⟨x, dx, d, .none⟩], n', tn', S.zs, S.ze⟩ R) := (Uq.push (Uq.push (G.uq.addr (l' := PS.led f ⟨S.ps, n', tn', S.zs, S.ze⟩ R) rfl) aD) (above_cons q5 (aD.up q5))).perm P.symm
  refine ⟨⟨S.ps ++ [⟨x, dx, d, .none⟩], n', tn', S.zs, S.ze⟩, x, rfl, ⟨⟨U2, by simp [G.len], CMs.add G.cm G.len rfl⟩, fun p hp => ?_, Xof_add, rfl, rfl⟩, ?_⟩
  · rcases List.mem_cons.mp (P.mem_iff.mp hp) with rfl | hp
    · exact hh _ (.head _)
    rcases List.mem_cons.mp hp with rfl | hp
    · exact hh _ (.tail _ (.head _))
    exact hh _ (.tail _ (.tail _ (ft2.perm.mem_iff.mp hp)))
  · rw [← G.len]; simp [Xof]
theorem k_end {prog : Program} {w : World} {f : Fix} {S1 S2 : PS} {n9 : Led} {x0 x1 c0 c1 ls lc e1 e2 e3 e4 : Nat} (ok : f.Ok prog w) (st : PStep prog w f S1 S2 [] [Cont.none, Cont.none] n9) (hx0 : Xof S1.ps 0 = some x0) (hx1 : Xof S2.ps 1 = some x1) (hz : S2.zs = #[])
    (a1 : Above ls n9) (a2 : @LT.lt Nat _ ls c0) (a3 : @LT.lt Nat _ c0 c1) (a4 : @LT.lt Nat _ c1 lc) :
    ∃ S os dl, Has (PS.led f S (OL os [(ls, listOf #[.ref x0, .ref x1] e1), (lc, listOf #[.ref c0, .ref c1] e2)])) ((lc, listOf #[.ref c0, .ref c1] e2) :: (c1, listOf #[.none] e4) :: (c0, listOf #[.none] e3) :: (ls, listOf #[.ref x0, .ref x1] e1) :: n9) ∧ LJ prog w f S os [(ls, listOf #[.ref x0, .ref x1] e1), (lc, listOf #[.ref c0, .ref c1] e2)] [Cont.none, Cont.none] dl 50 ∧ Rows2 S os [(ls, listOf #[.ref x0, .ref x1] e1), (lc, listOf #[.ref c0, .ref c1] e2)] ls lc e1 e2 x0 x1 c0 c1 := by
  have hs : Has (S2.led f []) n9 := st.has
  have P : ∀ R : Led, (PS.led f S2 (OL [⟨c0, e3, .none⟩, ⟨c1, e4, .none⟩] R)).Perm ((c0, listOf #[.none] e3) :: (c1, listOf #[.none] e4) :: PS.led f S2 R) := fun R => led_app (A := [(c0, listOf #[.none] e3), (c1, listOf #[.none] e4)])
  have P2 : (PS.led f S2 [(ls, listOf #[.ref x0, .ref x1] e1), (lc, listOf #[.ref c0, .ref c1] e2)]).Perm ((ls, listOf #[.ref x0, .ref x1] e1) :: (lc, listOf #[.ref c0, .ref c1] e2) :: PS.led f S2 []) := led_app (A := [(ls, listOf #[.ref x0, .ref x1] e1), (lc, listOf #[.ref c0, .ref c1] e2)]) (R := [])
  have P3 := (P [(ls, listOf #[.ref x0, .ref x1] e1), (lc, listOf #[.ref c0, .ref c1] e2)]).trans ((P2.cons _).cons _)
  have b1 : Above ls (S2.led f []) := fun p hp => a1 p (hs p hp)
  have U : Uq ((lc, listOf #[.ref c0, .ref c1] e2) :: (c1, listOf #[.none] e4) :: (c0, listOf #[.none] e3) :: (ls, listOf #[.ref x0, .ref x1] e1) :: S2.led f []) :=
    have b2 := b1.up a2
    have b3 := b2.up a3
    Uq.push (Uq.push (Uq.push (Uq.push st.good.uq b1) (above_cons a2 b2)) (above_cons a3 (above_cons (Nat.lt_trans a2 a3) b3))) (above_cons a4 (above_cons (Nat.lt_trans a3 a4) (above_cons (Nat.lt_trans (Nat.lt_trans a2 a3) a4) (b3.up a4))))
  have ft : Fits ((c0, listOf #[.none] e3) :: (c1, listOf #[.none] e4) :: (ls, listOf #[.ref x0, .ref x1] e1) :: (lc, listOf #[.ref c0, .ref c1] e2) :: S2.led f []) ((lc, listOf #[.ref c0, .ref c1] e2) :: (c1, listOf #[.none] e4) :: (c0, listOf #[.none] e3) :: (ls, listOf #[.ref x0, .ref x1] e1) :: S2.led f []) := by
    exact fits_of [2, 1, 1] rfl
  have U2 := (U.fit ft).perm P3.symm
  refine ⟨S2, [⟨c0, e3, .none⟩, ⟨c1, e4, .none⟩], fun xx9 => 0, fun p hp => ?_, ⟨ok, ⟨U2, st.good.len, st.good.cm⟩, ⟨U2.perm comb_perm, rfl, fun j n c h h' => ?_⟩, ⟨fun j c h x hx => ?_, fun xx9 xx9 => Nat.zero_le _⟩, fun j c h => ?_, ⟨by decide, fun j ks h => ?_⟩, rfl, rfl, Nat.le_refl _, by rw [hz]; decide⟩, ⟨st.keep _ _ hx0, hx1, rfl, rfl, .head _, .tail _ (.head _)⟩⟩
  · rcases List.mem_cons.mp (P3.mem_iff.mp hp) with rfl | hp
    · exact .tail _ (.tail _ (.head _))
    rcases List.mem_cons.mp hp with rfl | hp
    · exact .tail _ (.head _)
    rcases List.mem_cons.mp hp with rfl | hp
    · exact .tail _ (.tail _ (.tail _ (.head _)))
    rcases List.mem_cons.mp hp with rfl | hp
    · exact .head _
    exact .tail _ (.tail _ (.tail _ (.tail _ (hs _ hp))))
  all_goals
    match j, h with
    | 0, h => cases h <;> first | (cases h'; exact trivial) | exact nomatch hx | trivial | exact nomatch h
    | 1, h => cases h <;> first | (cases h'; exact trivial) | exact nomatch hx | trivial | exact nomatch h
    | i + 2, h => exact absurd h (by simp)
theorem law_k {prog : Program} {w : World} {f : Fix} {n : Int} {tn : Tok} {m : Str → Option Value} (ok : f.Ok prog w) (U : Uq (PS.led f ⟨[], n, tn, #[], 0⟩ [])) (h1 : m "run" = some (.ref f.rn)) : Lw prog w [lst 2, lst 3] m (PS.led f ⟨[], n, tn, #[], 0⟩ []) (fun m' n' => ∃ S os dl ls lc e1 e2 x0 x1 c0 c1, n' = PS.led f S (OL os [(ls, listOf #[.ref x0, .ref x1] e1), (lc, listOf #[.ref c0, .ref c1] e2)]) ∧ LJ prog w f S os [(ls, listOf #[.ref x0, .ref x1] e1), (lc, listOf #[.ref c0, .ref c1] e2)] [Cont.none, Cont.none] dl 50 ∧ Rows2 S os [(ls, listOf #[.ref x0, .ref x1] e1), (lc, listOf #[.ref c0, .ref c1] e2)] ls lc e1 e2 x0 x1 c0 c1 ∧
    m' "scalars" = some (.ref ls) ∧ m' "cells" = some (.ref lc) ∧ ∀ y : Str, y ≠ "scalars" → y ≠ "cells" → m' y = m y) := by
  generalize q0 : lst 2 = s0
  (conv at q0 => lhs; whnf)
  generalize q1 : lst 3 = s1
  (conv at q1 => lhs; whnf)
  subst q0 q1
  have G0 : PGood prog w f ⟨[], n, tn, #[], 0⟩ [] [] := ⟨U, rfl, fun j n c h => by simp at h⟩
  have hl := look_add1 (look_base (m := m)) h1
  refine Lw.ofM (by kernel_rfl) hl fun a ccd Q q => ?_
  intro Γ
  refine Cx.N_ok (n := 90) ?_
  refine M.getOwn (at_ 0 rfl) (at_ 1 rfl) gaRun.2.1 ok.counter rfl ?_
  refine M.meth (at_ 4 rfl) (at_ 5 rfl) me_c.2.2.2.1 rfl rfl ?_
  refine M.tel (fresh_s G0) (fun xx9 h => h) (Nat.le_of_ble_eq_true rfl) (Nat.le_of_ble_eq_true rfl) (fun xx9 h => h.elim) ?_
  rintro _ G1 ⟨S1, x0, rfl, st1, hx0⟩
  refine M.getOwn (st1.has _ (at_ 0 rfl)) (st1.has _ (at_ 1 rfl)) gaRun.2.1 ok.counter rfl ?_
  refine M.meth (st1.has _ (at_ 4 rfl)) (st1.has _ (at_ 5 rfl)) me_c.2.2.2.1 rfl rfl ?_
  refine M.tel (fresh_s st1.good) st1.has (Nat.le_of_ble_eq_true rfl) (Nat.le_of_ble_eq_true rfl) (fun xx9 h => h.elim) ?_
  rintro _ G2 ⟨S2, x1, rfl, st2, hx1⟩
  refine M.newList (Nat.le_of_ble_eq_true rfl) fun ls a1 => ?_
  refine M.newList (Nat.le_of_ble_eq_true rfl) fun c0 a2 => ?_
  refine M.newList (Nat.le_of_ble_eq_true rfl) fun c1 a3 => ?_
  refine M.newList (Nat.le_of_ble_eq_true rfl) fun lc a4 => ?_
  obtain ⟨S, os, dl, n1, n2, n3⟩ := k_end ok st2 hx0 hx1 (st2.zs.trans st1.zs) a1 (a2 _ (.head _)) (a3 _ (.head _)) (a4 _ (.head _))
  exact q _ _ _ n1 ⟨S, os, dl, _, _, _, _, _, _, _, _, rfl, n2, n3, look_at rfl, look_at rfl, fun y a b => (look_skip b).trans ((look_skip a).trans (congrFun hl y))⟩
end
section
theorem execs_lw {prog : Program} {w : World} {st rest : List Stmt} {m : Str → Option Value} {news : Led} {post : (Str → Option Value) → Led → Prop} (C : Lw prog w st m news post)
    {p : Program} {loose : List Str} {mean : ExcName → Option Value} {mg mb : Str → Option Value} {dp un : Nat} {gd : Option (List Code)} {a : Addr} {ccd : Value} {h₀ : Heap} {L : Addr} {s : Shared} {Q : Flow → Shared → Prop} {E : Value → Shared → Prop}
    (B : Below (kA dp un gd) h₀ [] h₀) (F : Fr h₀ L s.heap m) (X : (hp0.heap_1_39 w.params).In h₀) (N : News h₀ L s.heap news) (T : Top p loose mean mg mb h₀) (h1 : dp + 300 < recursionLimit) (h2 : un + 1500 < cLine)
    (hE : PassesOwn (model prog w) (Around.deeper (kA dp un gd) (envOf lawQ lawS L a ccd)) (envOf lawQ lawS L a ccd) E ∧ ∀ v : Value, PassesOwnAt (model prog w) ((Around.deeper (kA dp un gd) (envOf lawQ lawS L a ccd)).mark (some v)) (Around.deeper (kA dp un gd) (envOf lawQ lawS L a ccd)) (envOf lawQ lawS L a ccd) E)
    (k : ∀ m' news' h' tk', Fr h₀ L h' m' → News h₀ L h' news' → post m' news' → wpAny (model prog w) (Around.deeper (kA dp un gd) (envOf lawQ lawS L a ccd)) (execs rest (envOf lawQ lawS L a ccd)) Q E { s with heap := h', toks := tk' }) :
    wpAny (model prog w) (Around.deeper (kA dp un gd) (envOf lawQ lawS L a ccd)) (execs (st ++ rest) (envOf lawQ lawS L a ccd)) Q E s := by
  rw [execs_app]
  refine wpAny_bind (wpAny_mono (C p loose mean mg mb dp un gd a ccd h₀ L s (fun fl s' => fl = .next ∧ wpAny (model prog w) (Around.deeper (kA dp un gd) (envOf lawQ lawS L a ccd)) (execs rest (envOf lawQ lawS L a ccd)) Q E s') E B F X N T h1 h2 hE fun m' n' h' tk' F' N' q => ⟨rfl, k m' n' h' tk' F' N' q⟩) ?_ fun xx9 xx9 e => e)
  rintro fl s' ⟨rfl, h⟩
  exact h
theorem two_off {m : Str → Option Value} {k1 k2 y : Str} {v1 v2 v : Value} (h : m y = some v) (a : y ≠ k1) (b : y ≠ k2) : (if y = k1 then some v1 else if y = k2 then some v2 else m y) = some v := (if_neg a).trans ((if_neg b).trans h)
theorem z_num {prog : Program} {w : World} {f : Fix} {S : PS} {os : List ON} {R : Led} {σ : List Cont} {dl : Nat → Nat} {k D l3 l4 : Nat} {o3 o4 oD : Obj} {h₀ h : Heap} {L : Addr} (J : LJ prog w f S os R σ dl k) (N : News h₀ L h ((D, oD) :: (l3, o3) :: (l4, o4) :: S.led f (OL os R)))
    (a : l3 < D ∧ l4 < D ∧ AllLt D (S.led f (OL os R))) : News h₀ L h (S.led f (OL os ((D, oD) :: R))) ∧ LJ prog w f S os ((D, oD) :: R) σ dl k :=
  ⟨News.has N fun p hp => by
    rcases List.mem_cons.mp ((both_app (A := [(D, oD)])).mem_iff.mp hp) with rfl | hp
    · exact .head _
    · exact .tail _ (.tail _ (.tail _ hp)), J.cons (Above.ne (above_of a.2.2))⟩
end
end Mine
namespace Mine.top
theorem tw10001883323181062329 : True := trivial
theorem tw10005945817407372193 : True := trivial
theorem tw10006222313960134694 : True := trivial
theorem tw10008474027749305400 : True := trivial
theorem tw10017263926548143515 : True := trivial
theorem tw10090393231696489298 : True := trivial
theorem tw1016984595167383106 : True := trivial
theorem tw10171247594491198104 : True := trivial
theorem tw10187724287525710026 : True := trivial
theorem tw10194810499950245846 : True := trivial
theorem tw10195997230039290492 : True := trivial
theorem tw10341860258655708415 : True := trivial
theorem tw10361075674979980167 : True := trivial
theorem tw10399464001100048223 : True := trivial
theorem tw10404823597219466188 : True := trivial
theorem tw1040915598704419856 : True := trivial
theorem tw104434173382791472 : True := trivial
theorem tw10448899703829047738 : True := trivial
theorem tw1047907039808853306 : True := trivial
theorem tw10562855833978642645 : True := trivial
theorem tw10567129059001840431 : True := trivial
theorem tw10577272966987657301 : True := trivial
theorem tw10579768621468169598 : True := trivial
theorem tw10617020205504526918 : True := trivial
theorem tw10648311167861321448 : True := trivial
theorem tw10657950659306570408 : True := trivial
theorem tw1068965626710143233 : True := trivial
theorem tw10694878333477680388 : True := trivial
theorem tw10773188271377071773 : True := trivial
theorem tw10774637447528242797 : True := trivial
theorem tw10783980745131425670 : True := trivial
theorem tw10797620697341660853 : True := trivial
theorem tw10801874191123338550 : True := trivial
theorem tw10864713392326063847 : True := trivial
theorem tw1088946173253831356 : True := trivial
theorem tw10915162052029792233 : True := trivial
theorem tw10936122117785486979 : True := trivial
theorem tw10956490626425055710 : True := trivial
theorem tw10987319290404115282 : True := trivial
theorem tw10996937224433265937 : True := trivial
theorem tw1108800333578037850 : True := trivial
theorem tw11116745826364501430 : True := trivial
theorem tw1112988674713690477 : True := trivial
theorem tw11133666699803404755 : True := trivial
theorem tw11199532085631943738 : True := trivial
theorem tw11199710921928265848 : True := trivial
theorem tw11203750815551599093 : True := trivial
theorem tw1124271682379634556 : True := trivial
theorem tw11247735229740821898 : True := trivial
theorem tw11279390925490393535 : True := trivial
theorem tw11334203419191126389 : True := trivial
theorem tw11334350811105764591 : True := trivial
theorem tw11334415319851112604 : True := trivial
theorem tw1139600151236580504 : True := trivial
theorem tw11423202765487971197 : True := trivial
theorem tw1142415686869020238 : True := trivial
theorem tw11430207588045935325 : True := trivial
theorem tw11443710868159068359 : True := trivial
theorem tw11459358961799972967 : True := trivial
theorem tw11466170419677230873 : True := trivial
theorem tw1149218181149386328 : True := trivial
theorem tw11542710104232473196 : True := trivial
theorem tw11546936639936008217 : True := trivial
theorem tw11582926029173025856 : True := trivial
theorem tw11613256710310857696 : True := trivial
theorem tw11624971203582042403 : True := trivial
theorem tw11688654253015635986 : True := trivial
theorem tw11762496359356365647 : True := trivial
theorem tw11845233108574324481 : True := trivial
theorem tw11858546649754279707 : True := trivial
theorem tw11922380849998532372 : True := trivial
theorem tw1195175773429642966 : True := trivial
theorem tw11960245374511038805 : True := trivial
theorem tw11994683656316670133 : True := trivial
theorem tw12012865196380796599 : True := trivial
theorem tw12042868631781727738 : True := trivial
theorem tw12080426169559351053 : True := trivial
theorem tw12094960947251128927 : True := trivial
theorem tw12105128591322288922 : True := trivial
theorem tw12117888159696746259 : True := trivial
theorem tw12166907935582030026 : True := trivial
theorem tw12256363837256957063 : True := trivial
theorem tw12317137736924338119 : True := trivial
theorem tw12318557346453588183 : True := trivial
theorem tw12342655685612074800 : True := trivial
theorem tw12376051458212225564 : True := trivial
theorem tw12385144161495827662 : True := trivial
theorem tw12392516345856041104 : True := trivial
theorem tw12425085872883035938 : True := trivial
theorem tw12427389293880184781 : True := trivial
theorem tw12430023594945194632 : True := trivial
theorem tw1245559373397905713 : True := trivial
theorem tw12535971307161669396 : True := trivial
theorem tw12545222027267286695 : True := trivial
theorem tw12622177474791663080 : True := trivial
theorem tw12638030207367898728 : True := trivial
theorem tw12718909917080609646 : True := trivial
theorem tw1275901062530889299 : True := trivial
theorem tw12764151676501842404 : True := trivial
theorem tw12783364522390391256 : True := trivial
theorem tw12787338502077490372 : True := trivial
theorem tw12805229302229805067 : True := trivial
theorem tw12819366960792805191 : True := trivial
theorem tw1284575025550258836 : True := trivial
theorem tw12904532413392791838 : True := trivial
theorem tw1291508964198565346 : True := trivial
theorem tw1294077662247117797 : True := trivial
theorem tw12958502747184954254 : True := trivial
theorem tw12958664272152378060 : True := trivial
theorem tw13001836021917841797 : True := trivial
theorem tw13044034144603486326 : True := trivial
theorem tw13068111086705522682 : True := trivial
theorem tw13090165191389475591 : True := trivial
theorem tw13091174067606910046 : True := trivial
theorem tw13120753694373217308 : True := trivial
theorem tw13134186033006778460 : True := trivial
theorem tw13177472732611162249 : True := trivial
theorem tw1321871150748368714 : True := trivial
theorem tw13223034962123697568 : True := trivial
theorem tw13261893007816960818 : True := trivial
theorem tw13264354339760550358 : True := trivial
theorem tw13272337422414781067 : True := trivial
theorem tw13290321428070320777 : True := trivial
theorem tw13305523845174962083 : True := trivial
theorem tw13307591127769906961 : True := trivial
theorem tw13318506193475082254 : True := trivial
theorem tw13326734554550294991 : True := trivial
theorem tw13345470168829271861 : True := trivial
theorem tw13359135706311490777 : True := trivial
theorem tw13369591340354186047 : True := trivial
theorem tw13370185576492129568 : True := trivial
theorem tw13420762306968818387 : True := trivial
theorem tw13500427573557490136 : True := trivial
theorem tw13501252493785611398 : True := trivial
theorem tw13698093540088096225 : True := trivial
theorem tw13706816188851595723 : True := trivial
theorem tw13799840507378627052 : True := trivial
theorem tw13802547742096326172 : True := trivial
theorem tw13864677062968915208 : True := trivial
theorem tw13889309363888878346 : True := trivial
theorem tw13889484949932952446 : True := trivial
theorem tw13896958669275611876 : True := trivial
theorem tw13928562000808390012 : True := trivial
theorem tw1394568958698188020 : True := trivial
theorem tw13968125046926948103 : True := trivial
theorem tw13983857475226248213 : True := trivial
theorem tw13987285891283452908 : True := trivial
theorem tw13994475860397038760 : True := trivial
theorem tw1400011881503588481 : True := trivial
theorem tw14042817526060737062 : True := trivial
theorem tw14084254815424685500 : True := trivial
theorem tw14142502885225118848 : True := trivial
theorem tw14145802354927516647 : True := trivial
theorem tw14168018189251442112 : True := trivial
theorem tw14263998999751124003 : True := trivial
theorem tw14282377253939248939 : True := trivial
theorem tw14349089067433371257 : True := trivial
theorem tw14371913498598963198 : True := trivial
theorem tw14372152842798730730 : True := trivial
theorem tw14376744209917385786 : True := trivial
theorem tw14390669486469195807 : True := trivial
theorem tw14402358008270493973 : True := trivial
theorem tw14450715343900746980 : True := trivial
theorem tw14453841093610474573 : True := trivial
theorem tw14459580976405569124 : True := trivial
theorem tw14502225709538309166 : True := trivial
theorem tw14537839394382259888 : True := trivial
theorem tw14597223018079223185 : True := trivial
theorem tw14608685727046917156 : True := trivial
theorem tw14611434983143301774 : True := trivial
theorem tw14615657086365298920 : True := trivial
theorem tw14632489290957082403 : True := trivial
theorem tw14657780768301432306 : True := trivial
theorem tw14671331368771545958 : True := trivial
theorem tw146815374380898660 : True := trivial
theorem tw14697636140705633519 : True := trivial
theorem tw14724332232928298890 : True := trivial
theorem tw14747140909534839006 : True := trivial
theorem tw14762295962024373759 : True := trivial
theorem tw14789260269991461300 : True := trivial
theorem tw14823308797102314842 : True := trivial
theorem tw14826035006057030972 : True := trivial
theorem tw1483126911874232274 : True := trivial
theorem tw14851680436948445374 : True := trivial
theorem tw14861896470697024400 : True := trivial
theorem tw1486479319815781832 : True := trivial
theorem tw14917401599646851644 : True := trivial
theorem tw1492452104121835379 : True := trivial
theorem tw14987219478266130788 : True := trivial
theorem tw15058813355848621054 : True := trivial
theorem tw15095372191486117680 : True := trivial
theorem tw1516213087968936877 : True := trivial
theorem tw15169761463676818070 : True := trivial
theorem tw15177526630643400193 : True := trivial
theorem tw15212760480394562756 : True := trivial
theorem tw15240379268576122478 : True := trivial
theorem tw15245507539482535896 : True := trivial
theorem tw15254643099363442306 : True := trivial
theorem tw15286249088069653756 : True := trivial
theorem tw15299407806266782574 : True := trivial
theorem tw15349318334595610263 : True := trivial
theorem tw15361541807878343388 : True := trivial
theorem tw15362295582089109014 : True := trivial
theorem tw154024504406004216 : True := trivial
theorem tw15451780782824253742 : True := trivial
theorem tw15503665604740900718 : True := trivial
theorem tw15629967545924217721 : True := trivial
theorem tw15646934709686841381 : True := trivial
theorem tw15683283827167961885 : True := trivial
theorem tw15722756333993289495 : True := trivial
theorem tw15740088241188596515 : True := trivial
theorem tw1584292188352093569 : True := trivial
theorem tw15860264024139754761 : True := trivial
theorem tw15874363893724204672 : True := trivial
theorem tw15877122091014420850 : True := trivial
theorem tw15878805988109762761 : True := trivial
theorem tw15881637761420801603 : True := trivial
theorem tw15894591892691063009 : True := trivial
theorem tw15918733279669447828 : True := trivial
theorem tw15976228082101565994 : True := trivial
theorem tw15985961358823992270 : True := trivial
theorem tw16004416686337608138 : True := trivial
theorem tw16034636559557993077 : True := trivial
theorem tw16044733080236030384 : True := trivial
theorem tw16093936019704036451 : True := trivial
theorem tw16104615914030681952 : True := trivial
theorem tw16123964013534891561 : True := trivial
theorem tw16155163154822807229 : True := trivial
theorem tw16174758807025615021 : True := trivial
theorem tw16196420915677631385 : True := trivial
theorem tw16204670001084760307 : True := trivial
theorem tw16229821709851022329 : True := trivial
theorem tw16273406610938067001 : True := trivial
theorem tw16325430554902658873 : True := trivial
theorem tw16415559393655328363 : True := trivial
theorem tw16420938139371093754 : True := trivial
theorem tw16439428074185983240 : True := trivial
theorem tw16453443671601555132 : True := trivial
theorem tw16541100652227675460 : True := trivial
theorem tw16550210197400561554 : True := trivial
theorem tw1655259298481077034 : True := trivial
theorem tw16580785732701462914 : True := trivial
theorem tw16713831800681072344 : True := trivial
theorem tw16719718919923625709 : True := trivial
theorem tw16736118626332596326 : True := trivial
theorem tw1676862907878916244 : True := trivial
theorem tw16782997733028217545 : True := trivial
theorem tw16821654228018055803 : True := trivial
theorem tw16878204669230926818 : True := trivial
theorem tw16900427199656544559 : True := trivial
theorem tw1697544655201012999 : True := trivial
theorem tw17022078359063049780 : True := trivial
theorem tw17030962893124633753 : True := trivial
theorem tw17046948494117081484 : True := trivial
theorem tw17050326753033342646 : True := trivial
theorem tw17089494485692210459 : True := trivial
theorem tw17103177528636943170 : True := trivial
theorem tw17103585973383926153 : True := trivial
theorem tw17176029603704830031 : True := trivial
theorem tw17177869089781658578 : True := trivial
theorem tw17315540178315561739 : True := trivial
theorem tw1732150942055357024 : True := trivial
theorem tw17323899518341599180 : True := trivial
theorem tw17335261354149484843 : True := trivial
theorem tw17342085116792181814 : True := trivial
theorem tw17346259052997144950 : True := trivial
theorem tw17355269125676882429 : True := trivial
theorem tw1736530178072539846 : True := trivial
theorem tw17428532607074087071 : True := trivial
theorem tw17469865338272021226 : True := trivial
theorem tw17470836177267949868 : True := trivial
theorem tw17474498911051797155 : True := trivial
theorem tw17486766287000646611 : True := trivial
theorem tw17492772389151264855 : True := trivial
theorem tw17542608870123051758 : True := trivial
theorem tw1754339480302792767 : True := trivial
theorem tw17555251805378815213 : True := trivial
theorem tw17565814175750979855 : True := trivial
theorem tw17582957951858275007 : True := trivial
theorem tw17620759639134147866 : True := trivial
theorem tw17828378304095215089 : True := trivial
theorem tw17953984050398360512 : True := trivial
theorem tw17981982808018919739 : True := trivial
theorem tw18063644159110109576 : True := trivial
theorem tw18064794426631996164 : True := trivial
theorem tw18085771088847121727 : True := trivial
theorem tw18086089286151905521 : True := trivial
theorem tw1814787853859245837 : True := trivial
theorem tw18164388396756303480 : True := trivial
theorem tw18177719399980262173 : True := trivial
theorem tw18186074749648716422 : True := trivial
theorem tw18195763609753814110 : True := trivial
theorem tw18237780215024852062 : True := trivial
theorem tw18245740138792012028 : True := trivial
theorem tw18289109515434150305 : True := trivial
theorem tw1833847959688406909 : True := trivial
theorem tw18367679650794681301 : True := trivial
theorem tw18371284783138465269 : True := trivial
theorem tw1886144042066472794 : True := trivial
theorem tw196536941598035525 : True := trivial
theorem tw1988063486488863061 : True := trivial
theorem tw2007660962349395123 : True := trivial
theorem tw2029088862249889922 : True := trivial
theorem tw2057334267981633021 : True := trivial
theorem tw2103985501979894447 : True := trivial
theorem tw2126296398998916975 : True := trivial
theorem tw2145171640123136144 : True := trivial
theorem tw2164983482794752242 : True := trivial
theorem tw216529984938456764 : True := trivial
theorem tw2218668502564051296 : True := trivial
theorem tw2249405535684624136 : True := trivial
theorem tw2267912224990424062 : True := trivial
theorem tw2287823674025257028 : True := trivial
theorem tw2312856594315299383 : True := trivial
theorem tw2369445192022557226 : True := trivial
theorem tw2377541652452675900 : True := trivial
theorem tw2405475915293451298 : True := trivial
theorem tw2417791160451022400 : True := trivial
theorem tw2443449257678562572 : True := trivial
theorem tw2464713573024523455 : True := trivial
theorem tw2506305409684761478 : True := trivial
theorem tw2514443458684651071 : True := trivial
theorem tw2581206410525282061 : True := trivial
theorem tw2596539476470345881 : True := trivial
theorem tw2601905985415302144 : True := trivial
theorem tw2617719716777270872 : True := trivial
theorem tw2665807947273092163 : True := trivial
theorem tw2683898200743741643 : True := trivial
theorem tw2685012915969955173 : True := trivial
theorem tw2686433634493928565 : True := trivial
theorem tw2722852734226103192 : True := trivial
theorem tw2727672472851901052 : True := trivial
theorem tw2731995056826638727 : True := trivial
theorem tw2732273902793177162 : True := trivial
theorem tw2741389259953327712 : True := trivial
theorem tw2770239361232196585 : True := trivial
theorem tw2782073688633401757 : True := trivial
theorem tw2809488002615124206 : True := trivial
theorem tw2812155379371279736 : True := trivial
theorem tw2822501910515967889 : True := trivial
theorem tw283044589724301 : True := trivial
theorem tw2867133514656366558 : True := trivial
theorem tw2907113945770861938 : True := trivial
theorem tw2924597203103170677 : True := trivial
theorem tw297971269722091814 : True := trivial
theorem tw2988451766255067171 : True := trivial
theorem tw3002795768020413707 : True := trivial
theorem tw3140898538269762758 : True := trivial
theorem tw3195522803047326042 : True := trivial
theorem tw3207569582813703071 : True := trivial
theorem tw3217022616335106338 : True := trivial
theorem tw3254097082911018636 : True := trivial
theorem tw3315250197877816394 : True := trivial
theorem tw339143206060000330 : True := trivial
theorem tw3397128083846064343 : True := trivial
theorem tw3422688185749166683 : True := trivial
theorem tw342308947776675178 : True := trivial
theorem tw3474246075231452896 : True := trivial
theorem tw3479634599624807885 : True := trivial
theorem tw3484022092364678248 : True := trivial
theorem tw3486219094355674750 : True := trivial
theorem tw350670483859837877 : True := trivial
theorem tw3561193834555079511 : True := trivial
theorem tw3584897518013459382 : True := trivial
theorem tw3669314199184481253 : True := trivial
theorem tw370947364307004932 : True := trivial
theorem tw3739144386018749749 : True := trivial
theorem tw3767615275625035234 : True := trivial
theorem tw3796891538752321733 : True := trivial
theorem tw381845443943030031 : True := trivial
theorem tw3820434133910038737 : True := trivial
theorem tw3855276242980373810 : True := trivial
theorem tw3871027444623705763 : True := trivial
theorem tw390997316461189296 : True := trivial
theorem tw3974946682361356058 : True := trivial
theorem tw3976154599441133093 : True := trivial
theorem tw3995942328266245912 : True := trivial
theorem tw4058662728301269685 : True := trivial
theorem tw4076138812419527698 : True := trivial
theorem tw4134505453457115739 : True := trivial
theorem tw4159251561096739476 : True := trivial
theorem tw4166218997396506358 : True := trivial
theorem tw4177254973167742082 : True := trivial
theorem tw4186445540838780016 : True := trivial
theorem tw4205137553216949640 : True := trivial
theorem tw4213018616267185653 : True := trivial
theorem tw427420600052151026 : True := trivial
theorem tw4299629679881509495 : True := trivial
theorem tw4383139521930768336 : True := trivial
theorem tw4392038535549328194 : True := trivial
theorem tw4526881389914513428 : True := trivial
theorem tw453181688931711583 : True := trivial
theorem tw4547018644641229820 : True := trivial
theorem tw4551080515912023512 : True := trivial
theorem tw4555866861457887817 : True := trivial
theorem tw4571971715460732019 : True := trivial
theorem tw4597200072644226624 : True := trivial
theorem tw4655869559712951663 : True := trivial
theorem tw4656485037274611717 : True := trivial
theorem tw4671429814451907529 : True := trivial
theorem tw4695670854781333657 : True := trivial
theorem tw4699463449715708850 : True := trivial
theorem tw47109162367338493 : True := trivial
theorem tw4713442408853163898 : True := trivial
theorem tw4736427724481360342 : True := trivial
theorem tw4773702212245658779 : True := trivial
theorem tw4784893810139332661 : True := trivial
theorem tw4791253341166991637 : True := trivial
theorem tw4801916741778618903 : True := trivial
theorem tw4807692442873511580 : True := trivial
theorem tw4828031223510198475 : True := trivial
theorem tw4835499133494076262 : True := trivial
theorem tw4859757453598101857 : True := trivial
theorem tw4916261283513009128 : True := trivial
theorem tw4940147422707163885 : True := trivial
theorem tw4951766788466123468 : True := trivial
theorem tw4985058935396193736 : True := trivial
theorem tw4999614032917392674 : True := trivial
theorem tw501154541418245514 : True := trivial
theorem tw5058314954733539658 : True := trivial
theorem tw5155950481276406077 : True := trivial
theorem tw5225153198818245361 : True := trivial
theorem tw5244899138074338376 : True := trivial
theorem tw5245862010334584759 : True := trivial
theorem tw5278709424875269971 : True := trivial
theorem tw5303079699428457377 : True := trivial
theorem tw53344730913325255 : True := trivial
theorem tw5398424786039705171 : True := trivial
theorem tw5507162329139097715 : True := trivial
theorem tw5513142621748847562 : True := trivial
theorem tw5523086135645875356 : True := trivial
theorem tw5581607755468803823 : True := trivial
theorem tw5596365628329696591 : True := trivial
theorem tw5597187220613765494 : True := trivial
theorem tw5609151216138764652 : True := trivial
theorem tw5648408011753718230 : True := trivial
theorem tw5702910450625016506 : True := trivial
theorem tw575894324575664597 : True := trivial
theorem tw5839659824258004927 : True := trivial
theorem tw5860347150701562758 : True := trivial
theorem tw5868845118606482295 : True := trivial
theorem tw5889316905344633881 : True := trivial
theorem tw5915399644114372684 : True := trivial
theorem tw5938664839603501006 : True := trivial
theorem tw594810645892935528 : True := trivial
theorem tw5969682004907312646 : True := trivial
theorem tw5983031951866500094 : True := trivial
theorem tw602653604445443664 : True := trivial
theorem tw6042063481754889096 : True := trivial
theorem tw6124053682588569230 : True := trivial
theorem tw6127594578889010139 : True := trivial
theorem tw6175630323771803985 : True := trivial
theorem tw6176384092110617959 : True := trivial
theorem tw6176994582329460227 : True := trivial
theorem tw6187478851450931391 : True := trivial
theorem tw6189502492464219833 : True := trivial
theorem tw6196800358849779857 : True := trivial
theorem tw620129878449983639 : True := trivial
theorem tw6211089042160764376 : True := trivial
theorem tw6240723676877644813 : True := trivial
theorem tw6265701101103706036 : True := trivial
theorem tw6286779285267259847 : True := trivial
theorem tw6292954644110606532 : True := trivial
theorem tw6333448901615975916 : True := trivial
theorem tw6381231289166406305 : True := trivial
theorem tw6430265229019958763 : True := trivial
theorem tw6431110157172167083 : True := trivial
theorem tw6438537300738474071 : True := trivial
theorem tw6491118196486620199 : True := trivial
theorem tw649594095290182367 : True := trivial
theorem tw6505410396798821541 : True := trivial
theorem tw6520327441239513222 : True := trivial
theorem tw6572447435987645144 : True := trivial
theorem tw661290744650703789 : True := trivial
theorem tw6624316729101989866 : True := trivial
theorem tw6659320528611288953 : True := trivial
theorem tw6662652255960138227 : True := trivial
theorem tw6664487174759623829 : True := trivial
theorem tw6674990990233134667 : True := trivial
theorem tw668136137496459709 : True := trivial
theorem tw6694047246710070196 : True := trivial
theorem tw672699306608606093 : True := trivial
theorem tw6756868429301003459 : True := trivial
theorem tw6761616313442571491 : True := trivial
theorem tw6786057226368545225 : True := trivial
theorem tw6812286434817487243 : True := trivial
theorem tw6883741973766446791 : True := trivial
theorem tw6885214360128481674 : True := trivial
theorem tw6898770573198911631 : True := trivial
theorem tw6906291655842520137 : True := trivial
theorem tw6908635100366463001 : True := trivial
theorem tw6919701780365589675 : True := trivial
theorem tw6930518751129746686 : True := trivial
theorem tw6973401727384321114 : True := trivial
theorem tw7008692893051332821 : True := trivial
theorem tw7033079012710635876 : True := trivial
theorem tw7046679081361425455 : True := trivial
theorem tw705360758644809490 : True := trivial
theorem tw7160873610591055699 : True := trivial
theorem tw7198060816514059695 : True := trivial
theorem tw7204493036743257322 : True := trivial
theorem tw7204998973626084599 : True := trivial
theorem tw72247145696351765 : True := trivial
theorem tw7250933059871147345 : True := trivial
theorem tw728428047077509346 : True := trivial
theorem tw7313339093194340965 : True := trivial
theorem tw7325726471975496349 : True := trivial
theorem tw7378373657476664316 : True := trivial
theorem tw7381879191629600215 : True := trivial
theorem tw7458633546980236471 : True := trivial
theorem tw7527032243904285869 : True := trivial
theorem tw760020501838809584 : True := trivial
theorem tw7657828476027519975 : True := trivial
theorem tw7671549972530922468 : True := trivial
theorem tw7673058066778466091 : True := trivial
theorem tw7681529838311687354 : True := trivial
theorem tw7701864537718187324 : True := trivial
theorem tw7715697345341360870 : True := trivial
theorem tw7743179893348639699 : True := trivial
theorem tw775762912060472103 : True := trivial
theorem tw7830913209206220567 : True := trivial
theorem tw7855079511596107753 : True := trivial
theorem tw788273225186049534 : True := trivial
theorem tw7913636548009798097 : True := trivial
theorem tw795583310449317561 : True := trivial
theorem tw797540018447873618 : True := trivial
theorem tw7990429038631628895 : True := trivial
theorem tw8025738503920905074 : True := trivial
theorem tw8043003576528973991 : True := trivial
theorem tw8076694877373660366 : True := trivial
theorem tw8107780213005350392 : True := trivial
theorem tw8139039716903228087 : True := trivial
theorem tw8140125068956082859 : True := trivial
theorem tw814325599930780420 : True := trivial
theorem tw8143265674769528471 : True := trivial
theorem tw8148004212497801138 : True := trivial
theorem tw81815255157605957 : True := trivial
theorem tw8184561461823581802 : True := trivial
theorem tw8212240652046128837 : True := trivial
theorem tw8265191368974092141 : True := trivial
theorem tw8265311939077410998 : True := trivial
theorem tw8281120267493503204 : True := trivial
theorem tw8311017846404947139 : True := trivial
theorem tw8327351992414209593 : True := trivial
theorem tw83393220934416808 : True := trivial
theorem tw8345894832289464959 : True := trivial
theorem tw8363718466572441477 : True := trivial
theorem tw8369368087495890639 : True := trivial
theorem tw8410488445778877200 : True := trivial
theorem tw84136930442132756 : True := trivial
theorem tw8472579005086612782 : True := trivial
theorem tw8507776931139520737 : True := trivial
theorem tw8538268897159353584 : True := trivial
theorem tw8560541052185303311 : True := trivial
theorem tw8598144960395782539 : True := trivial
theorem tw860223938195835975 : True := trivial
theorem tw8622502720953521162 : True := trivial
theorem tw8640399195822439974 : True := trivial
theorem tw8645369167282567922 : True := trivial
theorem tw864819663365544661 : True := trivial
theorem tw8657480035899644758 : True := trivial
theorem tw8679839319945467846 : True := trivial
theorem tw8694864300669457046 : True := trivial
theorem tw877433047237710547 : True := trivial
theorem tw8810280945414196856 : True := trivial
theorem tw8813761850579938390 : True := trivial
theorem tw8874702517807110003 : True := trivial
theorem tw8892184565913893157 : True := trivial
theorem tw8968299171318014206 : True := trivial
theorem tw8973803690348224638 : True := trivial
theorem tw9059672392935016618 : True := trivial
theorem tw9059832203979395877 : True := trivial
theorem tw908825868028484722 : True := trivial
theorem tw9108098604805947806 : True := trivial
theorem tw9149571693438533347 : True := trivial
theorem tw9152664641465651067 : True := trivial
theorem tw9165953624949470791 : True := trivial
theorem tw9166809390415177425 : True := trivial
theorem tw9178861053002065721 : True := trivial
theorem tw9195894827357321740 : True := trivial
theorem tw9227057690007400460 : True := trivial
theorem tw9227541089923242437 : True := trivial
theorem tw9229161468869434483 : True := trivial
theorem tw9233335307524088747 : True := trivial
theorem tw9272544492142499777 : True := trivial
theorem tw9335426496214029073 : True := trivial
theorem tw9366391650621772374 : True := trivial
theorem tw9378254376102152143 : True := trivial
theorem tw9442318146202087700 : True := trivial
theorem tw9503340733035011235 : True := trivial
theorem tw953821971998124167 : True := trivial
theorem tw9543386914318008161 : True := trivial
theorem tw956089473029861405 : True := trivial
theorem tw9601329371697537090 : True := trivial
theorem tw9614876229902214918 : True := trivial
theorem tw9631074621892390191 : True := trivial
theorem tw9666326922614434849 : True := trivial
theorem tw9673933992889287130 : True := trivial
theorem tw9685713192446186341 : True := trivial
theorem tw9739860059890490050 : True := trivial
theorem tw9743097575036673082 : True := trivial
theorem tw9759319705405543751 : True := trivial
theorem tw9768079942903668216 : True := trivial
theorem tw9800703332001039478 : True := trivial
theorem tw9843447840031818808 : True := trivial
theorem tw9851269098105209369 : True := trivial
theorem tw987869383939708018 : True := trivial
theorem tw9913501989792142831 : True := trivial
theorem tw9919435345466941130 : True := trivial
theorem tw9953747333497923681 : True := trivial
theorem tw9961057766049560675 : True := trivial
end Mine.top
namespace Mine
set_option Elab.async true in
theorem top : PySem.Challenge.rw_pc0229_01.Holds := by
  (w_on; o_law; k_head; (case hw => w_witness2))
  k_go0
  (all_goals try k_fold)
  rename Below _ _ _ _ => B
  rename Fr _ _ _ _ => F
  rename News _ _ _ _ => N
  rename Top _ _ _ _ _ _ => T
  rename Frag.In _ _ => X
  replace X : Frag.In (hp0.heap_1_39 _) _ := X
  k_dflt (refine' execs_lw (st := [lst 0, lst 1]) (rest := [lst 2, lst 3, lst 4, lst 5, lst 6]) law_i B F X N T ?h1 ?h2 ?hE ?_)
  case h1 => decide +kernel
  case h2 => decide +kernel
  case hE => exact ⟨by passes_own, fun v => by passes_own⟩
  rintro m1 n1 h1 tk1 F1 N1 ⟨f, n, tn, hs, ok, uq, g1, g2, same⟩
  k_dflt (refine' execs_lw (st := [lst 2, lst 3]) (rest := [lst 4, lst 5, lst 6]) (law_k ok uq g2) B F1 X (News.has N1 hs) T ?h1 ?h2 ?hE ?_)
  case h1 => decide +kernel
  case h2 => decide +kernel
  case hE => exact ⟨by passes_own, fun v => by passes_own⟩
  rintro m2 n2 h2 tk2 F2 N2 ⟨S, os, dl, ls, lc, e1, e2, x0, x1, c0, c1, rfl, J, W, g3, g4, same2⟩
  generalize q5 : lst 5 = s5
  generalize q6 : lst 6 = s6
  generalize q4 : lst 4 = s4
  (conv at q4 => lhs; whnf)
  unfold lawQ
  generalize qs : lawS = sc
  (conv at qs => lhs; whnf)
  subst q4 qs
  rename IntsAre _ _ => hI
  have hm : m2 "script" = _ := (same2 _ (by decide +kernel) (by decide +kernel)).trans ((same _ (by decide +kernel) (by decide +kernel)).trans rfl)
  rw [m_one hm] at F2
  generalize q7 : [s5, s6] = l7
  refine wpAny_execs_cons ?_
  k_steps
  show wpAny _ _ (execs l7 _) _ _ _
  rename News _ _ _ _ => N3
  rename Fr _ _ _ _ => F3
  rename IntsAre _ _ => hI2
  subst q7 q5 q6
  obtain ⟨N4, J3⟩ := z_num J N3 (by assumption)
  k_dflt (refine' execs_lw (st := [lst 5]) (rest := [lst 6]) (post := fun xx9 xx9 => True) ?C B F3 X N4 T ?h1 ?h2 ?hE ?_)
  case C => exact law_for J3 ⟨W.hx0, W.hx1, W.hc0, W.hc1, .tail _ W.ms, .tail _ W.mc⟩ (.head _) hI2 (by simp; omega) (by simp) (if_pos rfl) (two_off g3 (by decide +kernel) (by decide +kernel)) (two_off g4 (by decide +kernel) (by decide +kernel)) (two_off ((same2 _ (by decide +kernel) (by decide +kernel)).trans g2) (by decide +kernel) (by decide +kernel)) (two_off ((same2 _ (by decide +kernel) (by decide +kernel)).trans g1) (by decide +kernel) (by decide +kernel))
  case h1 => decide +kernel
  case h2 => decide +kernel
  case hE => exact ⟨by passes_own, fun v => by passes_own⟩
  rintro m4 n4 h4 tk4 F4 N5 -
  generalize q6 : lst 6 = s6
  (conv at q6 => lhs; whnf)
  unfold lawQ
  generalize qs : lawS = sc
  (conv at qs => lhs; whnf)
  subst q6 qs
  refine wpAny_execs_cons ?_
  k_steps
end Mine
theorem PySem.Challenge.cw_pc0229_01_holds : PySem.Challenge.rw_pc0229_01.Holds :=
  Mine.top
