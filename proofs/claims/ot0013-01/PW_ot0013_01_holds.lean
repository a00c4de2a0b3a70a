import PyProof.Rows.All
import Wide.All
import OpenK.AllK
import Wide.FinOn
import Lean
import PySem.Challenge.RW_ot0013_01
open PySem PySem.W PySem.Spec PySem.Calls PyProof.Rows
set_option Elab.async false
set_option maxRecDepth 100000
set_option maxHeartbeats 4000000
set_option compiler.extract_closed false
namespace Mine
/-- the text without its three plain assignments -/
def vw : Program := { PySem.Challenge.pw_ot0013_01 with main := { PySem.Challenge.pw_ot0013_01.main with body := PySem.Challenge.pw_ot0013_01.main.body.take 1 ++ ((PySem.Challenge.pw_ot0013_01.main.body.drop 2).take 15 ++ ((PySem.Challenge.pw_ot0013_01.main.body.drop 18).take 3 ++ PySem.Challenge.pw_ot0013_01.main.body.drop 22)) } }
-- the head: the whole top is checked at once
local macro_rules | `(tactic| o_law) => `(tactic| refine holds_law (by decide +kernel) fun said => ?_)
local macro_rules | `(tactic| o_head $H) => `(tactic|
  refine holds_open (q := Mine.vw) (loose := [Str.ofString "Adt"]) (Xt := fun s => xlAt Mine.vw [] s && recOk (RowW.records (OpenRow.toRowW (OpenLaw.row PySem.Challenge.rw_ot0013_01))) s) (XP := XL Mine.vw []) (Yf := Hook.obs $H) (Ya := Hook.val $H) (YP := Hook.says $H) (N := 3144) (fun w => by kernel_rfl) (Hook.of $H) (Hook.keeps $H) (fun s e => xl_of s (Bool.and_eq_true_iff.mp e).1) XL.keeps (by rfl) (by rfl) (by rfl) (fun s e => recFacts_of (Bool.and_eq_true_iff.mp e).2) (by rfl) (by assumption) (by decide +kernel) ⟨rfl, rfl, rfl, rfl, rfl, by decide +kernel⟩ ?hw ?hc)
set_option maxHeartbeats 8000000 in
open_top hd for PySem.Challenge.rw_ot0013_01
/-- the names' maps -/
def nom : Str → Option Value := fun _ => none
def upd (m : Str → Option Value) (x : Str) (v : Value) : Str → Option Value := fun y => if y = x then some v else m y
theorem klt_all (P : Params) : ((hd.heap_1 P).all fun p => decide (p.1 < 242)) = true := by rfl
theorem lookup_mem : ∀ {K : Frag} {a : Addr} {o : Obj}, K.lookup a = some o → (a, o) ∈ K
  | [], a, o, e => by cases e
  | (b, x) :: r, a, o, e => by
    rw [List.lookup_cons] at e
    cases hb : a == b with
    | true => rw [hb] at e; cases e; rw [eq_of_beq hb]; exact .head _
    | false => rw [hb] at e; exact .tail _ (lookup_mem e)
theorem klt {P : Params} {a : Addr} {o : Obj} (e : (hd.heap_1 P).lookup a = some o) : a < 242 := by
  have := List.all_eq_true.mp (klt_all P) (a, o) (lookup_mem e)
  simpa using this

/-- the code table of fields_of: empty, or with the one nested def's code -/
def TabOk (h : Heap) : Prop :=
  h.get? 87 = some (tabObj #[]) ∨ ∃ l c c', h.get? 87 = some (tabObj #[rawInt l, rawInt c, .ref c']) ∧ l = 94 ∧ c = 4 ∧ 241 < c' ∧ h.CodeRec (.ref c') (Str.ofString "fields_of.<locals>.put_in")

structure Gd (w : World) (mg mb : Str → Option Value) (h : Heap) : Prop where
  X : (hd.heap_1 w.params).In h
  g : h.Ns mainGlobals mg
  b : h.Ns builtinsNs mb
  lim : ∃ mc, h.Ns cStatics mc ∧ mc "sys.recursionlimit" = none ∧ mc "sys.int_max_str_digits" = none
  bi : ∀ x : Str, x ≠ "__name__" → mb x = bootBuiltins x
  bm : ∃ bm ob, mg "__builtins__" = some (.ref bm) ∧ bm ≠ builtinsNs ∧ bm < 242 ∧ h.get? bm = some ob ∧ ob.cls = .type "module" ∧ ob.dict = some builtinsNs ∧ ob.data = .plain
  sz : 242 ≤ h.objs.size
  tab : TabOk h

def Ext (h h' : Heap) : Prop := ∀ b o, h.get? b = some o → h'.get? b = some o
theorem Ext.refl (h : Heap) : Ext h h := fun _ _ e => e
theorem Ext.trans {a b c : Heap} (x : Ext a b) (y : Ext b c) : Ext a c := fun q o e => y q o (x q o e)
theorem Ext.push (h : Heap) (o : Obj) : Ext h (h.push o) := fun _ _ e => Heap.get?_push_of_some _ e

theorem size_of_K {w : World} {h : Heap} (X : (hd.heap_1 w.params).In h) : 242 ≤ h.objs.size := by
  have e : ((hd.heap_1 w.params).lookup 241).isSome = true := by rfl
  obtain ⟨o, e⟩ := Option.isSome_iff_exists.mp e
  exact Heap.lt_size (X _ _ e)

section
variable {w : World} {mg mb : Str → Option Value} {h h' : Heap}
theorem Gd.lim1 (G : Gd w mg mb h) : h.NoLimit := let ⟨mc, a, b, _⟩ := G.lim; ⟨mc, a, b⟩
theorem Gd.ext (G : Gd w mg mb h) (k : Ext h h') : Gd w mg mb h' where
  X := G.X.keeps k
  g := G.g.keeps k
  b := G.b.keeps k
  lim := let ⟨mc, a, r⟩ := G.lim; ⟨mc, a.keeps k, r⟩
  bi := G.bi
  bm := let ⟨bm, ob, a, b, c, e, r⟩ := G.bm; ⟨bm, ob, a, b, c, k _ _ e, r⟩
  sz := size_of_K (G.X.keeps k)
  tab := G.tab.elim (fun e => .inl (k _ _ e)) fun ⟨l, c, c', e, a, b, d, r⟩ => .inr ⟨l, c, c', k _ _ e, a, b, d, r.keeps k⟩

/-- one address a, above the static part and no record of fields, is changed -/
theorem Gd.but {a : Addr} (G : Gd w mg mb h) (k : ∀ b o, b ≠ a → h.get? b = some o → h'.get? b = some o) (ha : 241 < a) (hn : ∀ o, h.get? a = some o → ∀ vs, o.data = .fields vs → ∀ x t, vs[1]? ≠ some (.str x t)) : Gd w mg mb h' := by
  have lo : ∀ b o, b < 242 → h.get? b = some o → h'.get? b = some o := fun b o hb e => k b o (Nat.ne_of_lt (Nat.lt_of_lt_of_le hb ha)) e
  have ns : ∀ b m, b < 242 → h.Ns b m → h'.Ns b m := fun b m hb ⟨o, es, ep, e, r⟩ => ⟨o, es, ep, lo b o hb e, r⟩
  have X : (hd.heap_1 w.params).In h' := fun b o e => lo b o (klt e) (G.X b o e)
  refine ⟨X, ns _ _ (by decide) G.g, ns _ _ (by decide) G.b, let ⟨mc, a, r⟩ := G.lim; ⟨mc, ns _ _ (by decide) a, r⟩, G.bi, let ⟨bm, ob, a, b, c, e, r⟩ := G.bm; ⟨bm, ob, a, b, c, lo _ _ c e, r⟩, size_of_K X, ?_⟩
  rcases G.tab with e | ⟨l, c, c', e, e1, e2, e3, c2, oc, vs, t, e4, e5, e6, e7⟩
  · exact .inl (lo _ _ (by decide) e)
  · refine .inr ⟨l, c, c', lo _ _ (by decide) e, e1, e2, e3, c2, oc, vs, t, e4, k _ _ ?_ e5, e6, e7⟩
    rintro rfl
    exact hn _ e5 _ e6 _ _ e7
end

/-- what a step leaves: all that stood but the table 87 and wr; every tuple; the static part -/
structure Step (w : World) (mg mb : Str → Option Value) (wr : List Addr) (h h' : Heap) : Prop where
  keep : ∀ b o, b ≠ 87 → b ∉ wr → h.get? b = some o → h'.get? b = some o
  tk : ∀ b o, h.get? b = some o → o.cls = .type "tuple" → (∃ vs n, o.data = .seq vs n) → h'.get? b = some o
  gd : Gd w mg mb h → Gd w mg mb h'

section
variable {w : World} {mg mb : Str → Option Value} {h h' h'' : Heap} {wr : List Addr}
theorem Step.refl (wr : List Addr) (h : Heap) : Step w mg mb wr h h := ⟨fun _ _ _ _ e => e, fun _ _ e _ _ => e, id⟩
theorem Step.trans (x : Step w mg mb wr h h') (y : Step w mg mb wr h' h'') : Step w mg mb wr h h'' :=
  ⟨fun b o h1 h2 e => y.keep b o h1 h2 (x.keep b o h1 h2 e), fun b o e c q => y.tk b o (x.tk b o e c q) c q, fun G => y.gd (x.gd G)⟩
theorem Step.of_ext (k : Ext h h') : Step w mg mb wr h h' := ⟨fun b o _ _ e => k b o e, fun b o e _ _ => k b o e, fun G => G.ext k⟩
theorem Step.push (o : Obj) : Step w mg mb wr h (h.push o) := .of_ext (Ext.push h o)
theorem Step.mono {wr' : List Addr} (x : Step w mg mb wr h h') (hw : ∀ a ∈ wr, a ∈ wr') : Step w mg mb wr' h h' := ⟨fun b o h1 h2 e => x.keep b o h1 (fun q => h2 (hw b q)) e, x.tk, x.gd⟩
theorem Step.nil (x : Step w mg mb [] h h') : Step w mg mb wr h h' := x.mono fun _ q => nomatch q
theorem Step.but {a : Addr} {o₀ : Obj} (k : ∀ b o, b ≠ a → h.get? b = some o → h'.get? b = some o) (ha : 241 < a) (h0 : h.get? a = some o₀) (hn : ∀ vs, o₀.data = .fields vs → ∀ x t, vs[1]? ≠ some (.str x t)) (hc : o₀.cls = .type "tuple" → ∀ vs n, o₀.data ≠ .seq vs n) : Step w mg mb [a] h h' :=
  ⟨fun b o _ hb e => k b o (fun q => hb (by simp [q])) e, fun b o e c ⟨vs, n, q⟩ => k b o (by rintro rfl; rw [h0] at e; cases e; exact hc c vs n q) e,
    fun G => G.but k ha (fun o e => by rw [h0] at e; cases e; exact hn)⟩
end

/-- data of tuples alone -/
abbrev XT (h : Heap) (v : Value) (d : PyData) : Prop := Reads h v d []
abbrev XTs (h : Heap) (vs : List Value) (ds : List PyData) : Prop := ReadsAll h vs ds []

section
variable {h h' : Heap} (k : ∀ b o, h.get? b = some o → o.cls = .type "tuple" → (∃ vs n, o.data = .seq vs n) → h'.get? b = some o)
include k
theorem reads_tk {v : Value} {d : PyData} {as : List Addr} (r : Reads h v d as) : as = [] → Reads h' v d as :=
  Reads.rec (motive_1 := fun v d as _ => as = [] → Reads h' v d as) (motive_2 := fun vs ds as _ => as = [] → ReadsAll h' vs ds as) (fun _ => .none) (fun b _ => .bool b) (fun i t _ => .int i t) (fun x t _ => .str x t)
    (fun _ _ _ _ _ e => nomatch e) (fun e1 e2 e3 _ ih e => .tuple (k _ _ e1 e2 ⟨_, _, e3⟩) e2 e3 (ih e)) (fun _ _ _ _ _ _ _ e => nomatch e) (fun _ => .nil) (fun _ _ a b e => .cons (a (List.append_eq_nil_iff.mp e).1) (b (List.append_eq_nil_iff.mp e).2)) r
theorem readsAll_tk {vs : List Value} {ds : List PyData} {as : List Addr} (r : ReadsAll h vs ds as) : as = [] → ReadsAll h' vs ds as :=
  ReadsAll.rec (motive_1 := fun v d as _ => as = [] → Reads h' v d as) (motive_2 := fun vs ds as _ => as = [] → ReadsAll h' vs ds as) (fun _ => .none) (fun b _ => .bool b) (fun i t _ => .int i t) (fun x t _ => .str x t)
    (fun _ _ _ _ _ e => nomatch e) (fun e1 e2 e3 _ ih e => .tuple (k _ _ e1 e2 ⟨_, _, e3⟩) e2 e3 (ih e)) (fun _ _ _ _ _ _ _ e => nomatch e) (fun _ => .nil) (fun _ _ a b e => .cons (a (List.append_eq_nil_iff.mp e).1) (b (List.append_eq_nil_iff.mp e).2)) r
end
theorem XT.up {w : World} {mg mb : Str → Option Value} {wr : List Addr} {h h' : Heap} {v : Value} {d : PyData} (st : Step w mg mb wr h h') (x : XT h v d) : XT h' v d := reads_tk st.tk x rfl
theorem XTs.up {w : World} {mg mb : Str → Option Value} {wr : List Addr} {h h' : Heap} {vs : List Value} {ds : List PyData} (st : Step w mg mb wr h h') (x : XTs h vs ds) : XTs h' vs ds := readsAll_tk st.tk x rfl
theorem XTs.nil {h : Heap} : XTs h [] [] := ReadsAll.nil
theorem XTs.cons {h : Heap} {v : Value} {d : PyData} {vs : List Value} {ds : List PyData} (x : XT h v d) (xs : XTs h vs ds) : XTs h (v :: vs) (d :: ds) := ReadsAll.cons (as := []) (bs := []) x xs
theorem readsAll_inv {h : Heap} {d : PyData} {ds : List PyData} : ∀ {vs : List Value} {as : List Addr}, ReadsAll h vs (d :: ds) as → ∃ v vs' a1 a2, vs = v :: vs' ∧ as = a1 ++ a2 ∧ Reads h v d a1 ∧ ReadsAll h vs' ds a2
  | _, _, .cons r rs => ⟨_, _, _, _, rfl, rfl, r, rs⟩
theorem XTs.inv {h : Heap} {vs : List Value} {d : PyData} {ds : List PyData} (x : XTs h vs (d :: ds)) : ∃ v vs', vs = v :: vs' ∧ XT h v d ∧ XTs h vs' ds := by
  obtain ⟨v, vs', a1, a2, e, e2, r, rs⟩ := readsAll_inv x
  obtain ⟨rfl, rfl⟩ := List.append_eq_nil_iff.mp e2.symm
  exact ⟨_, _, e, r, rs⟩
theorem XTs.inv0 {h : Heap} {vs : List Value} (x : XTs h vs []) : vs = [] := by cases x; rfl
theorem XTs.len {h : Heap} : ∀ {ds : List PyData} {vs : List Value}, XTs h vs ds → vs.length = ds.length
  | [], _, x => by rw [x.inv0]; rfl
  | _ :: ds, _, x => by obtain ⟨v, vs', rfl, _, r⟩ := x.inv; simp [XTs.len r]
theorem XT.tup {h : Heap} {v : Value} {ds : List PyData} (x : XT h v (.tuple ds)) : ∃ a vs, v = .ref a ∧ IsTup h a vs.toArray ∧ XTs h vs ds := by
  cases x with
  | tuple e1 e2 e3 r => exact ⟨_, _, rfl, ⟨_, e1, e2, _, by simpa using e3⟩, r⟩
theorem XT.of_tup {h : Heap} {a : Addr} {vs : List Value} {ds : List PyData} (t : IsTup h a vs.toArray) (x : XTs h vs ds) : XT h (.ref a) (.tuple ds) :=
  let ⟨_, e, c, _, d⟩ := t; .tuple e c d (by simpa using x)
theorem XT.str_inv {h : Heap} {v : Value} {x : Str} (r : XT h v (.str x)) : ∃ t, v = .str x t := by cases r; exact ⟨_, rfl⟩
theorem XT.int_inv {h : Heap} {v : Value} {x : Int} (r : XT h v (.int x)) : ∃ t, v = .int x t := by cases r; exact ⟨_, rfl⟩
theorem XT.bool_inv {h : Heap} {v : Value} {x : Bool} (r : XT h v (.bool x)) : v = .bool x := by cases r; rfl
theorem XT.none_inv {h : Heap} {v : Value} (r : XT h v .none) : v = .none := by cases r; rfl
theorem IsTup.up {w : World} {mg mb : Str → Option Value} {wr : List Addr} {h h' : Heap} {a : Addr} {its : Array Value} (st : Step w mg mb wr h h') (x : IsTup h a its) : IsTup h' a its :=
  let ⟨o, e, c, n, r⟩ := x; ⟨o, st.tk a o e c ⟨_, n, r⟩, c, n, r⟩

/-- room for n calls within calls -/
structure Cx (A : Around) (n : Nat) : Prop where
  hh : A.handled = none
  dp : A.depth + n < recursionLimit
  un : A.units + 16 * n + 200 < cLine
theorem Cx.deeper {A : Around} {n : Nat} (c : Cx A (n + 1)) (env : Env) : Cx (A.deeper env) n :=
  ⟨c.hh, by show A.depth + 1 + n < _; have := c.dp; omega, by show A.units + 3 + 16 * n + 200 < _; have := c.un; omega⟩
theorem Cx.le {A : Around} {n m : Nat} (c : Cx A n) (h : m ≤ n) : Cx A m := ⟨c.hh, by have := c.dp; omega, by have := c.un; omega⟩
theorem Cx.room {A : Around} {n : Nat} (c : Cx A n) : A.depth < recursionLimit := by have := c.dp; omega
theorem Cx.un64 {A : Around} {n : Nat} (c : Cx A n) : A.units + 64 < cLine := by have := c.un; omega
theorem Cx.un0 {A : Around} {n : Nat} (c : Cx A n) : A.units < cLine := by have := c.un; omega
theorem Cx.in1 {A : Around} {n : Nat} (c : Cx A (n + 1)) : Cx A.in1 n := ⟨c.hh, by show A.depth + n < _; have := c.dp; omega, by show A.units + 1 + 16 * n + 200 < _; have := c.un; omega⟩

/-- the frame at hand -/
structure Fm (w : World) (mg mb : Str → Option Value) (wr : List Addr) (hE : Heap) (env : Env) (m cm : Str → Option Value) (h : Heap) : Prop where
  ns : h.Ns env.locals m
  cell : ∀ n c, env.cells.lookup n = some c → h.IsCell c (cm n)
  ca : ∀ n c, env.cells.lookup n = some c → c ≠ env.locals ∧ c ≠ 87
  lo : 241 < env.locals
  new : hE.get? env.locals = none ∨ env.locals ∈ wr
  st : Step w mg mb wr hE h
  GE : Gd w mg mb hE
section
variable {w : World} {mg mb : Str → Option Value} {hE h h' : Heap} {env : Env} {m m' cm cm' : Str → Option Value} {wr : List Addr}
theorem Fm.G (F : Fm w mg mb wr hE env m cm h) : Gd w mg mb h := F.st.gd F.GE
theorem Fm.up (F : Fm w mg mb wr hE env m cm h) (s : Step w mg mb [] h h') : Fm w mg mb wr hE env m cm h' where
  ns := F.ns.at' fun o e => s.keep _ o (Nat.ne_of_gt (Nat.lt_trans (by decide) F.lo)) (fun q => nomatch q) e
  cell := fun n c hc => let ⟨o, e, d⟩ := F.cell n c hc; ⟨o, s.keep _ o (F.ca n c hc).2 (fun q => nomatch q) e, d⟩
  ca := F.ca
  lo := F.lo
  new := F.new
  st := F.st.trans s.nil
  GE := F.GE
/-- one object, new since the entry or given to be written, is changed -/
theorem Fm.upD (F : Fm w mg mb wr hE env m cm h) {td : Addr} (s : Step w mg mb [td] h h') (hn : hE.get? td = none ∨ td ∈ wr) (h1 : td ≠ env.locals) (h2 : ∀ n c, env.cells.lookup n = some c → c ≠ td) : Fm w mg mb wr hE env m cm h' where
  ns := F.ns.at' fun o e => s.keep _ o (Nat.ne_of_gt (Nat.lt_trans (by decide) F.lo)) (fun q => h1 (List.mem_singleton.mp q).symm) e
  cell := fun n c hc => let ⟨o, e, d⟩ := F.cell n c hc; ⟨o, s.keep _ o (F.ca n c hc).2 (fun q => h2 n c hc (List.mem_singleton.mp q)) e, d⟩
  ca := F.ca
  lo := F.lo
  new := F.new
  st := ⟨fun b o a1 a2 e => s.keep b o a1 (fun q => by obtain rfl := List.mem_singleton.mp q; exact hn.elim (fun x => by rw [x] at e; cases e) a2) (F.st.keep b o a1 a2 e), fun b o e c q => s.tk b o (F.st.tk b o e c q) c q, fun G => s.gd (F.st.gd G)⟩
  GE := F.GE
theorem Fm.wide (F : Fm w mg mb [] hE env m cm h) {wr : List Addr} : Fm w mg mb wr hE env m cm h :=
  ⟨F.ns, F.cell, F.ca, F.lo, .inl (F.new.elim id fun q => nomatch q), F.st.nil, F.GE⟩
theorem Fm.base (F : Fm w mg mb wr hE env m cm h) (wr' : List Addr) : Fm w mg mb (env.locals :: wr') h env m cm h :=
  ⟨F.ns, F.cell, F.ca, F.lo, .inr (.head _), .refl _ _, F.G⟩
theorem Fm.join (F : Fm w mg mb wr hE env m cm h) {wr' : List Addr} (F' : Fm w mg mb (env.locals :: wr') h env m' cm' h') (hw : ∀ a ∈ wr', a ∈ wr) : Fm w mg mb wr hE env m' cm' h' :=
  ⟨F'.ns, F'.cell, F.ca, F.lo, F.new, ⟨fun b o a1 a2 e => F'.st.keep b o a1 (fun q => (List.mem_cons.mp q).elim (fun q => F.new.elim (fun x => by rw [← q, e] at x; cases x) fun x => a2 (q ▸ x)) fun q => a2 (hw _ q)) (F.st.keep b o a1 a2 e), fun b o e c q => F'.st.tk b o (F.st.tk b o e c q) c q, fun G => F'.st.gd (F.st.gd G)⟩, F.GE⟩
end

def Back (Q : Value → Shared → Prop) (fl : Flow) (s' : Shared) : Prop := Q (match fl with | .ret v => v | _ => .none) s'
theorem back_ret {Q : Value → Shared → Prop} {v : Value} {s' : Shared} (q : Q v s') : Back Q (.ret v) s' := q
theorem back_next {Q : Value → Shared → Prop} {s' : Shared} (q : Q .none s') : Back Q .next s' := q
def After (M : Model) (A : Around) (rest : List Stmt) (env : Env) (Q : Flow → Shared → Prop) (E : Value → Shared → Prop) (f : Flow) (s' : Shared) : Prop := match f with
  | .next => wpAny M A (execs rest env) Q E s'
  | f => Q f s'
section
variable {M : Model} {A : Around} {rest : List Stmt} {env : Env} {Q : Flow → Shared → Prop} {E : Value → Shared → Prop} {s : Shared}
theorem after_next (k : wpAny M A (execs rest env) Q E s) : After M A rest env Q E .next s := k
theorem after_ret {v : Value} (k : Q (.ret v) s) : After M A rest env Q E (.ret v) s := k
theorem after_cont (k : Q .cont s) : After M A rest env Q E .cont s := k
theorem after_brk (k : Q .brk s) : After M A rest env Q E .brk s := k
theorem xCons {st : Stmt} (k : wpAny M A (exec st env) (After M A rest env Q E) E s) : wpAny M A (execs (st :: rest) env) Q E s := wpAny_execs_cons (wpAny_mono k (fun f _ q => by cases f <;> exact q) fun _ _ x => x)
theorem xAssign {x : Str} {p pos : Pos} {value : Expr} (hs : swapsWith value (some (.Name x p)) pos.line env = pure false)
    (k : wpAny M A (eval value env) (fun v s₁ => wpAny M A (storeName env x v) (fun _ => wpAny M A (execs rest env) Q E) E s₁) E s) : wpAny M A (execs (.Assign [.Name x p] value pos :: rest) env) Q E s :=
  wpAny_execs_cons (wpAny_Assign_Name k hs)
theorem xAssignAttr {o : Expr} {attr : Str} {p pos : Pos} {value : Expr} (hs : swapsWith value (some (.Attribute o attr p)) pos.line env = pure false)
    (k : wpAny M A (eval value env) (fun v s₁ => wpAny M A (eval o env) (fun ov s₂ => wpAny M A (setAttr ov attr v) (fun _ => wpAny M A (execs rest env) Q E) E s₂) E s₁) E s) : wpAny M A (execs (.Assign [.Attribute o attr p] value pos :: rest) env) Q E s :=
  wpAny_execs_cons (plainObj_wpAny_Assign_Attribute k hs)
theorem xAssignSub {o i : Expr} {p pos : Pos} {value : Expr} (hs : swapsWith value (some (.Subscript o i p)) pos.line env = pure false)
    (k : wpAny M A (eval value env) (fun v s₁ => wpAny M A (eval o env) (fun ov s₂ => wpAny M A (eval i env) (fun iv s₃ => wpAny M A (setItem ov iv v) (fun _ => wpAny M A (execs rest env) Q E) E s₃) E s₂) E s₁) E s) : wpAny M A (execs (.Assign [.Subscript o i p] value pos :: rest) env) Q E s :=
  wpAny_execs_cons (wpAny_Assign_Subscript k hs)
theorem xReturn {e : Expr} {pos : Pos} (k : wpAny M A (eval e env) (fun v => Q (.ret v)) E s) : wpAny M A (execs (.Return (some e) pos :: rest) env) Q E s := wpAny_execs_cons (wpAny_Return_some k)
theorem xIf {test : Expr} {body orelse : List Stmt} {pos : Pos}
    (k : wpAny M A (isTrue test env (eval test env)) (fun b s₂ => if b = true then wpAny M A (execs body env) (After M A rest env Q E) E s₂ else wpAny M A (execs orelse env) (After M A rest env Q E) E s₂) E s) : wpAny M A (execs (.If test body orelse pos :: rest) env) Q E s :=
  xCons (wpAny_If k)
theorem xNil (k : Q .next s) : wpAny M A (execs [] env) Q E s := wpAny_execs_nil k
end

section
variable {prog : Program} {w : World} {mg mb : Str → Option Value} {A : Around} {E : Value → Shared → Prop} {h : Heap} {g : Array GenState} {d : Drawn} {tk : Nat} {os : OsState}

theorem enterC (wr : List Addr) (hwr : ∀ a ∈ wr, ∃ o, h.get? a = some o) {f : Addr} {vals : List Value} {kw : List (Str × Value)} {binds : List (Str × Value)} {R : Result → Shared → Prop} {n : Nat}
    {name qual : Str} {params : Arguments} {body : List Stmt} {scope : Scope} {dV kV doc pm cdv ct oc : Value} {an od : Option Addr} {osl : Array (Option Value)} {m cm : Str → Option Value}
    (G : Gd w mg mb h) (hA : Cx A (n + 1))
    (ho : (hd.heap_1 w.params).lookup f = some ⟨oc, od, .func (fnOf name qual params body scope dV kV doc pm an cdv ct), osl⟩) (hcd : codeIn (hd.heap_1 w.params) cdv qual = true)
    (hbind : BindsTo ⟨h, g, d, tk, os⟩ (fnOf name qual params body scope dV kV doc pm an cdv ct) ⟨vals, kw⟩ binds)
    (hkind : (binds.all fun y => scope.names.lookup y.1 == some .local || scope.names.lookup y.1 == some .cell) = true)
    (hm : ∀ L, bindL (envOfC qual scope L f cdv).kindOf binds (fun _ => none) = m) (hcm : ∀ L, bindC (envOfC qual scope L f cdv).kindOf binds (fun _ => none) = cm)
    (hco : scope.isCoroutine = false) (hgen : scope.isGenerator = false) (hk : scope.kind = .function)
    (k : ∀ L h₁ tk₁ E', Step w mg mb [] h h₁ → Fm w mg mb wr h (envOfC qual scope L f cdv) m cm h₁ → (∀ x ∈ (envOfC qual scope L f cdv).cells, h.get? x.2 = none ∧ 241 < x.2) ∧ ((envOfC qual scope L f cdv).cells.Pairwise fun x y => x.2 ≠ y.2) → Cx (A.deeper (envOfC qual scope L f cdv)) n → h.get? L = none →
      wpAny (model prog w) (A.deeper (envOfC qual scope L f cdv)) (execs body (envOfC qual scope L f cdv)) (Back fun v s => R (.ok (.ret v)) s) E' ⟨h₁, g, d, tk₁, os⟩) :
    codeAny (model prog w) A (.call (.ref f) ⟨vals, kw⟩) R ⟨h, g, d, tk, os⟩ := by
  refine codeAny_call_function (s := ⟨h, g, d, tk, os⟩) hA.room (G.X _ _ ho) rfl hco hgen rfl (codeRec_of G.X hcd) (hbind _ _ _ _ ?_)
  refine wpAny_newFunctionEnv_cells hk (kindsX hkind _) fun env' he s' x => ?_
  obtain ⟨h₁, tk₁, rfl, hk₁⟩ := x.done
  have e : env' = envOfC qual scope h.objs.size f cdv := he
  subst e
  refine ⟨G.lim1.keeps hk₁, codeAny_func ?_⟩
  have st : Step w mg mb wr h h₁ := .of_ext hk₁
  have old : ∀ a ∈ wr, a < h.objs.size := fun a ha => let ⟨_, e⟩ := hwr a ha; Heap.lt_size e
  have ab : ∀ n c, (envOfC qual scope h.objs.size f cdv).cells.lookup n = some c → h.objs.size < c := fun n c hc => x.above n c (mem_of_lookup hc)
  have sz : (242 : Nat) ≤ h.objs.size := G.sz
  refine k h.objs.size h₁ tk₁ _ (.of_ext hk₁) ⟨?_, ?_, fun n c hc => ⟨Nat.ne_of_gt (ab n c hc), Nat.ne_of_gt (Nat.lt_trans (Nat.lt_of_lt_of_le (by decide) sz) (ab n c hc))⟩, Nat.lt_of_succ_le G.sz, .inl (Heap.get?_none_of_le (Nat.le_refl _)), st, G⟩
    ⟨fun y hy => ⟨Heap.get?_none_of_le (Nat.le_of_lt (x.above y.1 y.2 hy)), Nat.lt_trans (Nat.lt_of_succ_le sz) (x.above y.1 y.2 hy)⟩, x.apart⟩ (hA.deeper _) (Heap.get?_none_of_le (Nat.le_refl _))
  · rw [← hm h.objs.size]; exact x.toInCall.ns
  · rw [← hcm h.objs.size]; exact x.cell
theorem enter (wr : List Addr) (hwr : ∀ a ∈ wr, ∃ o, h.get? a = some o) {f : Addr} {vals : List Value} {binds : List (Str × Value)} {Q : Value → Shared → Prop} {n : Nat}
    {name qual : Str} {params : Arguments} {body : List Stmt} {scope : Scope} {dV kV doc pm cdv ct oc : Value} {an od : Option Addr} {osl : Array (Option Value)} {m cm : Str → Option Value}
    (G : Gd w mg mb h) (hA : Cx A (n + 1))
    (ho : (hd.heap_1 w.params).lookup f = some ⟨oc, od, .func (fnOf name qual params body scope dV kV doc pm an cdv ct), osl⟩) (hcd : codeIn (hd.heap_1 w.params) cdv qual = true)
    (hbind : BindsTo ⟨h, g, d, tk, os⟩ (fnOf name qual params body scope dV kV doc pm an cdv ct) ⟨vals, []⟩ binds)
    (hkind : (binds.all fun y => scope.names.lookup y.1 == some .local || scope.names.lookup y.1 == some .cell) = true)
    (hm : ∀ L, bindL (envOfC qual scope L f cdv).kindOf binds (fun _ => none) = m) (hcm : ∀ L, bindC (envOfC qual scope L f cdv).kindOf binds (fun _ => none) = cm)
    (hco : scope.isCoroutine = false) (hgen : scope.isGenerator = false) (hk : scope.kind = .function)
    (k : ∀ L h₁ tk₁ E', Step w mg mb [] h h₁ → Fm w mg mb wr h (envOfC qual scope L f cdv) m cm h₁ → (∀ x ∈ (envOfC qual scope L f cdv).cells, h.get? x.2 = none ∧ 241 < x.2) ∧ ((envOfC qual scope L f cdv).cells.Pairwise fun x y => x.2 ≠ y.2) → Cx (A.deeper (envOfC qual scope L f cdv)) n → h.get? L = none →
      wpAny (model prog w) (A.deeper (envOfC qual scope L f cdv)) (execs body (envOfC qual scope L f cdv)) (Back Q) E' ⟨h₁, g, d, tk₁, os⟩) :
    wpAny (model prog w) A (call (.ref f) vals) Q E ⟨h, g, d, tk, os⟩ := by
  exact wpAny_call (enterC wr hwr (R := fun r s' => match r with | .ok (.ret v) => Q v s' | .ok _ => False | .error e => E e s') G hA ho hcd hbind hkind hm hcm hco hgen hk k)
end

section
variable {prog : Program} {w : World} {mg mb : Str → Option Value} {A : Around} {E : Value → Shared → Prop} {hE h : Heap} {env : Env} {m cm : Str → Option Value} {wr : List Addr}
  {g : Array GenState} {d : Drawn} {tk : Nat} {os : OsState}

theorem nameL {x : Str} {pos : Pos} {v : Value} {Q : Value → Shared → Prop} (F : Fm w mg mb wr hE env m cm h) (hl : env.kindOf x = some .local) (hv : m x = some v) (hk : env.scope.kind = .function) (hd : (x == ("__debug__" : Str)) = false)
    (k : Q v ⟨h, g, d, tk, os⟩) : wpAny (model prog w) A (eval (.Name x pos) env) Q E ⟨h, g, d, tk, os⟩ := wpAny_Name (wpAny_loadName_local hk hl F.ns hv k) hd
theorem nameC {x : Str} {pos : Pos} {v : Value} {c : Addr} {Q : Value → Shared → Prop} (F : Fm w mg mb wr hE env m cm h) (hl : env.kindOf x = some .cell) (hc : env.cells.lookup x = some c) (hv : cm x = some v) (hk : env.scope.kind = .function) (hd : (x == ("__debug__" : Str)) = false)
    (k : Q v ⟨h, g, d, tk, os⟩) : wpAny (model prog w) A (eval (.Name x pos) env) Q E ⟨h, g, d, tk, os⟩ := wpAny_Name (wpAny_loadName_cell hk hl hc (hv ▸ F.cell x c hc) k) hd
theorem nameG {x : Str} {pos : Pos} {v : Value} {Q : Value → Shared → Prop} (F : Fm w mg mb wr hE env m cm h) (hl : env.kindOf x = some .globalImplicit) (hv : nsIn (hd.heap_1 w.params) mainGlobals x = some (some v)) (hk : env.scope.kind = .function) (hg : env.globals = mainGlobals) (hd : (x == ("__debug__" : Str)) = false)
    (k : Q v ⟨h, g, d, tk, os⟩) : wpAny (model prog w) A (eval (.Name x pos) env) Q E ⟨h, g, d, tk, os⟩ := Name_function_global hk hl (loadGlobal_global (env := env) (hg ▸ F.G.g) (mg_of F.G.X F.G.g hv) k) hd
theorem nameB {x : Str} {pos : Pos} {v : Value} {Q : Value → Shared → Prop} (F : Fm w mg mb wr hE env m cm h) (hl : env.kindOf x = some .globalImplicit) (hn : nsIn (hd.heap_1 w.params) mainGlobals x = some none) (hv : bootBuiltins x = some v) (hx : x ≠ "__name__") (hk : env.scope.kind = .function) (hg : env.globals = mainGlobals) (hb : env.builtins = builtinsNs) (hd : (x == ("__debug__" : Str)) = false)
    (k : Q v ⟨h, g, d, tk, os⟩) : wpAny (model prog w) A (eval (.Name x pos) env) Q E ⟨h, g, d, tk, os⟩ :=
  Name_function_global hk hl (loadGlobal_builtin (env := env) (hg ▸ F.G.g) (mg_none_of F.G.X F.G.g hn) (hb ▸ F.G.b) ((F.G.bi x hx).trans hv) k) hd

theorem nameB_tuple {pos : Pos} {Q : Value → Shared → Prop} (F : Fm w mg mb wr hE env m cm h) (hl : env.kindOf (Str.ofString "tuple") = some .globalImplicit) (hn : nsIn (hd.heap_1 w.params) mainGlobals (Str.ofString "tuple") = some none) (hk : env.scope.kind = .function) (hg : env.globals = mainGlobals) (hb : env.builtins = builtinsNs)
    (k : Q (.type "tuple") ⟨h, g, d, tk, os⟩) : wpAny (model prog w) A (eval (.Name (Str.ofString "tuple") pos) env) Q E ⟨h, g, d, tk, os⟩ := nameB F hl hn (by decide +kernel) (by decide) hk hg hb (by decide) k
theorem nameB_len {pos : Pos} {Q : Value → Shared → Prop} (F : Fm w mg mb wr hE env m cm h) (hl : env.kindOf (Str.ofString "len") = some .globalImplicit) (hn : nsIn (hd.heap_1 w.params) mainGlobals (Str.ofString "len") = some none) (hk : env.scope.kind = .function) (hg : env.globals = mainGlobals) (hb : env.builtins = builtinsNs)
    (k : Q (.builtin "len") ⟨h, g, d, tk, os⟩) : wpAny (model prog w) A (eval (.Name (Str.ofString "len") pos) env) Q E ⟨h, g, d, tk, os⟩ := nameB F hl hn (by decide +kernel) (by decide) hk hg hb (by decide) k
theorem nameB_zip {pos : Pos} {Q : Value → Shared → Prop} (F : Fm w mg mb wr hE env m cm h) (hl : env.kindOf (Str.ofString "zip") = some .globalImplicit) (hn : nsIn (hd.heap_1 w.params) mainGlobals (Str.ofString "zip") = some none) (hk : env.scope.kind = .function) (hg : env.globals = mainGlobals) (hb : env.builtins = builtinsNs)
    (k : Q (.type "zip") ⟨h, g, d, tk, os⟩) : wpAny (model prog w) A (eval (.Name (Str.ofString "zip") pos) env) Q E ⟨h, g, d, tk, os⟩ := nameB F hl hn (by decide +kernel) (by decide) hk hg hb (by decide) k
theorem nameB_dict {pos : Pos} {Q : Value → Shared → Prop} (F : Fm w mg mb wr hE env m cm h) (hl : env.kindOf (Str.ofString "dict") = some .globalImplicit) (hn : nsIn (hd.heap_1 w.params) mainGlobals (Str.ofString "dict") = some none) (hk : env.scope.kind = .function) (hg : env.globals = mainGlobals) (hb : env.builtins = builtinsNs)
    (k : Q (.type "dict") ⟨h, g, d, tk, os⟩) : wpAny (model prog w) A (eval (.Name (Str.ofString "dict") pos) env) Q E ⟨h, g, d, tk, os⟩ := nameB F hl hn (by decide +kernel) (by decide) hk hg hb (by decide) k
theorem nameB_enumerate {pos : Pos} {Q : Value → Shared → Prop} (F : Fm w mg mb wr hE env m cm h) (hl : env.kindOf (Str.ofString "enumerate") = some .globalImplicit) (hn : nsIn (hd.heap_1 w.params) mainGlobals (Str.ofString "enumerate") = some none) (hk : env.scope.kind = .function) (hg : env.globals = mainGlobals) (hb : env.builtins = builtinsNs)
    (k : Q (.type "enumerate") ⟨h, g, d, tk, os⟩) : wpAny (model prog w) A (eval (.Name (Str.ofString "enumerate") pos) env) Q E ⟨h, g, d, tk, os⟩ := nameB F hl hn (by decide +kernel) (by decide) hk hg hb (by decide) k
theorem nameB_str {pos : Pos} {Q : Value → Shared → Prop} (F : Fm w mg mb wr hE env m cm h) (hl : env.kindOf (Str.ofString "str") = some .globalImplicit) (hn : nsIn (hd.heap_1 w.params) mainGlobals (Str.ofString "str") = some none) (hk : env.scope.kind = .function) (hg : env.globals = mainGlobals) (hb : env.builtins = builtinsNs)
    (k : Q (.type "str") ⟨h, g, d, tk, os⟩) : wpAny (model prog w) A (eval (.Name (Str.ofString "str") pos) env) Q E ⟨h, g, d, tk, os⟩ := nameB F hl hn (by decide +kernel) (by decide) hk hg hb (by decide) k
theorem nameB_range {pos : Pos} {Q : Value → Shared → Prop} (F : Fm w mg mb wr hE env m cm h) (hl : env.kindOf (Str.ofString "range") = some .globalImplicit) (hn : nsIn (hd.heap_1 w.params) mainGlobals (Str.ofString "range") = some none) (hk : env.scope.kind = .function) (hg : env.globals = mainGlobals) (hb : env.builtins = builtinsNs)
    (k : Q (.type "range") ⟨h, g, d, tk, os⟩) : wpAny (model prog w) A (eval (.Name (Str.ofString "range") pos) env) Q E ⟨h, g, d, tk, os⟩ := nameB F hl hn (by decide +kernel) (by decide) hk hg hb (by decide) k
theorem nameB_int {pos : Pos} {Q : Value → Shared → Prop} (F : Fm w mg mb wr hE env m cm h) (hl : env.kindOf (Str.ofString "int") = some .globalImplicit) (hn : nsIn (hd.heap_1 w.params) mainGlobals (Str.ofString "int") = some none) (hk : env.scope.kind = .function) (hg : env.globals = mainGlobals) (hb : env.builtins = builtinsNs)
    (k : Q (.type "int") ⟨h, g, d, tk, os⟩) : wpAny (model prog w) A (eval (.Name (Str.ofString "int") pos) env) Q E ⟨h, g, d, tk, os⟩ := nameB F hl hn (by decide +kernel) (by decide) hk hg hb (by decide) k
theorem nameB_max {pos : Pos} {Q : Value → Shared → Prop} (F : Fm w mg mb wr hE env m cm h) (hl : env.kindOf (Str.ofString "max") = some .globalImplicit) (hn : nsIn (hd.heap_1 w.params) mainGlobals (Str.ofString "max") = some none) (hk : env.scope.kind = .function) (hg : env.globals = mainGlobals) (hb : env.builtins = builtinsNs)
    (k : Q (.builtin "max") ⟨h, g, d, tk, os⟩) : wpAny (model prog w) A (eval (.Name (Str.ofString "max") pos) env) Q E ⟨h, g, d, tk, os⟩ := nameB F hl hn (by decide +kernel) (by decide) hk hg hb (by decide) k
theorem nameB_any {pos : Pos} {Q : Value → Shared → Prop} (F : Fm w mg mb wr hE env m cm h) (hl : env.kindOf (Str.ofString "any") = some .globalImplicit) (hn : nsIn (hd.heap_1 w.params) mainGlobals (Str.ofString "any") = some none) (hk : env.scope.kind = .function) (hg : env.globals = mainGlobals) (hb : env.builtins = builtinsNs)
    (k : Q (.builtin "any") ⟨h, g, d, tk, os⟩) : wpAny (model prog w) A (eval (.Name (Str.ofString "any") pos) env) Q E ⟨h, g, d, tk, os⟩ := nameB F hl hn (by decide +kernel) (by decide) hk hg hb (by decide) k
theorem nameB_all {pos : Pos} {Q : Value → Shared → Prop} (F : Fm w mg mb wr hE env m cm h) (hl : env.kindOf (Str.ofString "all") = some .globalImplicit) (hn : nsIn (hd.heap_1 w.params) mainGlobals (Str.ofString "all") = some none) (hk : env.scope.kind = .function) (hg : env.globals = mainGlobals) (hb : env.builtins = builtinsNs)
    (k : Q (.builtin "all") ⟨h, g, d, tk, os⟩) : wpAny (model prog w) A (eval (.Name (Str.ofString "all") pos) env) Q E ⟨h, g, d, tk, os⟩ := nameB F hl hn (by decide +kernel) (by decide) hk hg hb (by decide) k

theorem cInt {i : Int} {k : Nat} {pos : Pos} {Q : Value → Shared → Prop} (q : Q (.int i tk) ⟨h, g, d, tk + 1, os⟩) : wpAny (model prog w) A (eval (.Constant (.int i) k pos) env) Q E ⟨h, g, d, tk, os⟩ := wpAny_Constant_int q
theorem cStr {i : Str} {k : Nat} {pos : Pos} {Q : Value → Shared → Prop} (q : Q (.str i tk) ⟨h, g, d, tk + 1, os⟩) : wpAny (model prog w) A (eval (.Constant (.str i) k pos) env) Q E ⟨h, g, d, tk, os⟩ := Constant_str q
theorem cBool {i : Bool} {k : Nat} {pos : Pos} {Q : Value → Shared → Prop} (q : Q (.bool i) ⟨h, g, d, tk, os⟩) : wpAny (model prog w) A (eval (.Constant (.bool i) k pos) env) Q E ⟨h, g, d, tk, os⟩ := fun _ _ _ => q
theorem cNone {k : Nat} {pos : Pos} {Q : Value → Shared → Prop} (q : Q .none ⟨h, g, d, tk, os⟩) : wpAny (model prog w) A (eval (.Constant .none k pos) env) Q E ⟨h, g, d, tk, os⟩ := fun _ _ _ => q

theorem stL {x : Str} {v : Value} {Q : Unit → Shared → Prop} (F : Fm w mg mb wr hE env m cm h) (hl : env.kindOf x = some .local) (hk : env.scope.kind = .function)
    (k : ∀ h', Step w mg mb [env.locals] h h' → Fm w mg mb wr hE env (upd m x v) cm h' → Q () ⟨h', g, d, tk + 1, os⟩) :
    wpAny (model prog w) A (storeName env x v) Q E ⟨h, g, d, tk, os⟩ := by
  refine wpAny_storeName_local hl F.ns (fun h' hn hs => ?_) (by rw [hk]; rfl)
  obtain ⟨o, es, ep, ho, hd, r⟩ := F.ns
  have st : Step w mg mb [env.locals] h h' := .but (fun b o hb e => (hs.2 b hb).trans e) F.lo ho (fun vs q => by rw [hd] at q; cases q) (fun _ vs n q => by rw [hd] at q; cases q)
  refine k h' st ⟨hn, fun n c hc => (F.cell n c hc).sameBut hs (F.ca n c hc).1, F.ca, F.lo, F.new, ?_, F.GE⟩
  refine ⟨fun b o h1 h2 e => ?_, fun b o e c q => st.tk b o (F.st.tk b o e c q) c q, fun G => st.gd (F.st.gd G)⟩
  exact (hs.2 b (by rintro rfl; exact F.new.elim (fun x => by rw [x] at e; cases e) h2)).trans (F.st.keep b o h1 h2 e)

theorem stC {x : Str} {v : Value} {c : Addr} {Q : Unit → Shared → Prop} (F : Fm w mg mb wr hE env m cm h) (CN : (∀ x ∈ env.cells, hE.get? x.2 = none ∧ 241 < x.2) ∧ (env.cells.Pairwise fun x y => x.2 ≠ y.2)) (hl : env.kindOf x = some .cell) (hc : env.cells.lookup x = some c) (hk : env.scope.kind = .function)
    (k : ∀ h', Step w mg mb [c] h h' → Fm w mg mb wr hE env m (upd cm x v) h' → Q () ⟨h', g, d, tk, os⟩) :
    wpAny (model prog w) A (storeName env x v) Q E ⟨h, g, d, tk, os⟩ := by
  have hc2 : 241 < c := (CN.1 _ (mem_of_lookup hc)).2
  refine wpAny_storeName_cell hk hl hc (F.cell x c hc) fun h' hc' hs => ?_
  obtain ⟨o, ho, hd⟩ := F.cell x c hc
  have st : Step w mg mb [c] h h' := .but (fun b o hb e => (hs.2 b hb).trans e) hc2 ho (fun vs q => by rw [hd] at q; cases q) (fun _ vs n q => by rw [hd] at q; cases q)
  refine k h' st ⟨F.ns.sameBut hs (F.ca x c hc).1.symm, fun n c' hk' => ?_, F.ca, F.lo, F.new, ?_, F.GE⟩
  · by_cases hn : n = x
    · subst hn; rw [hc] at hk'; cases hk'; rw [show upd cm n v n = some v from if_pos rfl]; simpa using hc'
    · rw [show upd cm x v n = cm n from if_neg hn]
      exact (F.cell n c' hk').sameBut hs fun e => hn (name_of_addr CN.2 (mem_of_lookup hk') (e ▸ mem_of_lookup hc))
  · refine ⟨fun b o h1 h2 e => ?_, fun b o e c q => st.tk b o (F.st.tk b o e c q) c q, fun G => st.gd (F.st.gd G)⟩
    exact (hs.2 b (by rintro rfl; have := (CN.1 _ (mem_of_lookup hc)).1; rw [this] at e; cases e)).trans (F.st.keep b o h1 h2 e)

theorem newTup {vs : List Value} {Q : Value → Shared → Prop} (F : Fm w mg mb wr hE env m cm h) (hsz : vs.length ≤ sizeLine)
    (k : ∀ a h', Step w mg mb [] h h' → Fm w mg mb wr hE env m cm h' → IsTup h' a vs.toArray → Q (.ref a) ⟨h', g, d, tk, os⟩) : wpAny (model prog w) A (newTuple vs) Q E ⟨h, g, d, tk, os⟩ := by
  refine wpAny_newObj_type ?_ (by show vs.toArray.size ≤ sizeLine; rw [List.size_toArray]; exact hsz)
  exact k h.objs.size _ (.push _) (F.up (.push _)) ⟨_, Heap.get?_push_size _ rfl, rfl, _, rfl⟩
theorem newTupX {vs : List Value} {ds : List PyData} {Q : Value → Shared → Prop} (F : Fm w mg mb wr hE env m cm h) (x : XTs h vs ds) (hsz : ds.length ≤ sizeLine)
    (k : ∀ v h', Step w mg mb [] h h' → Fm w mg mb wr hE env m cm h' → XT h' v (.tuple ds) → Q v ⟨h', g, d, tk, os⟩) : wpAny (model prog w) A (newTuple vs) Q E ⟨h, g, d, tk, os⟩ :=
  newTup F (by rw [x.len]; exact hsz) fun _ h' st F' t => k _ h' st F' (.of_tup t (x.up st))

theorem XTs.at {h : Heap} : ∀ {ds : List PyData} {vs : List Value} {j : Nat} {dj : PyData}, XTs h vs ds → ds[j]? = some dj → ∃ y, vs[j]? = some y ∧ XT h y dj
  | [], _, _, _, _, e => by cases e
  | d0 :: ds, vs, j, dj, xs, e => by
    obtain ⟨v0, vs', rfl, x0, xs'⟩ := xs.inv
    cases j with
    | zero => cases e; exact ⟨v0, rfl, x0⟩
    | succ j =>
      have q := XTs.at (j := j) (dj := dj) xs' (by simpa using e)
      simpa using q

theorem subX {value slice : Expr} {v : Value} {ds : List PyData} {i : Int} {u : Tok} {dj : PyData} {Q : Value → Shared → Prop} (x : XT h v (.tuple ds)) (hj : ds[i.toNat]? = some dj) (hi : 0 ≤ i) (hhi : i < 2 ^ 63)
    (hs : ∀ a, subscripted slice false (.ref a) (.int i u) = operate [.ref a, .int i u] (getItem (.ref a) (.int i u)))
    (k : ∀ y, XT h y dj → Q y ⟨h, g, d, tk, os⟩) : wpAny (model prog w) A (subscriptTail value slice v (.int i u)) Q E ⟨h, g, d, tk, os⟩ := by
  obtain ⟨a, vs, rfl, t, xs⟩ := x.tup
  obtain ⟨y, hy, xy⟩ := XTs.at xs hj
  have hlt : i.toNat < vs.length := (List.getElem?_eq_some_iff.mp hy).1
  refine item_tupleT t (by omega) hhi (j := i.toNat) ?_ hy (k y xy) (hs a)
  have e0 : (if i < 0 then i + (vs.length : Int) else i) = i := if_neg (by omega)
  unfold seqIndex?
  simp only [e0]
  have e1 : (decide (0 ≤ i) && decide (i < (vs.length : Int))) = true := by simp only [Bool.and_eq_true, decide_eq_true_eq]; omega
  rw [if_pos e1]

theorem eqX {a b : Value} {da db : PyData} {n : Nat} {Q : Value → Shared → Prop} (hA : Cx A n) (ra : XT h a da) (rb : XT h b db) (ha : SeqAt.shaped da = true) (hb : SeqAt.shaped db = true) (k : Q (.bool (PyData.eqv da db)) ⟨h, g, d, tk, os⟩) :
    wpAny (model prog w) A (compareOp .Eq a b) Q E ⟨h, g, d, tk, os⟩ := SeqAt.compareEq_shaped ra rb ha hb hA.un64 k
theorem inX {x c : Value} {xs : List PyData} {dx : PyData} {n : Nat} {Q : Value → Shared → Prop} (hA : Cx A n) (rc : XT h c (.tuple xs)) (rx : XT h x dx) (hxs : PyData.canLayAll0 xs = true) (hd : dx.canLay0 = true) (hdd : dx.depth ≤ 64) (k : Q (.bool (xs.any fun y => PyData.eqv y dx)) ⟨h, g, d, tk, os⟩) :
    wpAny (model prog w) A (compareOp .In x c) Q E ⟨h, g, d, tk, os⟩ := SeqAt.in_tuple_reads rc rx hxs hd (by have := hA.un; have := Nat.min_le_right (PyData.depthAll xs) dx.depth; omega) k
theorem callF {pos : Pos} {f : Addr} {e : Expr} {rest : List Expr} {Q : Value → Shared → Prop} (_F : Fm w mg mb wr hE env m cm h) (hk : keepIn (hd.heap_1 w.params) (.ref f) = true)
    (he : starEach (e :: rest) env = (false, eval e env) :: starEach rest env) (hp : (backTo pos (starEach rest env)).any (·.1) = false)
    (k : wpAny (model prog w) A (spliced (backTo pos (starEach (e :: rest) env))) (fun vs s₁ => Gd w mg mb s₁.heap ∧ wpAny (model prog w) A (call (.ref f) vs) Q E s₁) E ⟨h, g, d, tk, os⟩) :
    wpAny (model prog w) A (callWith pos (.ref f) [] (backTo pos (starEach (e :: rest) env)) []) Q E ⟨h, g, d, tk, os⟩ := by
  rw [he] at k ⊢
  exact callWith_of (by show ((false || (backTo pos (starEach rest env)).any (·.1)) || false) = false; rw [hp]; rfl) (keeps_K hk) (evalArgs_plain (wpAny_mono k (fun _ _ q => ⟨q.1.X, q.2⟩) fun _ _ x => x))

theorem IsList.ne87 (G : Gd w mg mb h) {l : Addr} {its : Array Value} (x : h.IsList l its) : l ≠ 87 := by
  rintro rfl
  obtain ⟨o, e, hc, _⟩ := x
  rcases G.tab with q | ⟨_, _, _, q, _⟩ <;> (rw [q] at e; cases e; cases hc)
theorem IsList.up {h' : Heap} (G : Gd w mg mb h) (st : Step w mg mb wr h h') {l : Addr} {its : Array Value} (x : h.IsList l its) (hw : l ∉ wr) : h'.IsList l its :=
  x.at fun o e => st.keep l o (IsList.ne87 G x) hw e
theorem IsList.ofE (F : Fm w mg mb wr hE env m cm h) {l : Addr} {its : Array Value} (x : hE.IsList l its) (hw : l ∉ wr) : h.IsList l its := IsList.up F.GE F.st x hw
theorem IsList.upL (F : Fm w mg mb wr hE env m cm h) {h' : Heap} (st : Step w mg mb [env.locals] h h') {l : Addr} {its : Array Value} (x : h.IsList l its) : h'.IsList l its :=
  IsList.up F.G st x fun q => by
    obtain rfl := List.mem_singleton.mp q
    obtain ⟨o, _, _, e, hd, _⟩ := F.ns
    obtain ⟨o', e', _, _, hd'⟩ := x
    rw [e] at e'; cases e'; rw [hd] at hd'; cases hd'

theorem subLX {value slice : Expr} {l : Addr} {vs : List Value} {ds : List PyData} {i : Int} {u : Tok} {dj : PyData} {Q : Value → Shared → Prop} (hl : h.IsList l vs.toArray) (xs : XTs h vs ds) (hj : ds[i.toNat]? = some dj) (hi : 0 ≤ i) (hhi : i < 2 ^ 63)
    (hs : subscripted slice false (.ref l) (.int i u) = operate [.ref l, .int i u] (getItem (.ref l) (.int i u)))
    (k : ∀ y, XT h y dj → Q y ⟨h, g, d, tk, os⟩) : wpAny (model prog w) A (subscriptTail value slice (.ref l) (.int i u)) Q E ⟨h, g, d, tk, os⟩ := by
  obtain ⟨y, hy, xy⟩ := xs.at hj
  exact tail_any hl.typeIs slot_list_getitem.lookup (wpAny_getItem_list hl hi hhi (by simpa using hy) (k y xy)) hs

theorem callT {pos : Pos} {T : String} {e : Expr} {rest : List Expr} {Q : Value → Shared → Prop}
    (he : starEach (e :: rest) env = (false, eval e env) :: starEach rest env) (hp : (backTo pos (starEach rest env)).any (·.1) = false)
    (k : wpAny (model prog w) A (spliced (backTo pos (starEach (e :: rest) env))) (fun vs s₁ => wpAny (model prog w) A (call (.type T) vs) Q E s₁) E ⟨h, g, d, tk, os⟩) :
    wpAny (model prog w) A (callWith pos (.type T) [] (backTo pos (starEach (e :: rest) env)) []) Q E ⟨h, g, d, tk, os⟩ := PyProof.Rows.callWith_type1 k he hp
theorem callB {pos : Pos} {id : String} {e : Expr} {rest : List Expr} {Q : Value → Shared → Prop}
    (he : starEach (e :: rest) env = (false, eval e env) :: starEach rest env) (hp : (backTo pos (starEach rest env)).any (·.1) = false)
    (k : wpAny (model prog w) A (spliced (backTo pos (starEach (e :: rest) env))) (fun vs s₁ => wpAny (model prog w) A (call (.builtin id) vs) Q E s₁) E ⟨h, g, d, tk, os⟩) :
    wpAny (model prog w) A (callWith pos (.builtin id) [] (backTo pos (starEach (e :: rest) env)) []) Q E ⟨h, g, d, tk, os⟩ := by
  rw [he] at k ⊢
  exact callWith_builtin (by show (false || (backTo pos (starEach rest env)).any (·.1)) = false; rw [hp]; rfl) (evalArgs_plain k)

theorem tupleOfL {l : Addr} {vs : List Value} {ds : List PyData} {Q : Value → Shared → Prop} (F : Fm w mg mb wr hE env m cm h) (hl : h.IsList l vs.toArray) (xs : XTs h vs ds) (hsz : ds.length ≤ sizeLine)
    (k : ∀ v h', Step w mg mb [] h h' → Fm w mg mb wr hE env m cm h' → XT h' v (.tuple ds) → Q v ⟨h', g, d, tk, os⟩) : wpAny (model prog w) A (call (.type "tuple") [.ref l]) Q E ⟨h, g, d, tk, os⟩ := by
  refine call_tuple_list hl (fun h' hk => ?_) (by rw [List.size_toArray, xs.len]; exact hsz)
  have st : Step w mg mb [] h (h'.push { cls := .type "tuple", data := .seq vs.toArray }) := (Step.of_ext hk).trans (.push _)
  exact k _ _ st (F.up st) (.of_tup ⟨_, Heap.get?_push_size _ rfl, rfl, _, rfl⟩ (xs.up st))

theorem ifT {b : Bool} {X Y : Prop} (e : b = true) (x : X) : if b = true then X else Y := by rw [if_pos e]; exact x
theorem ifF {b : Bool} {X Y : Prop} (e : b = false) (y : Y) : if b = true then X else Y := by rw [if_neg (by rw [e]; decide)]; exact y
end

section
variable {prog : Program} {w : World} {A : Around} {E : Value → Shared → Prop} {R : Result → Shared → Prop} {s : Shared}
theorem compLoop_gen {elt target iter : Expr} {ifs : List Expr} {scope : Scope} {pos : Pos} {it acc : Value} {env : Env} (I : Nat → Shared → Prop)
    (turn : ∀ n s E', I n s → wpAny (model prog w) A (pyNext it) (fun r s₁ => match r with
      | none => R (.ok .next) s₁
      | some v => wpAny (model prog w) A (letOwnedTupleGo target it v) (fun _ s₁' => wpAny (model prog w) A (assign target env v) (fun _ s₂ =>
          wpAny (model prog w) A (forIn ifs true fun c r => if r = true then do let ok ← isTrue c env (eval c env); pure (ForInStep.yield ok) else pure (ForInStep.yield r)) (fun ok s₃ =>
            if ok = true then wpAny (model prog w) A (eval elt env) (fun x s₄ =>
              wpAny (model prog w) A (call (.builtin "list.append") [acc, x]) (fun _ s₅ => ∃ m, m < n ∧ I m s₅) E' s₄) E' s₃
            else ∃ m, m < n ∧ I m s₃) E' s₂) E' s₁') E' s₁) E' s)
    (n : Nat) (h : I n s) :
    codeAny (model prog w) A (.compLoop (.ListComp elt [⟨target, iter, ifs, 0⟩] scope pos) 0 it acc env) R s := by
  refine codeAny_loop rfl I (fun n s hI => ?_) n h
  show wpAny _ A ((compTurn (.ListComp elt [⟨target, iter, ifs, 0⟩] scope pos) 0 it acc env).onRaise (fun x => do noteFrame x env; theTreesLotGoes x)) _ _ s
  refine wpAny_noted ?_
  rw [compTurn_list]
  refine wpAny_bind (wpAny_standAt (wpAny_bind (wpAny_mono (turn n s _ hI) (fun r s₁ h₁ => ?_) fun _ _ h' => h')))
  cases r with
  | none => exact wpAny_pure h₁
  | some v =>
    refine wpAny_bind (wpAny_mono h₁ (fun _ s₁' h₁' => ?_) fun _ _ h' => h')
    refine wpAny_bind (wpAny_mono h₁' (fun _ s₂ h₂ => wpAny_bind (wpAny_mono h₂ (fun ok s₃ h₃ => ?_) fun _ _ h' => h')) fun _ _ h' => h')
    cases ok with
    | false => exact wpAny_pure ⟨rfl, h₃⟩
    | true =>
      exact wpAny_bind (wpAny_bind (wpAny_mono h₃ (fun x s₄ h₄ => wpAny_bind (wpAny_mono h₄ (fun _ s₅ h₅ => wpAny_pure (wpAny_pure ⟨rfl, h₅⟩)) fun _ _ h' => h')) fun _ _ h' => h'))
end

/-- an iterator's object: no tuple or list, no code record -/
def Itr (o : Obj) : Prop := (∃ T, o.cls = .type T ∧ T ∈ ["list_iterator", "tuple_iterator", "range_iterator", "enumerate", "dict_keyiterator"]) ∧ (∃ vs, o.data = .fields vs ∧ ∀ x t, vs[1]? ≠ some (.str x t))
section
variable {w : World} {mg mb : Str → Option Value} {h h' : Heap} {L : List Addr}
theorem Itr.tup {o : Obj} (x : Itr o) : ∀ vs n, o.data ≠ .seq vs n := fun vs n q => by obtain ⟨_, fs, e, _⟩ := x; rw [e] at q; cases q
theorem Itr.code {o : Obj} (x : Itr o) : ∀ vs, o.data = .fields vs → ∀ x t, vs[1]? ≠ some (.str x t) := fun vs q => by obtain ⟨_, fs, e, k⟩ := x; rw [e] at q; cases q; exact k
theorem Gd.buts (G : Gd w mg mb h) (k : ∀ b o, b ∉ L → h.get? b = some o → h'.get? b = some o) (ha : ∀ a ∈ L, 241 < a) (hn : ∀ a ∈ L, ∀ o, h.get? a = some o → ∀ vs, o.data = .fields vs → ∀ x t, vs[1]? ≠ some (.str x t)) : Gd w mg mb h' := by
  have lo : ∀ b o, b < 242 → h.get? b = some o → h'.get? b = some o := fun b o hb e => k b o (fun q => Nat.lt_irrefl _ (Nat.lt_of_lt_of_le hb (ha b q))) e
  have ns : ∀ b m, b < 242 → h.Ns b m → h'.Ns b m := fun b m hb ⟨o, es, ep, e, r⟩ => ⟨o, es, ep, lo b o hb e, r⟩
  have X : (hd.heap_1 w.params).In h' := fun b o e => lo b o (klt e) (G.X b o e)
  refine ⟨X, ns _ _ (by decide) G.g, ns _ _ (by decide) G.b, let ⟨mc, a, r⟩ := G.lim; ⟨mc, ns _ _ (by decide) a, r⟩, G.bi, let ⟨bm, ob, a, b, c, e, r⟩ := G.bm; ⟨bm, ob, a, b, c, lo _ _ c e, r⟩, size_of_K X, ?_⟩
  rcases G.tab with e | ⟨l, c, c', e, e1, e2, e3, c2, oc, vs, t, e4, e5, e6, e7⟩
  · exact .inl (lo _ _ (by decide) e)
  · exact .inr ⟨l, c, c', lo _ _ (by decide) e, e1, e2, e3, c2, oc, vs, t, e4, k _ _ (fun q => hn _ q _ e5 _ e6 _ _ e7) e5, e6, e7⟩
theorem Step.its (k : ∀ b o, b ∉ L → h.get? b = some o → h'.get? b = some o) (hL : ∀ a ∈ L, 241 < a ∧ ∃ o, h.get? a = some o ∧ Itr o) : Step w mg mb L h h' :=
  ⟨fun b o _ hb e => k b o hb e, fun b o e _ ⟨vs, n, q⟩ => k b o (fun z => by obtain ⟨_, o', e', x⟩ := hL b z; rw [e] at e'; cases e'; exact x.tup vs n q) e,
    fun G => G.buts k (fun a q => (hL a q).1) fun a q o e => by obtain ⟨_, o', e', x⟩ := hL a q; rw [e] at e'; cases e'; exact x.code⟩
end

/-- what the comprehension's own machine moves: its iterator's objects L, its names C, its list D -/
structure Mv (w : World) (mg mb : Str → Option Value) (hS : Heap) (L : List Addr) (C D : Addr) (ha hb : Heap) : Prop where
  st : Step w mg mb (C :: D :: L) ha hb
  newC : hS.get? C = none
  newD : hS.get? D = none

section
variable {prog : Program} {w : World} {mg mb : Str → Option Value} {A : Around} {E : Value → Shared → Prop} {hE hS : Heap} {env : Env} {m cm : Str → Option Value} {wr wr₀ : List Addr}
  {g : Array GenState} {d : Drawn} {tk : Nat} {os : OsState}

theorem comp_blockR {elt target iter : Expr} {ifs : List Expr} {scope : Scope} {cl : List (Str × Addr)} {pos : Pos} {I : Addr} {fp wrI : List Addr} {n : Nat} {P Md : Nat → Value → Heap → Prop} {St : Nat → Heap → Prop}
    (F : Fm w mg mb wr₀ hE env m cm hS) (W : KTurns prog w A target I fp wrI n P Md St) (self : ∀ (s : Shared) (Q : Value → Shared → Prop) (E : Value → Shared → Prop), St 0 s.heap → Q (.ref I) s → wpAny (model prog w) A (pyIter (.ref I)) Q E s)
    (hsz : n ≤ sizeLine) (J : Addr → Addr → List Value → List Value → Heap → Prop)
    (hcell : ∀ y ∈ scope.names, y.2 ≠ .cell) (hkind : scope.kind = .function) (hcl : ∀ p ∈ cl, env.cells.lookup p.1 = some p.2)
    (hst : St 0 hS) (hfp : ∀ b ∈ fp, ∃ o, hS.get? b = some o) (hfw : ∀ b ∈ fp, b ≠ 87 ∧ b ∉ wr)
    (hit : ∀ i h, St i h → ∀ b ∈ wrI, 241 < b ∧ ∃ o, h.get? b = some o ∧ Itr o) (hwr : ∀ a ∈ wr, ∃ o, hS.get? a = some o) (hwc : ∀ n c, env.cells.lookup n = some c → c ∉ wrI ∧ c ∉ wr)
    (J0 : ∀ C D h, Ext hS h → hS.get? C = none → hS.get? D = none → J C D [] [] h)
    (hJ : ∀ C D vs ys ha hb, Mv w mg mb hS wrI C D ha hb → J C D vs ys ha → J C D vs ys hb)
    (turn : ∀ C D vs ys v m₃ h₃ tk₃ E', vs.length < n → P vs.length v h₃ → J C D vs ys h₃ → hS.get? C = none → hS.get? D = none → C ≠ D → h₃.IsList D ys.toArray → (∀ b ∈ wrI, ∃ o, h₃.get? b = some o) → Step w mg mb (wrI ++ wr) hS h₃ → Fm w mg mb (C :: wr) h₃ (compEnvC scope cl C env) m₃ cm h₃ →
      wpAny (model prog w) A (assign target (compEnvC scope cl C env) v) (fun _ s₂ =>
        wpAny (model prog w) A (forIn ifs true fun c r => if r = true then do let ok ← isTrue c (compEnvC scope cl C env) (eval c (compEnvC scope cl C env)); pure (ForInStep.yield ok) else pure (ForInStep.yield r)) (fun ok s₃ =>
          if ok = true then wpAny (model prog w) A (eval elt (compEnvC scope cl C env)) (fun y s₄ => ∃ h₄ tk₄ m₄, s₄ = ⟨h₄, g, d, tk₄, os⟩ ∧ Fm w mg mb (C :: wr) h₃ (compEnvC scope cl C env) m₄ cm h₄ ∧ J C D (vs ++ [v]) (ys ++ [y]) h₄) E' s₃
          else ∃ h₄ tk₄ m₄, s₃ = ⟨h₄, g, d, tk₄, os⟩ ∧ Fm w mg mb (C :: wr) h₃ (compEnvC scope cl C env) m₄ cm h₄ ∧ J C D (vs ++ [v]) ys h₄) E' s₂) E' ⟨h₃, g, d, tk₃, os⟩)
    {RR : Value → Addr → Result → Shared → Prop}
    (fin : ∀ C D vs ys h' tk' m', vs.length = n → J C D vs ys h' → hS.get? C = none → hS.get? D = none → C ≠ D → 241 < C → 241 < D → h'.Ns C m' → h'.PlainList D ys.toArray → ys.length ≤ n → Step w mg mb (wrI ++ wr) hS h' → RR (.ref D) C (.ok .next) ⟨h', g, d, tk', os⟩) :
    wpAny (model prog w) A (newList []) (fun acc s₃ => wpAny (model prog w) A (newFunctionEnv scope env.globals cl [] env.qual none .none (some env)) (fun cenv s₄ =>
      codeAny (model prog w) A (.compStart (.ListComp elt [⟨target, iter, ifs, 0⟩] scope pos) 0 (.ref I) acc { cenv with scope := relabel scope env }) (RR acc cenv.locals) s₄) E s₃) E ⟨hS, g, d, tk, os⟩ := by
  have G := F.G
  refine wpAny_newObj_type (wpAny_newFunctionEnv hcell (by intro y hy; simp at hy) (fun h₁ hns₁ hsb₁ => ?_) hkind)
  dsimp only at hns₁ hsb₁ ⊢
  generalize hH2 : hS.push { cls := .type "list", dict := none, data := .seq ([] : List Value).toArray } = H2 at hns₁ hsb₁ ⊢
  have hC : H2.objs.size = hS.objs.size + 1 := by rw [← hH2, Heap.size_push]
  generalize hCe : H2.objs.size = C at *
  generalize hDe : hS.objs.size = D at *
  have hDC : D ≠ C := by rw [hC]; exact Nat.ne_of_lt (Nat.lt_succ_self _)
  have hDs : hS.get? D = none := Heap.get?_none_of_le (Nat.le_of_eq hDe)
  have hCs : hS.get? C = none := Heap.get?_none_of_le (by rw [hDe, hC]; exact Nat.le_succ _)
  have old : Ext hS h₁ := fun b o e => hsb₁.extBut b o (by rintro rfl; rw [hCs] at e; cases e) (Heap.get?_push_of_some _ (hH2 ▸ Heap.get?_push_of_some _ e))
  have hacc : h₁.PlainList D #[] := ⟨0, hsb₁.extBut _ _ hDC (Heap.get?_push_of_some _ (by rw [← hH2, ← hDe]; exact Heap.get?_push_size _ rfl))⟩
  have hC241 : 241 < C := by have := G.sz; rw [hDe] at this; rw [hC]; exact Nat.lt_of_lt_of_le (by decide : 241 < 242) (Nat.le_succ_of_le this)
  have hD241 : 241 < D := by have := G.sz; rw [hDe] at this; exact Nat.lt_of_lt_of_le (by decide : 241 < 242) this
  have hne : ∀ {a b : Addr}, (∃ o, hS.get? a = some o) → hS.get? b = none → a ≠ b := fun h1 h2 e => by obtain ⟨o, q⟩ := h1; rw [e, h2] at q; cases q
  have hCw : C ∉ wr := fun q => hne (hwr _ q) hCs rfl
  have hDw : D ∉ wr := fun q => hne (hwr _ q) hDs rfl
  have hIS : ∀ b ∈ wrI, ∃ o, hS.get? b = some o := fun b q => let ⟨_, o, e, _⟩ := hit 0 hS hst b q; ⟨o, e⟩
  have hIC : C ∉ wrI := fun q => hne (hIS C q) hCs rfl
  have hID : D ∉ wrI := fun q => hne (hIS D q) hDs rfl
  have hst₁ : St 0 h₁ := W.frame _ _ _ hst fun b _ o e => old b o e
  have hcm : ∀ n c, (compEnvC scope cl C env).cells.lookup n = some c → env.cells.lookup n = some c := fun n c hc => hcl (n, c) (mem_of_lookup hc)
  have loop : ∀ s₃ : Shared, (∃ tk₃, s₃ = ⟨h₁, g, d, tk₃, os⟩) →
      codeAny (model prog w) A (.compLoop (.ListComp elt [⟨target, iter, ifs, 0⟩] scope pos) 0 (.ref I) (.ref D) (compEnvC scope cl C env)) (RR (.ref D) C) s₃ := by
    rintro s₃ ⟨tk₃, rfl⟩
    refine compLoop_gen (fun k s' => ∃ h' tk' m' ys, ∃ vs : List Value, s' = ⟨h', g, d, tk', os⟩ ∧ St vs.length h' ∧ h'.PlainList D ys.toArray ∧ h'.Ns C m' ∧ J C D vs ys h' ∧ vs.length ≤ n ∧ ys.length ≤ vs.length ∧ k = n + 1 - vs.length ∧ Step w mg mb (wrI ++ wr) hS h') ?_ (n + 1)
      ⟨h₁, tk₃, _, [], [], rfl, hst₁, hacc, hns₁, J0 C D h₁ old hCs hDs, Nat.zero_le _, Nat.le_refl _, rfl, .of_ext old⟩
    rintro k s' E' ⟨H, tk', m', ys, vs, rfl, hst', hacc', hn', hJ', hi, hyl, rfl, hk⟩
    have stI : ∀ {h₁ : Heap}, (∀ b o, b ∉ wrI → H.get? b = some o → h₁.get? b = some o) → Step w mg mb wrI H h₁ := fun k => .its k (hit _ _ hst')
    have mvI : ∀ {h₁ : Heap}, Step w mg mb wrI H h₁ → Mv w mg mb hS wrI C D H h₁ := fun x => ⟨x.mono fun a q => .tail _ (.tail _ q), hCs, hDs⟩
    by_cases hlt : vs.length < n
    · refine W.item vs.length _ _ _ hlt hst' fun v h₀₁ tk₁ hMd hk₁ => ?_
      refine wpAny_mono (W.go vs.length v _ (fun _ s₁ => ∃ h₁, s₁ = ⟨h₁, g, d, tk₁, os⟩ ∧ P vs.length v h₁ ∧ St (vs.length + 1) h₁ ∧ (∀ b o, b ∉ wrI → H.get? b = some o → h₁.get? b = some o)) E' hMd fun h₁ hPv hst₁ hk₂ => ⟨h₁, rfl, hPv, hst₁, fun b o hb e => hk₂ b o hb (hk₁ b o hb e)⟩) (fun _ s₁ h₁' => ?_) fun _ _ x => x
      obtain ⟨h₁, rfl, hPv, hst₁, kI⟩ := h₁'
      have s₁ := stI kI
      have hn₁ : h₁.Ns C m' := hn'.at' fun o e => kI C o hIC e
      have hacc₁ : h₁.PlainList D ys.toArray := hacc'.at fun o e => kI D o hID e
      have sS : Step w mg mb (wrI ++ wr) hS h₁ := hk.trans (s₁.mono fun a q => List.mem_append_left _ q)
      have fpC : ∀ b ∈ fp, b ≠ C ∧ b ≠ D := fun b hb => ⟨hne (hfp b hb) hCs, hne (hfp b hb) hDs⟩
      have cellS : ∀ n c, env.cells.lookup n = some c → h₁.IsCell c (cm n) := fun n c hc => let ⟨o, e, q⟩ := F.cell n c hc; ⟨o, sS.keep c o (F.ca n c hc).2 (fun q => (List.mem_append.mp q).elim (hwc n c hc).1 (hwc n c hc).2) e, q⟩
      have F₃ : Fm w mg mb (C :: wr) h₁ (compEnvC scope cl C env) m' cm h₁ := ⟨hn₁, fun n c hc => cellS n c (hcm n c hc), fun n c hc => ⟨by
        have e := F.cell n c (hcm n c hc)
        exact hne (let ⟨o, e, _⟩ := e; ⟨o, e⟩) hCs, (F.ca n c (hcm n c hc)).2⟩, hC241, .inr (.head _), .refl _ _, sS.gd G⟩
      have hIo : ∀ b ∈ wrI, ∃ o, h₁.get? b = some o := fun b q => let ⟨_, o, e, _⟩ := hit _ _ hst₁ b q; ⟨o, e⟩
      -- what a turn's evaluation leaves
      have stepS : ∀ {hb : Heap}, Step w mg mb (C :: wr) h₁ hb → Step w mg mb (wrI ++ wr) hS hb := fun y =>
        ⟨fun b o h1 h2 e => y.keep b o h1 (fun q => (List.mem_cons.mp q).elim (fun q => by rw [q, hCs] at e; cases e) fun q => h2 (List.mem_append_right _ q)) (sS.keep b o h1 h2 e), fun b o e c q => y.tk b o (sS.tk b o e c q) c q, fun G => y.gd (sS.gd G)⟩
      have stK : ∀ {hb : Heap}, Step w mg mb (C :: wr) h₁ hb → St (vs.length + 1) hb := fun y => W.frame _ _ _ hst₁ fun b hb o e => y.keep b o (hfw b hb).1 (fun q => (List.mem_cons.mp q).elim (fpC b hb).1 (hfw b hb).2) e
      refine wpAny_mono (turn C D vs ys v m' h₁ tk₁ E' hlt hPv (hJ _ _ _ _ _ _ (mvI s₁) hJ') hCs hDs hDC.symm hacc₁.isList hIo sS F₃) (fun _ s₂ h₂ => wpAny_mono h₂ (fun ok s₃ h₃ => ?_) fun _ _ x => x) fun _ _ x => x
      cases ok with
      | false =>
        obtain ⟨h₄, tk₄, m₄, rfl, F₄, hJ₄⟩ := h₃
        refine ⟨n + 1 - (vs.length + 1), by omega, h₄, tk₄, m₄, ys, vs ++ [v], rfl, ?_, ?_, F₄.ns, hJ₄, (by rw [List.length_append, List.length_singleton]; exact hlt), (by rw [List.length_append, List.length_singleton]; omega), (by rw [List.length_append, List.length_singleton]), stepS F₄.st⟩
        · rw [List.length_append, List.length_singleton]; exact stK F₄.st
        · exact hacc₁.at fun o e => F₄.st.keep D o (Nat.ne_of_gt (Nat.lt_trans (by decide) hD241)) (fun q => (List.mem_cons.mp q).elim hDC hDw) e
      | true =>
        refine wpAny_mono h₃ (fun y s₄ h₄' => ?_) fun _ _ x => x
        obtain ⟨h₄, tk₄, m₄, rfl, F₄, hJ₄⟩ := h₄'
        have hacc₄ : h₄.PlainList D ys.toArray := hacc₁.at fun o e => F₄.st.keep D o (Nat.ne_of_gt (Nat.lt_trans (by decide) hD241)) (fun q => (List.mem_cons.mp q).elim hDC hDw) e
        refine wpAny_list_append_plain (hsz := by rw [List.size_toArray]; omega) hacc₄ fun h₅ hl₅ hs₅ => ?_
        obtain ⟨q4, ho₄⟩ := hacc₄
        have st₅ : Step w mg mb [D] h₄ h₅ := .but (fun b o hb e => (hs₅.2 b hb).trans e) hD241 ho₄ (fun vs q => by cases q) (fun c => absurd (show Value.type "list" = Value.type "tuple" from c) (by decide))
        have mv₅ : Mv w mg mb hS wrI C D h₄ h₅ := ⟨st₅.mono (by simp), hCs, hDs⟩
        refine ⟨n + 1 - (vs.length + 1), by omega, h₅, tk₄, m₄, ys ++ [y], vs ++ [v], rfl, ?_, ?_, F₄.ns.sameBut hs₅ hDC.symm, hJ _ _ _ _ _ _ mv₅ hJ₄, (by rw [List.length_append, List.length_singleton]; exact hlt), (by simp only [List.length_append, List.length_singleton]; omega), (by rw [List.length_append, List.length_singleton]), ?_⟩
        · rw [List.length_append, List.length_singleton]
          exact W.frame _ _ _ (stK F₄.st) fun b hb o e => hs₅.extBut b o (fpC b hb).2 e
        · simpa using hl₅
        · have x := stepS F₄.st
          exact ⟨fun b o h1 h2 e => hs₅.extBut b o (by rintro rfl; rw [hDs] at e; cases e) (x.keep b o h1 h2 e), fun b o e c q => st₅.tk b o (x.tk b o e c q) c q, fun G => st₅.gd (x.gd G)⟩
    · have hin : vs.length = n := by omega
      refine W.done _ _ _ (hin ▸ hst') fun h₁ tk₁ hk₁ => ?_
      have s₁ := stI hk₁
      exact fin C D vs ys h₁ tk₁ m' hin (hJ _ _ _ _ _ _ (mvI s₁) hJ') hCs hDs hDC.symm hC241 hD241 (hn'.at' fun o e => hk₁ C o hIC e) (hacc'.at fun o e => hk₁ D o hID e) (by omega) (hk.trans (s₁.mono fun a q => List.mem_append_left _ q))
  refine codeAny_compStart_list (loop _ ⟨_, rfl⟩) (self _ _ _ hst₁ (loop _ ⟨_, rfl⟩))


theorem comp_block {elt target iter : Expr} {ifs : List Expr} {scope : Scope} {cl : List (Str × Addr)} {pos : Pos} {I : Addr} {fp wrI : List Addr} {n : Nat} {P Md : Nat → Value → Heap → Prop} {St : Nat → Heap → Prop}
    (F : Fm w mg mb wr₀ hE env m cm hS) (W : KTurns prog w A target I fp wrI n P Md St) (self : ∀ (s : Shared) (Q : Value → Shared → Prop) (E : Value → Shared → Prop), St 0 s.heap → Q (.ref I) s → wpAny (model prog w) A (pyIter (.ref I)) Q E s)
    (hsz : n ≤ sizeLine) (J : Addr → Addr → List Value → List Value → Heap → Prop)
    (hcell : ∀ y ∈ scope.names, y.2 ≠ .cell) (hkind : scope.kind = .function) (hcl : ∀ p ∈ cl, env.cells.lookup p.1 = some p.2)
    (hst : St 0 hS) (hfp : ∀ b ∈ fp, ∃ o, hS.get? b = some o) (hfw : ∀ b ∈ fp, b ≠ 87 ∧ b ∉ wr)
    (hit : ∀ i h, St i h → ∀ b ∈ wrI, 241 < b ∧ ∃ o, h.get? b = some o ∧ Itr o) (hwr : ∀ a ∈ wr, ∃ o, hS.get? a = some o) (hwc : ∀ n c, env.cells.lookup n = some c → c ∉ wrI ∧ c ∉ wr)
    (J0 : ∀ C D h, Ext hS h → hS.get? C = none → hS.get? D = none → J C D [] [] h)
    (hJ : ∀ C D vs ys ha hb, Mv w mg mb hS wrI C D ha hb → J C D vs ys ha → J C D vs ys hb)
    (turn : ∀ C D vs ys v m₃ h₃ tk₃ E', vs.length < n → P vs.length v h₃ → J C D vs ys h₃ → hS.get? C = none → hS.get? D = none → C ≠ D → h₃.IsList D ys.toArray → (∀ b ∈ wrI, ∃ o, h₃.get? b = some o) → Step w mg mb (wrI ++ wr) hS h₃ → Fm w mg mb (C :: wr) h₃ (compEnvC scope cl C env) m₃ cm h₃ →
      wpAny (model prog w) A (assign target (compEnvC scope cl C env) v) (fun _ s₂ =>
        wpAny (model prog w) A (forIn ifs true fun c r => if r = true then do let ok ← isTrue c (compEnvC scope cl C env) (eval c (compEnvC scope cl C env)); pure (ForInStep.yield ok) else pure (ForInStep.yield r)) (fun ok s₃ =>
          if ok = true then wpAny (model prog w) A (eval elt (compEnvC scope cl C env)) (fun y s₄ => ∃ h₄ tk₄ m₄, s₄ = ⟨h₄, g, d, tk₄, os⟩ ∧ Fm w mg mb (C :: wr) h₃ (compEnvC scope cl C env) m₄ cm h₄ ∧ J C D (vs ++ [v]) (ys ++ [y]) h₄) E' s₃
          else ∃ h₄ tk₄ m₄, s₃ = ⟨h₄, g, d, tk₄, os⟩ ∧ Fm w mg mb (C :: wr) h₃ (compEnvC scope cl C env) m₄ cm h₄ ∧ J C D (vs ++ [v]) ys h₄) E' s₂) E' ⟨h₃, g, d, tk₃, os⟩)
    {Q : Value → Shared → Prop}
    (fin : ∀ C D vs ys h' tk', vs.length = n → J C D vs ys h' → hS.get? D = none → 241 < D → h'.PlainList D ys.toArray → ys.length ≤ n → Step w mg mb (wrI ++ wr) hS h' → Q (.ref D) ⟨h', g, d, tk', os⟩) :
    wpAny (model prog w) A (newList []) (fun acc s₃ => wpAny (model prog w) A (newFunctionEnv scope env.globals cl [] env.qual none .none (some env)) (fun cenv s₄ =>
      codeAny (model prog w) A (.compStart (.ListComp elt [⟨target, iter, ifs, 0⟩] scope pos) 0 (.ref I) acc { cenv with scope := relabel scope env }) (compPost (model prog w) A E none Q acc cenv.locals) s₄) E s₃) E ⟨hS, g, d, tk, os⟩ := by
  refine comp_blockR (RR := fun acc C => compPost (model prog w) A E none Q acc C) F W self hsz J hcell hkind hcl hst hfp hfw hit hwr hwc J0 hJ turn ?_
  intro C D vs ys h' tk' m' hn j hC hD hCD hC241 hD241 hns hpl hle st
  refine ⟨m', hns, fun h₂ hs₂ => ?_⟩
  obtain ⟨oC, _, _, hoC, hdC, _⟩ := hns
  have stC : Step w mg mb [C] h' h₂ := .but (fun b o hb e => (hs₂.2 b hb).trans e) hC241 hoC (fun vs q => by rw [hdC] at q; cases q) (fun _ vs n q => by rw [hdC] at q; cases q)
  have mv₂ : Mv w mg mb hS wrI C D h' h₂ := ⟨stC.mono (by simp), hC, hD⟩
  refine fin C D vs ys h₂ tk' hn (hJ _ _ _ _ _ _ mv₂ j) hD hD241 (hpl.at fun o e => hs₂.extBut D o hCD.symm e) hle ?_
  exact ⟨fun b o h1 h2 e => hs₂.extBut b o (by rintro rfl; rw [hC] at e; cases e) (st.keep b o h1 h2 e), fun b o e c q => stC.tk b o (st.tk b o e c q) c q, fun G => stC.gd (st.gd G)⟩

/-- names that a loop gives anew -/
def ovr (names : List Str) (u m : Str → Option Value) : Str → Option Value := fun y => if y ∈ names then u y else m y
def Agr (names : List Str) (m m' : Str → Option Value) : Prop := ∀ y, y ∉ names → m' y = m y
theorem Agr.ovr (names : List Str) (u m : Str → Option Value) : Agr names m (ovr names u m) := fun y hy => by simp [Mine.ovr, hy]
theorem Agr.refl (names : List Str) (m : Str → Option Value) : Agr names m m := fun _ _ => rfl
theorem Agr.set {names : List Str} {m m' : Str → Option Value} {x : Str} {v : Value} (hx : x ∈ names) (a : Agr names m m') : Agr names m (upd m' x v) := fun y hy => by
  have e : y ≠ x := fun e => hy (by rw [e]; exact hx)
  exact (if_neg e).trans (a y hy)
theorem Agr.eq {names : List Str} {m m' : Str → Option Value} (a : Agr names m m') : m' = Mine.ovr names m' m := funext fun y => by
  unfold Mine.ovr; split
  · rfl
  · exact a y ‹_›
theorem ovr_self (names : List Str) (m : Str → Option Value) : m = ovr names m m := Agr.eq (fun _ _ => rfl)

theorem Agr.ovrS {names names' : List Str} {m m₁ u : Str → Option Value} (hs : (names'.all fun y => names.contains y) = true) (a : Agr names m m₁) : Agr names m (Mine.ovr names' u m₁) := fun y hy => by
  have : y ∉ names' := fun q => hy (by have := List.all_eq_true.mp hs y q; simpa using this)
  simp only [Mine.ovr, this, if_false]; exact a y hy
/-- what a turn of a loop leaves, what an element of a comprehension leaves -/
def LpP (w : World) (mg mb : Str → Option Value) (g : Array GenState) (d : Drawn) (os : OsState) (wr : List Addr) (hB : Heap) (env : Env) (m cm : Str → Option Value) (names : List Str) (K : Heap → Prop) (s : Shared) : Prop :=
  ∃ h tk m', s = ⟨h, g, d, tk, os⟩ ∧ Fm w mg mb wr hB env m' cm h ∧ Agr names m m' ∧ K h
def LpN (w : World) (mg mb : Str → Option Value) (g : Array GenState) (d : Drawn) (os : OsState) (wr : List Addr) (hB : Heap) (env : Env) (m cm : Str → Option Value) (names : List Str) (J : Nat → Heap → Prop) (n : Nat) (s : Shared) : Prop :=
  ∃ h tk m' n', n' < n ∧ s = ⟨h, g, d, tk, os⟩ ∧ Fm w mg mb wr hB env m' cm h ∧ Agr names m m' ∧ J n' h
def ElP (w : World) (mg mb : Str → Option Value) (g : Array GenState) (d : Drawn) (os : OsState) (wr : List Addr) (hB : Heap) (env : Env) (cm : Str → Option Value) (K : Heap → Prop) (s : Shared) : Prop :=
  ∃ h tk m', s = ⟨h, g, d, tk, os⟩ ∧ Fm w mg mb wr hB env m' cm h ∧ K h
def ElX (w : World) (mg mb : Str → Option Value) (g : Array GenState) (d : Drawn) (os : OsState) (wr : List Addr) (hB : Heap) (env : Env) (cm : Str → Option Value) (dd : PyData) (y : Value) (s : Shared) : Prop :=
  ∃ h tk m', s = ⟨h, g, d, tk, os⟩ ∧ Fm w mg mb wr hB env m' cm h ∧ XT h y dd
def ElD (w : World) (mg mb : Str → Option Value) (g : Array GenState) (d : Drawn) (os : OsState) (wr : List Addr) (hB : Heap) (env : Env) (cm : Str → Option Value) (R : Option PyData → Prop) (K : Heap → Prop) (y : Value) (s : Shared) : Prop :=
  ∃ h tk m' dd, s = ⟨h, g, d, tk, os⟩ ∧ Fm w mg mb wr hB env m' cm h ∧ XT h y dd ∧ R (some dd) ∧ K h
def ElN (w : World) (mg mb : Str → Option Value) (g : Array GenState) (d : Drawn) (os : OsState) (wr : List Addr) (hB : Heap) (env : Env) (cm : Str → Option Value) (R : Option PyData → Prop) (K : Heap → Prop) (s : Shared) : Prop :=
  ∃ h tk m', s = ⟨h, g, d, tk, os⟩ ∧ Fm w mg mb wr hB env m' cm h ∧ R none ∧ K h
/-- how a turn of a loop may end -/
def Turn (K : Shared → Prop) (R : Value → Shared → Prop) : Flow → Shared → Prop
  | .next, s => K s
  | .cont, s => K s
  | .ret v, s => R v s
  | .brk, _ => False
theorem turn_next {K : Shared → Prop} {R : Value → Shared → Prop} {s : Shared} (k : K s) : Turn K R .next s := k
theorem turn_cont {K : Shared → Prop} {R : Value → Shared → Prop} {s : Shared} (k : K s) : Turn K R .cont s := k
theorem turn_ret {K : Shared → Prop} {R : Value → Shared → Prop} {v : Value} {s : Shared} (k : R v s) : Turn K R (.ret v) s := k

theorem for_block {target : Expr} {body : List Stmt} {I : Addr} {fp wrI wr' : List Addr} {n : Nat} {P Md : Nat → Value → Heap → Prop} {St : Nat → Heap → Prop} {R : Result → Shared → Prop}
    (F : Fm w mg mb wr hE env m cm hS) (W : KTurns prog w A target I fp wrI n P Md St) (names : List Str)
    (hst : St 0 hS) (hfw : ∀ b ∈ fp, b ≠ 87 ∧ b ∉ wr' ∧ b ≠ env.locals) (hit : ∀ i h, St i h → ∀ b ∈ wrI, 241 < b ∧ ∃ o, h.get? b = some o ∧ Itr o)
    (hnew : ∀ b ∈ wrI, b ≠ env.locals ∧ (b ∈ wr ∨ hE.get? b = none) ∧ ∀ n c, env.cells.lookup n = some c → c ≠ b)
    (hw : ∀ a ∈ wr', a ∈ wr ∨ hE.get? a = none) (J : Nat → Heap → Prop) (J0 : J 0 hS)
    (hJ : ∀ i ha hb, Step w mg mb wrI ha hb → (∀ b ∈ wrI, ∃ o, ha.get? b = some o ∧ Itr o) → J i ha → J i hb)
    (turn : ∀ i v u h₃ tk₃ E', i < n → P i v h₃ → J i h₃ → Step w mg mb (env.locals :: (wrI ++ wr')) hS h₃ → Fm w mg mb wr hE env (ovr names u m) cm h₃ → Fm w mg mb (env.locals :: wr') h₃ env (ovr names u m) cm h₃ →
      wpAny (model prog w) A (assign target env v) (fun _ s₂ => wpAny (model prog w) A (execs body env) (Turn (LpP w mg mb g d os (env.locals :: wr') h₃ env m cm names (J (i + 1))) fun v s₃ => R (.ok (.ret v)) s₃) E' s₂) E' ⟨h₃, g, d, tk₃, os⟩)
    (fin : ∀ u h' tk', J n h' → Step w mg mb (env.locals :: (wrI ++ wr')) hS h' → Fm w mg mb wr hE env (ovr names u m) cm h' → R (.ok .next) ⟨h', g, d, tk', os⟩) :
    codeAny (model prog w) A (.forLoop target (.ref I) body [] env) R ⟨hS, g, d, tk, os⟩ := by
  refine codeAny_forLoop_any (fun k s' => ∃ h' tk' u i, s' = ⟨h', g, d, tk', os⟩ ∧ St i h' ∧ Fm w mg mb wr hE env (ovr names u m) cm h' ∧ Step w mg mb (env.locals :: (wrI ++ wr')) hS h' ∧ J i h' ∧ i ≤ n ∧ k = n + 1 - i) ?_ (n + 1)
    ⟨hS, tk, m, 0, rfl, hst, ovr_self names m ▸ F, .refl _ _, J0, Nat.zero_le _, rfl⟩
  rintro k s' ⟨H, tk', u, i, rfl, hst', F', sS, hJ', hi, rfl⟩
  have stI : ∀ {h₁ : Heap}, (∀ b o, b ∉ wrI → H.get? b = some o → h₁.get? b = some o) → Step w mg mb wrI H h₁ := fun k => .its k (hit _ _ hst')
  have upI : ∀ {h₁ : Heap}, (∀ b o, b ∉ wrI → H.get? b = some o → h₁.get? b = some o) → Fm w mg mb wr hE env (ovr names u m) cm h₁ := fun {h₁} k =>
    ⟨F'.ns.at' fun o e => k _ o (fun q => (hnew _ q).1 rfl) e, fun n c hc => let ⟨o, e, q⟩ := F'.cell n c hc; ⟨o, k c o (fun z => (hnew _ z).2.2 n c hc rfl) e, q⟩, F'.ca, F'.lo, F'.new,
      ⟨fun b o a1 a2 e => k b o (fun q => (hnew b q).2.1.elim a2 fun x => by rw [x] at e; cases e) (F'.st.keep b o a1 a2 e), fun b o e c q => (stI k).tk b o (F'.st.tk b o e c q) c q, fun G => (stI k).gd (F'.st.gd G)⟩, F'.GE⟩
  by_cases hlt : i < n
  · refine W.item i _ _ _ hlt hst' fun v h₀₁ tk₁ hMd hk₁ => ?_
    refine W.go i v _ _ _ hMd fun h₁ hPv hst₁ hk₂ => ?_
    have kI : ∀ b o, b ∉ wrI → H.get? b = some o → h₁.get? b = some o := fun b o hb e => hk₂ b o hb (hk₁ b o hb e)
    have s₁ := stI kI
    have F₁ := upI kI
    have sS₁ : Step w mg mb (env.locals :: (wrI ++ wr')) hS h₁ := sS.trans (s₁.mono fun a q => .tail _ (List.mem_append_left _ q))
    have hJ₁ : J i h₁ := hJ _ _ _ s₁ (fun b q => (hit _ _ hst' b q).2) hJ'
    refine wpAny_mono (turn i v u h₁ tk₁ _ hlt hPv hJ₁ sS₁ F₁ (F₁.base wr')) (fun _ s₂ h₂ => wpAny_mono h₂ (fun f s₃ h₃ => ?_) fun _ _ x => x) fun _ _ x => x
    have nx : (∃ h₄ tk₄ m₄, s₃ = ⟨h₄, g, d, tk₄, os⟩ ∧ Fm w mg mb (env.locals :: wr') h₁ env m₄ cm h₄ ∧ Agr names m m₄ ∧ J (i + 1) h₄) → ∃ m₁, m₁ < n + 1 - i ∧ ∃ h' tk' u i, s₃ = ⟨h', g, d, tk', os⟩ ∧ St i h' ∧ Fm w mg mb wr hE env (ovr names u m) cm h' ∧ Step w mg mb (env.locals :: (wrI ++ wr')) hS h' ∧ J i h' ∧ i ≤ n ∧ m₁ = n + 1 - i := by
      rintro ⟨h₄, tk₄, m₄, e, F₄, ag, hJ₄⟩
      refine ⟨n + 1 - (i + 1), by omega, h₄, tk₄, m₄, i + 1, e, ?_, ?_, sS₁.trans (F₄.st.mono fun a q => (List.mem_cons.mp q).elim (fun q => q ▸ .head _) fun q => .tail _ (List.mem_append_right _ q)), hJ₄, hlt, rfl⟩
      · exact W.frame _ _ _ hst₁ fun b hb o e => F₄.st.keep b o (hfw b hb).1 (fun q => (List.mem_cons.mp q).elim (hfw b hb).2.2 (hfw b hb).2.1) e
      · rw [← ag.eq]
        refine ⟨F₄.ns, F₄.cell, F₁.ca, F₁.lo, F₁.new, ⟨fun b o a1 a2 e => F₄.st.keep b o a1 (fun q => (List.mem_cons.mp q).elim (fun q => F₁.new.elim (fun x => by rw [← q, e] at x; cases x) fun x => a2 (q ▸ x)) fun q => (hw _ q).elim a2 fun x => by rw [e] at x; cases x) (F₁.st.keep b o a1 a2 e), fun b o e c q => F₄.st.tk b o (F₁.st.tk b o e c q) c q, fun G => F₄.st.gd (F₁.st.gd G)⟩, F₁.GE⟩
    cases f with
    | next => exact nx h₃
    | cont => exact nx h₃
    | brk => exact h₃.elim
    | ret v => exact h₃
  · have hin : i = n := by omega
    subst hin
    refine W.done _ _ _ hst' fun h₁ tk₁ hk₁ => wpAny_execs_nil ?_
    exact fin u h₁ tk₁ (hJ _ _ _ (stI hk₁) (fun b q => (hit _ _ hst' b q).2) hJ') (sS.trans ((stI hk₁).mono fun a q => .tail _ (List.mem_append_left _ q))) (upI hk₁)
end

section
variable (prog : Program) (w : World) (mg mb : Str → Option Value) (A : Around) (hE : Heap) (env : Env) (m cm : Str → Option Value) (wr : List Addr) (g : Array GenState) (d : Drawn) (os : OsState)
inductive TMapH (elt : Expr) (x : Str) (scope : Scope) (cl : List (Str × Addr)) (Q : Value → Shared → Prop) (es : List PyData) (xv : Value) (s₁ : Shared) : Prop where
  | mk h₁ tk₁ (ds : List PyData) : s₁ = ⟨h₁, g, d, tk₁, os⟩ →
    Fm w mg mb wr hE env m cm h₁ →
    XT h₁ xv (.tuple ds) →
    ds.length = es.length →
    es.length ≤ sizeLine →
    (∀ (i : Nat) v (di ei : PyData) C (m' : Str → Option Value) h₂ h₃ tk₃ E', ds[i]? = some di → es[i]? = some ei → XT h₃ v di → Step w mg mb [] h₁ h₃ → Fm w mg mb [C] h₂ (compEnvC scope cl C env) (upd m' x v) cm h₃ → wpAny (model prog w) A (eval elt (compEnvC scope cl C env)) (ElX w mg mb g d os [C] h₂ (compEnvC scope cl C env) cm ei) E' ⟨h₃, g, d, tk₃, os⟩) →
    (∀ D vs h' tk', Step w mg mb [] h₁ h' → Fm w mg mb wr hE env m cm h' → h'.IsList D vs.toArray → XTs h' vs es → Q (.ref D) ⟨h', g, d, tk', os⟩) → TMapH  elt x scope cl Q es xv s₁
end
section
variable {prog : Program} {w : World} {mg mb : Str → Option Value} {A : Around} {E : Value → Shared → Prop} {hE h hS : Heap} {env : Env} {m cm : Str → Option Value} {wr wr₀ : List Addr}
  {g : Array GenState} {d : Drawn} {tk : Nat} {os : OsState}

theorem XTs.snoc {h : Heap} : ∀ {vs : List Value} {ds : List PyData} {v : Value} {d : PyData}, XTs h vs ds → XT h v d → XTs h (vs ++ [v]) (ds ++ [d])
  | vs, [], v, d, x, y => by rw [x.inv0]; exact XTs.cons y XTs.nil
  | vs, d0 :: ds, v, d, x, y => by
    obtain ⟨v0, vs', rfl, x0, xs⟩ := x.inv
    exact XTs.cons x0 (XTs.snoc xs y)

theorem compE {elt target iter : Expr} {ifs : List Expr} {scope : Scope} {cl : List (Str × Addr)} {pos : Pos} {s : Shared} {Q : Value → Shared → Prop}
    (hclos : closureFor scope env = pure cl) (hkind : scope.kind = .function) (hnames : ∀ x ∈ scope.names, x.2 = .local → scope.names.lookup x.1 = some .local) (hs : ∀ x, foldedSetIterable iter env x = pure x)
    (k : wpAny (model prog w) A (eval iter env) (fun xv s₁ => wpAny (model prog w) A (pyIter xv) (fun it s₂ => wpAny (model prog w) A (newList []) (fun acc s₃ => wpAny (model prog w) A (newFunctionEnv scope env.globals cl [] env.qual none .none (some env)) (fun cenv s₄ =>
      codeAny (model prog w) A (.compStart (.ListComp elt [⟨target, iter, ifs, 0⟩] scope pos) 0 it acc { cenv with scope := relabel scope env }) (compPost (model prog w) A E none Q acc cenv.locals) s₄) E s₃) E s₂) E s₁) E s) :
    wpAny (model prog w) A (eval (.ListComp elt [⟨target, iter, ifs, 0⟩] scope pos) env) Q E s := by
  rw [eval_ListComp]
  exact wpAny_comprehension_free (use := none) rfl hs hclos hkind hnames k

theorem tup_ne87 {h : Heap} (G : Gd w mg mb h) {a : Addr} {its : Array Value} (x : IsTup h a its) : a ≠ 87 := by
  rintro rfl
  obtain ⟨o, e, hc, _⟩ := x
  rcases G.tab with q | ⟨_, _, _, q, _⟩ <;> (rw [q] at e; cases e; cases hc)

theorem Step.off {h h₂ h₃ : Heap} {C : Addr} (x : Step w mg mb wr h h₂) (y : Step w mg mb [C] h₂ h₃) (hC : h.get? C = none) : Step w mg mb wr h h₃ :=
  ⟨fun b o h1 h2 e => y.keep b o h1 (fun q => by rw [List.mem_singleton.mp q, hC] at e; cases e) (x.keep b o h1 h2 e), fun b o e c q => y.tk b o (x.tk b o e c q) c q, fun G => y.gd (x.gd G)⟩
/-- what is asked of a comprehension, at the heap h₀ where its iterable stands -/
inductive CompAt (prog : Program) (w : World) (mg mb : Str → Option Value) (A : Around) (elt target : Expr) (ifs : List Expr) (cenv : Addr → Env) (cm : Str → Option Value) (g : Array GenState) (d : Drawn) (os : OsState) (wr : List Addr) (n : Nat)
    (P : Nat → Value → Heap → Prop) (Q : Value → Shared → Prop) (h₀ : Heap) : Prop where
  | mk (R : Nat → Option PyData → Prop) (K : Heap → Prop) : K h₀ →
    (∀ L ha hb, Step w mg mb L ha hb → (∀ a ∈ L, h₀.get? a = none) → K ha → K hb) →
    (∀ i v C m₃ h₃ tk₃ E', i < n → P i v h₃ → K h₃ → Step w mg mb wr h₀ h₃ → h₀.get? C = none → Fm w mg mb (C :: wr) h₃ (cenv C) m₃ cm h₃ → (cenv C).locals = C → wpAny (model prog w) A (assign target (cenv C) v) (fun _ s₂ => wpAny (model prog w) A (forIn ifs true fun c r => if r = true then do let ok ← isTrue c (cenv C) (eval c (cenv C)); pure (ForInStep.yield ok) else pure (ForInStep.yield r)) (fun ok s₃ => if ok = true then wpAny (model prog w) A (eval elt (cenv C)) (ElD w mg mb g d os (C :: wr) h₃ (cenv C) cm (R i) K) E' s₃ else ElN w mg mb g d os (C :: wr) h₃ (cenv C) cm (R i) K s₃) E' s₂) E' ⟨h₃, g, d, tk₃, os⟩) →
    (∀ D ys (os' : List (Option PyData)) h' tk', os'.length = n → (∀ i o, os'[i]? = some o → R i o) → K h' → Step w mg mb wr h₀ h' → h₀.get? D = none → 241 < D → h'.IsList D ys.toArray → XTs h' ys (os'.filterMap id) → Q (.ref D) ⟨h', g, d, tk', os⟩) → CompAt prog w mg mb A elt target ifs cenv cm g d os wr n P Q h₀

theorem comp_at {elt target iter : Expr} {ifs : List Expr} {scope : Scope} {cl : List (Str × Addr)} {pos : Pos} {I : Addr} {fp wrI : List Addr} {n : Nat} {P Md : Nat → Value → Heap → Prop} {St : Nat → Heap → Prop} {h₀ : Heap}
    (F : Fm w mg mb wr₀ hE env m cm hS) (W : KTurns prog w A target I fp wrI n P Md St) (self : ∀ (s : Shared) (Q : Value → Shared → Prop) (E : Value → Shared → Prop), St 0 s.heap → Q (.ref I) s → wpAny (model prog w) A (pyIter (.ref I)) Q E s)
    (hsz : n ≤ sizeLine) (s0 : Ext h₀ hS) (hI : ∀ b ∈ wrI, h₀.get? b = none)
    (hcell : ∀ y ∈ scope.names, y.2 ≠ .cell) (hkind : scope.kind = .function) (hcl : ∀ p ∈ cl, env.cells.lookup p.1 = some p.2)
    (hst : St 0 hS) (hfp : ∀ b ∈ fp, ∃ o, hS.get? b = some o) (hfw : ∀ b ∈ fp, b ≠ 87 ∧ b ∉ wr)
    (hit : ∀ i h, St i h → ∀ b ∈ wrI, 241 < b ∧ ∃ o, h.get? b = some o ∧ Itr o) (hwr : ∀ a ∈ wr, ∃ o, h₀.get? a = some o) (hwc : ∀ n c, env.cells.lookup n = some c → c ∉ wrI ∧ c ∉ wr)
    {Q : Value → Shared → Prop} (k : CompAt prog w mg mb A elt target ifs (fun C => compEnvC scope cl C env) cm g d os wr n P Q h₀) :
    wpAny (model prog w) A (newList []) (fun acc s₃ => wpAny (model prog w) A (newFunctionEnv scope env.globals cl [] env.qual none .none (some env)) (fun cenv s₄ =>
      codeAny (model prog w) A (.compStart (.ListComp elt [⟨target, iter, ifs, 0⟩] scope pos) 0 (.ref I) acc { cenv with scope := relabel scope env }) (compPost (model prog w) A E none Q acc cenv.locals) s₄) E s₃) E ⟨hS, g, d, tk, os⟩ := by
  obtain ⟨R, K, K0, hK, turn, fin⟩ := k
  have off : ∀ {h' : Heap}, Step w mg mb (wrI ++ wr) hS h' → Step w mg mb wr h₀ h' := fun x =>
    ⟨fun b o h1 h2 e => x.keep b o h1 (fun q => (List.mem_append.mp q).elim (fun q => by rw [hI b q] at e; cases e) h2) (s0 b o e), fun b o e c q => x.tk b o (s0 b o e) c q, fun G => x.gd (G.ext s0)⟩
  have no : ∀ {a : Addr}, hS.get? a = none → h₀.get? a = none := fun {a} q => by
    cases e : h₀.get? a with
    | none => rfl
    | some o => rw [s0 a o e] at q; cases q
  refine comp_block F W self hsz (fun C D vs ys h => K h ∧ ∃ os' : List (Option PyData), os'.length = vs.length ∧ (∀ i o, os'[i]? = some o → R i o) ∧ XTs h ys (os'.filterMap id)) hcell hkind hcl hst hfp hfw hit (fun a q => let ⟨o, e⟩ := hwr a q; ⟨o, s0 a o e⟩) hwc
    (fun C D h ex _ _ => ⟨hK [] _ _ (.of_ext fun b o e => ex b o (s0 b o e)) (fun _ q => nomatch q) K0, [], rfl, (by simp), .nil⟩)
    (fun C D vs ys ha hb M ⟨k, os', e, r, x⟩ => ⟨hK _ _ _ M.st (fun a q => by
      rcases List.mem_cons.mp q with rfl | q
      · exact no M.newC
      · rcases List.mem_cons.mp q with rfl | q
        · exact no M.newD
        · exact hI a q) k, os', e, r, x.up M.st⟩) ?_ ?_
  · rintro C D vs ys v m₃ h₃ tk₃ E' hlt hPv ⟨hKk, os', hl, hR, xs⟩ hC hD hCD hDl hIo sS F₃
    refine wpAny_mono (turn vs.length v C m₃ h₃ tk₃ E' hlt hPv hKk (off sS) (no hC) F₃ rfl) (fun _ s₂ h₂ => wpAny_mono h₂ (fun ok s₃ h₃' => ?_) fun _ _ x => x) fun _ _ x => x
    have rr : ∀ o, R vs.length o → ∀ i o', (os' ++ [o])[i]? = some o' → R i o' := fun o ho i o' e => by
      rcases Nat.lt_trichotomy i os'.length with q | q | q
      · exact hR i o' (by rwa [List.getElem?_append_left q] at e)
      · subst q; simp at e; subst e; rw [hl]; exact ho
      · rw [List.getElem?_eq_none (by rw [List.length_append, List.length_singleton]; omega)] at e; cases e
    cases ok with
    | false =>
      obtain ⟨h₄, tk₄, m₄, e, F₄, ho, kk⟩ := h₃'
      refine ⟨h₄, tk₄, m₄, e, F₄, kk, os' ++ [none], by simp [hl], rr none ho, ?_⟩
      rw [List.filterMap_append]
      simpa using xs.up F₄.st
    | true =>
      refine wpAny_mono h₃' (fun y s₄ h₄' => ?_) fun _ _ x => x
      obtain ⟨h₄, tk₄, m₄, dd, e, F₄, xd, ho, kk⟩ := h₄'
      refine ⟨h₄, tk₄, m₄, e, F₄, kk, os' ++ [some dd], by simp [hl], rr _ ho, ?_⟩
      rw [List.filterMap_append]
      exact XTs.snoc (xs.up F₄.st) xd
  · rintro C D vs ys h' tk' hn ⟨hKk, os', hl, hR, xs⟩ hD hD241 hpl hle st
    exact fin D ys os' h' tk' (hl.trans hn) hR hKk (off st) (no hD) hD241 hpl.isList xs

theorem list_ne_locals (F : Fm w mg mb wr₀ hE env m cm h) {l : Addr} {its : Array Value} (x : h.IsList l its) : l ≠ env.locals := by
  rintro rfl
  obtain ⟨o, _, _, e, hd, _⟩ := F.ns
  obtain ⟨o', e', _, _, hd'⟩ := x
  rw [e] at e'; cases e'; rw [hd] at hd'; cases hd'
theorem tup_ne_locals (F : Fm w mg mb wr₀ hE env m cm h) {l : Addr} {its : Array Value} (x : IsTup h l its) : l ≠ env.locals := by
  rintro rfl
  obtain ⟨o, _, _, e, hd, _⟩ := F.ns
  obtain ⟨o', e', _, _, hd'⟩ := x
  rw [e] at e'; cases e'; rw [hd] at hd'; cases hd'
theorem list_ne_cell (F : Fm w mg mb wr₀ hE env m cm h) {l : Addr} {its : Array Value} (x : h.IsList l its) (n : Str) (c : Addr) (hc : env.cells.lookup n = some c) : c ≠ l := by
  rintro rfl
  obtain ⟨o, e, hd⟩ := F.cell n c hc
  obtain ⟨o', e', _, _, hd'⟩ := x
  rw [e] at e'; cases e'; rw [hd] at hd'; cases hd'
theorem new_ne_cell (F : Fm w mg mb wr₀ hE env m cm h) {a : Addr} (x : h.get? a = none) (n : Str) (c : Addr) (hc : env.cells.lookup n = some c) : c ≠ a := by
  rintro rfl
  obtain ⟨o, e, _⟩ := F.cell n c hc
  rw [x] at e; cases e

/-- the heap, with the iterator pushed -/
theorem comp_tuple {elt target iter : Expr} {ifs : List Expr} {scope : Scope} {cl : List (Str × Addr)} {pos : Pos} {t : Addr} {vs : List Value} {ds : List PyData} {n : Nat} {Q : Value → Shared → Prop}
    (F : Fm w mg mb wr₀ hE env m cm h) (hA : Cx A n) (hT : IsTup h t vs.toArray) (xs : XTs h vs ds) (hsz : ds.length ≤ sizeLine)
    (hcell : ∀ y ∈ scope.names, y.2 ≠ .cell) (hkind : scope.kind = .function) (hcl : ∀ p ∈ cl, env.cells.lookup p.1 = some p.2)
    (hwr : ∀ a ∈ wr, (∃ o, h.get? a = some o) ∧ a ≠ t ∧ ∀ n c, env.cells.lookup n = some c → c ≠ a)
    (k : CompAt prog w mg mb A elt target ifs (fun C => compEnvC scope cl C env) cm g d os wr ds.length (fun i v h₃ => ∃ di, ds[i]? = some di ∧ XT h₃ v di) Q h) :
    wpAny (model prog w) A (pyIter (.ref t)) (fun it s₂ => wpAny (model prog w) A (newList []) (fun acc s₃ => wpAny (model prog w) A (newFunctionEnv scope env.globals cl [] env.qual none .none (some env)) (fun cenv s₄ =>
      codeAny (model prog w) A (.compStart (.ListComp elt [⟨target, iter, ifs, 0⟩] scope pos) 0 it acc { cenv with scope := relabel scope env }) (compPost (model prog w) A E none Q acc cenv.locals) s₄) E s₃) E s₂) E ⟨h, g, d, tk, os⟩ := by
  have hlt : t < h.objs.size := let ⟨_, e, _⟩ := hT; Heap.lt_size e
  refine wpAny_pyIter_tuple (s := ⟨h, g, d, tk, os⟩) hT ?_
  have sz : (242 : Nat) ≤ h.objs.size := F.G.sz
  have newI : (h.push { cls := .type "tuple_iterator", data := .fields #[.ref t, .int 0 0] }).get? h.objs.size = some { cls := .type "tuple_iterator", data := .fields #[.ref t, .int 0 0] } := Heap.get?_push_size _ rfl
  have W := Walks.tuple (prog := prog) (w := w) hA.hh h.objs.size t (Nat.ne_of_lt hlt) vs.toArray
  have hvl : vs.toArray.size = ds.length := by rw [List.size_toArray, xs.len]
  obtain ⟨R, K, K0, hK, turn, fin⟩ := k
  refine comp_at (wr := wr) (F.up (.push _)) (KTurns.ofWalks (target := target) W fun i v s Q E st hQ => letGo_tupleiter st.1 hQ) (fun s Q E st q => W.self 0 s Q E st q) (by rw [hvl]; exact hsz) (Ext.push _ _) (fun b q => by rw [List.mem_singleton.mp q]; exact Heap.get?_none_of_le (Nat.le_refl _))
    hcell hkind hcl ⟨⟨_, newI, rfl, rfl⟩, IsTup.up (.push _ : Step w mg mb [] h _) hT⟩ ?_ ?_ ?_ (fun a q => (hwr a q).1) ?_
    ⟨R, K, K0, hK, fun i v C m₃ h₃ tk₃ E' hi hP hk st hC F₃ hl => turn i v C m₃ h₃ tk₃ E' (hvl ▸ hi) ?_ hk st hC F₃ hl, fun D ys os' h' tk' hl => fin D ys os' h' tk' (hl.trans hvl)⟩
  · intro b hb
    rcases List.mem_cons.mp hb with rfl | hb
    · exact ⟨_, newI⟩
    · rw [List.mem_singleton.mp hb]
      obtain ⟨o, e, _⟩ := hT
      exact ⟨o, Heap.get?_push_of_some _ e⟩
  · intro b hb
    rcases List.mem_cons.mp hb with rfl | hb
    · exact ⟨Nat.ne_of_gt (Nat.lt_of_lt_of_le (by decide) sz), fun q => by obtain ⟨o, e⟩ := (hwr _ q).1; exact absurd (Heap.lt_size e) (Nat.lt_irrefl _)⟩
    · rw [List.mem_singleton.mp hb]; exact ⟨tup_ne87 F.G hT, fun q => (hwr _ q).2.1 rfl⟩
  · intro i h' st b hb
    rw [List.mem_singleton.mp hb]
    obtain ⟨o, e, hc, hd⟩ := st.1
    exact ⟨Nat.lt_of_lt_of_le (by decide) sz, o, e, ⟨_, hc, by simp⟩, _, hd, by simp⟩
  · intro n c hc
    exact ⟨fun q => by have := new_ne_cell F (Heap.get?_none_of_le (Nat.le_refl _)) n c hc; exact this (List.mem_singleton.mp q), fun q => (hwr c q).2.2 n c hc rfl⟩
  · have hi' : i < vs.length := by rw [List.size_toArray] at hi; exact hi
    have hdi : ds[i]? = some (ds[i]'(by rw [← xs.len]; exact hi')) := List.getElem?_eq_getElem _
    obtain ⟨y, hy, xy⟩ := (XTs.up st xs).at hdi
    have e : vs.toArray[i]? = some v := hP
    rw [List.getElem?_toArray, hy] at e
    cases e
    exact ⟨_, hdi, xy⟩

theorem comp_list {elt target iter : Expr} {ifs : List Expr} {scope : Scope} {cl : List (Str × Addr)} {pos : Pos} {t : Addr} {vs : List Value} {n : Nat} {Q : Value → Shared → Prop}
    (F : Fm w mg mb wr₀ hE env m cm h) (hA : Cx A n) (hT : h.IsList t vs.toArray) (hsz : vs.length ≤ sizeLine)
    (hcell : ∀ y ∈ scope.names, y.2 ≠ .cell) (hkind : scope.kind = .function) (hcl : ∀ p ∈ cl, env.cells.lookup p.1 = some p.2)
    (hwr : ∀ a ∈ wr, (∃ o, h.get? a = some o) ∧ a ≠ t ∧ ∀ n c, env.cells.lookup n = some c → c ≠ a)
    (k : CompAt prog w mg mb A elt target ifs (fun C => compEnvC scope cl C env) cm g d os wr vs.length (fun i v h₃ => vs[i]? = some v) Q h) :
    wpAny (model prog w) A (pyIter (.ref t)) (fun it s₂ => wpAny (model prog w) A (newList []) (fun acc s₃ => wpAny (model prog w) A (newFunctionEnv scope env.globals cl [] env.qual none .none (some env)) (fun cenv s₄ =>
      codeAny (model prog w) A (.compStart (.ListComp elt [⟨target, iter, ifs, 0⟩] scope pos) 0 it acc { cenv with scope := relabel scope env }) (compPost (model prog w) A E none Q acc cenv.locals) s₄) E s₃) E s₂) E ⟨h, g, d, tk, os⟩ := by
  have hlt : t < h.objs.size := let ⟨_, e, _⟩ := hT; Heap.lt_size e
  refine wpAny_pyIter_list (s := ⟨h, g, d, tk, os⟩) hT ?_
  have sz : (242 : Nat) ≤ h.objs.size := F.G.sz
  have newI : (h.push { cls := .type "list_iterator", data := .fields #[.ref t, .int 0 0] }).get? h.objs.size = some { cls := .type "list_iterator", data := .fields #[.ref t, .int 0 0] } := Heap.get?_push_size _ rfl
  have W := Walks.list (prog := prog) (w := w) hA.hh h.objs.size t (Nat.ne_of_lt hlt) vs.toArray
  have hvl : vs.toArray.size = vs.length := List.size_toArray
  obtain ⟨R, K, K0, hK, turn, fin⟩ := k
  refine comp_at (wr := wr) (F.up (.push _)) (KTurns.ofWalks (target := target) W fun i v s Q E st hQ => letGo_listiter st.1 hQ) (fun s Q E st q => W.self 0 s Q E st q) (by rw [hvl]; exact hsz) (Ext.push _ _) (fun b q => by rw [List.mem_singleton.mp q]; exact Heap.get?_none_of_le (Nat.le_refl _))
    hcell hkind hcl ⟨⟨_, newI, rfl, rfl⟩, hT.push _⟩ ?_ ?_ ?_ (fun a q => (hwr a q).1) ?_
    ⟨R, K, K0, hK, fun i v C m₃ h₃ tk₃ E' hi hP hk st hC F₃ hl => turn i v C m₃ h₃ tk₃ E' (hvl ▸ hi) ?_ hk st hC F₃ hl, fun D ys os' h' tk' hl => fin D ys os' h' tk' (hl.trans hvl)⟩
  · intro b hb
    rcases List.mem_cons.mp hb with rfl | hb
    · exact ⟨_, newI⟩
    · rw [List.mem_singleton.mp hb]
      obtain ⟨o, e, _⟩ := hT
      exact ⟨o, Heap.get?_push_of_some _ e⟩
  · intro b hb
    rcases List.mem_cons.mp hb with rfl | hb
    · exact ⟨Nat.ne_of_gt (Nat.lt_of_lt_of_le (by decide) sz), fun q => by obtain ⟨o, e⟩ := (hwr _ q).1; exact absurd (Heap.lt_size e) (Nat.lt_irrefl _)⟩
    · rw [List.mem_singleton.mp hb]; exact ⟨IsList.ne87 F.G hT, fun q => (hwr _ q).2.1 rfl⟩
  · intro i h' st b hb
    rw [List.mem_singleton.mp hb]
    obtain ⟨o, e, hc, hd⟩ := st.1
    exact ⟨Nat.lt_of_lt_of_le (by decide) sz, o, e, ⟨_, hc, by simp⟩, _, hd, by simp⟩
  · intro n c hc
    exact ⟨fun q => by have := new_ne_cell F (Heap.get?_none_of_le (Nat.le_refl _)) n c hc; exact this (List.mem_singleton.mp q), fun q => (hwr c q).2.2 n c hc rfl⟩
  · have e : vs.toArray[i]? = some v := hP
    rw [List.getElem?_toArray] at e
    exact e

theorem os_map {es : List PyData} {os' : List (Option PyData)} (hl : os'.length = es.length) (hR : ∀ (i : Nat) (o : Option PyData), os'[i]? = some o → ∃ e, es[i]? = some e ∧ o = some e) : os'.filterMap id = es := by
  have : os' = es.map some := by
    apply List.ext_getElem?
    intro i
    rw [List.getElem?_map]
    rcases Nat.lt_or_ge i os'.length with q | q
    · obtain ⟨e, h1, h2⟩ := hR i _ (List.getElem?_eq_getElem q)
      rw [List.getElem?_eq_getElem q, h1, h2]; rfl
    · rw [List.getElem?_eq_none q, List.getElem?_eq_none (by omega)]; rfl
  rw [this, List.filterMap_map]
  simp

/-- no test, no write: the list of es -/
theorem CompAt.map {elt target : Expr} {cenv : Addr → Env} {n : Nat} {P : Nat → Value → Heap → Prop} {Q : Value → Shared → Prop} (es : List PyData) (hn : n = es.length)
    (turn : ∀ i v ei C m₃ h₃ tk₃ E', es[i]? = some ei → P i v h₃ → Step w mg mb [] h h₃ → h.get? C = none → Fm w mg mb [C] h₃ (cenv C) m₃ cm h₃ → (cenv C).locals = C →
      wpAny (model prog w) A (assign target (cenv C) v) (fun _ s₂ => wpAny (model prog w) A (eval elt (cenv C)) (ElX w mg mb g d os [C] h₃ (cenv C) cm ei) E' s₂) E' ⟨h₃, g, d, tk₃, os⟩)
    (fin : ∀ D ys h' tk', Step w mg mb [] h h' → h.get? D = none → 241 < D → h'.IsList D ys.toArray → XTs h' ys es → Q (.ref D) ⟨h', g, d, tk', os⟩) :
    CompAt prog w mg mb A elt target [] cenv cm g d os [] n P Q h := by
  refine ⟨fun i o => ∃ e, es[i]? = some e ∧ o = some e, fun _ => True, trivial, fun _ _ _ _ _ _ => trivial, ?_, fun D ys os' h' tk' hl hR _ st hD h1 hL xs => fin D ys h' tk' st hD h1 hL (os_map (hl.trans hn) hR ▸ xs)⟩
  intro i v C m₃ h₃ tk₃ E' hi hP _ st hC F₃ hl
  have he : es[i]? = some (es[i]'(hn ▸ hi)) := List.getElem?_eq_getElem _
  refine wpAny_mono (turn i v _ C m₃ h₃ tk₃ E' he hP st hC F₃ hl) (fun _ s₂ h₂ => wpAny_tests_nil ?_) fun _ _ x => x
  simp only [if_true]
  exact wpAny_mono h₂ (fun y s₄ ⟨h₄, tk₄, m₄, e, F₄, x⟩ => ⟨h₄, tk₄, m₄, _, e, F₄, x, ⟨_, he, rfl⟩, trivial⟩) fun _ _ x => x

theorem compT_map {elt iter : Expr} {x : Str} {px : Pos} {scope : Scope} {cl : List (Str × Addr)} {pos : Pos} {Q : Value → Shared → Prop} (_F : Fm w mg mb wr hE env m cm hS) (es : List PyData) {n : Nat} (hA : Cx A n)
    (hclos : closureFor scope env = pure cl) (hkind : scope.kind = .function) (hnames : ∀ x ∈ scope.names, x.2 = .local → scope.names.lookup x.1 = some .local) (hs : ∀ x, foldedSetIterable iter env x = pure x)
    (hcell : ∀ y ∈ scope.names, y.2 ≠ .cell) (hx : scope.names.lookup x = some .local) (hcl : ∀ p ∈ cl, env.cells.lookup p.1 = some p.2)
    (k : wpAny (model prog w) A (eval iter env) (fun xv s₁ => TMapH prog w mg mb A hE env m cm wr g d os elt x scope cl Q es xv s₁) E ⟨hS, g, d, tk, os⟩) :
    wpAny (model prog w) A (eval (.ListComp elt [⟨.Name x px, iter, [], 0⟩] scope pos) env) Q E ⟨hS, g, d, tk, os⟩ := by
  refine compE hclos hkind hnames hs (wpAny_mono k (fun xv s₁ hk => ?_) fun _ _ e => e)
  obtain ⟨h₁, tk₁, ds, rfl, F, X, hlen, hsz, helt, hfin⟩ := hk
  obtain ⟨t, vs, rfl, hT, xs⟩ := X.tup
  refine comp_tuple (wr := []) F hA hT xs (by rw [hlen]; exact hsz) hcell hkind hcl (fun _ q => nomatch q) (.map es hlen ?_ ?_)
  · rintro i v ei C m₃ h₃ tk₃ E' hei ⟨di, hdi, xv⟩ st hC F₃ hl
    refine wpAny_assign_Name (stL F₃ (lookup_relabel_local hx) (by simp [compEnvC, relabel, hkind]) fun h' st' F' => ?_)
    have st'' : Step w mg mb [C] h₃ h' := hl ▸ st'
    exact helt i v di ei C m₃ h₃ h' _ E' hdi hei (xv.up st'') (st.off st'' hC) F'
  · exact fun D ys h' tk' st _ _ hL xs' => hfin D ys h' tk' st (F.up st) hL xs'
end

abbrev Dct (prog : Program) (w : World) (h : Heap) (a : Addr) (kvs : List (Str × Value)) : Prop := h.DictOf (strKind prog w) a kvs
section
variable {prog : Program} {w : World} {mg mb : Str → Option Value} {A : Around} {E : Value → Shared → Prop} {hE h h' : Heap} {env : Env} {m cm : Str → Option Value} {wr : List Addr}
  {g : Array GenState} {d : Drawn} {tk : Nat} {os : OsState} {td : Addr} {kvs : List (Str × Value)}
theorem Dct.ne87 (G : Gd w mg mb h) (x : Dct prog w h td kvs) : td ≠ 87 := by
  rintro rfl
  obtain ⟨o, es, ep, e, hx, _⟩ := x
  rcases G.tab with q | ⟨_, _, _, q, _⟩ <;> (rw [q] at e; cases e; cases hx.1)
theorem Dct.at (x : Dct prog w h td kvs) (k : ∀ o, h.get? td = some o → h'.get? td = some o) : Dct prog w h' td kvs := let ⟨o, es, ep, e, r⟩ := x; ⟨o, es, ep, k o e, r⟩
theorem Dct.up (G : Gd w mg mb h) (st : Step w mg mb wr h h') (x : Dct prog w h td kvs) (hw : td ∉ wr) : Dct prog w h' td kvs := x.at fun o e => st.keep td o (x.ne87 G) hw e
theorem Dct.ofE (F : Fm w mg mb wr hE env m cm h) (x : Dct prog w hE td kvs) (hw : td ∉ wr) : Dct prog w h td kvs := Dct.up F.GE F.st x hw
theorem tup_ne_dct {its : Array Value} (x : Dct prog w h td kvs) {l : Addr} (t : IsTup h l its) : l ≠ td := by
  rintro rfl
  obtain ⟨o, es, ep, e, hx, _⟩ := x
  obtain ⟨o', e', hc, _⟩ := t
  rw [e] at e'; cases e'
  exact absurd (hx.1.symm.trans hc) (by decide)
theorem list_ne_dct {its : Array Value} (x : Dct prog w h td kvs) {l : Addr} (t : h.IsList l its) : l ≠ td := by
  rintro rfl
  obtain ⟨o, es, ep, e, hx, _⟩ := x
  obtain ⟨o', e', hc, _⟩ := t
  rw [e] at e'; cases e'
  exact absurd (hx.1.symm.trans hc) (by decide)
theorem Dct.there (x : Dct prog w h td kvs) : ∃ o, h.get? td = some o := let ⟨o, _, _, e, _⟩ := x; ⟨o, e⟩
theorem Dct.low (G : Gd w mg mb h) (h1 : 241 < td) : (td == sysModules) = false := by
  rw [beq_eq_false_iff_ne]; rintro rfl; exact absurd h1 (by decide)

theorem mGet2 {o e1 e2 : Expr} {apos pos : Pos} {Q : Value → Shared → Prop} (hbase : attributeBase o (Str.ofString "get") env (eval o env) = eval o env) (hline : (apos.endLine == pos.line) = true)
    (htrees : backTo pos (starEach [e1, e2] env) = [(false, eval e1 env), (false, eval e2 env)])
    (k : wpAny (model prog w) A (eval o env) (fun ov s₁ => ∃ td kvs, ov = .ref td ∧ 241 < td ∧ Dct prog w s₁.heap td kvs ∧ wpAny (model prog w) A (eval e1 env) (fun key s₂ => wpAny (model prog w) A (eval e2 env) (fun dflt s₃ =>
      ∃ x t h₃ tk₃, key = .str x t ∧ s₃ = ⟨h₃, g, d, tk₃, os⟩ ∧ Dct prog w h₃ td kvs ∧ Q ((valueAt kvs x).getD dflt) ⟨h₃, g, d, tk₃ + 1, os⟩) E s₂) E s₁) E ⟨h, g, d, tk, os⟩) :
    wpAny (model prog w) A (eval (.Call (.Attribute o (Str.ofString "get") apos) [e1, e2] [] pos) env) Q E ⟨h, g, d, tk, os⟩ := by
  refine wpAny_Call_method2_late hbase hline htrees (wpAny_mono k (fun ov s₁ q => ?_) fun _ _ x => x)
  obtain ⟨td, kvs, rfl, h1, x, q⟩ := q
  refine ⟨"dict", "dict.get", F.plainAttrs_dict, F.slot_dict_get, F.type_dict_get, x.typeIs, x.mapOf.noDict, wpAny_dict_get2 (knd := strKind prog w) ?_ (wpAny_mono q (fun key s₂ q => wpAny_mono q (fun dflt s₃ q => ?_) fun _ _ x => x) fun _ _ x => x)⟩
  · rw [beq_eq_false_iff_ne]; rintro rfl; exact absurd h1 (by decide)
  · obtain ⟨y, t, h₃, tk₃, rfl, rfl, x3, q⟩ := q
    exact ⟨y, _, strKind_is _ _ _ _, x3.mapOf, q⟩

theorem inD {x : Str} {t : Tok} {Q : Value → Shared → Prop} (D : Dct prog w h td kvs) (h1 : 241 < td) (k : Q (.bool (valueAt kvs x).isSome) ⟨h, g, d, tk + 1, os⟩) : wpAny (model prog w) A (compareOp .In (.str x t) (.ref td)) Q E ⟨h, g, d, tk, os⟩ :=
  wpAny_in_of (strKind_is prog w x t) (by rw [beq_eq_false_iff_ne]; rintro rfl; exact absurd h1 (by decide)) D.mapOf k

theorem subD {value slice : Expr} {x : Str} {t : Tok} {v : Value} {Q : Value → Shared → Prop} (D : Dct prog w h td kvs) (hv : valueAt kvs x = some v)
    (hs : subscripted slice false (.ref td) (.str x t) = operate [.ref td, .str x t] (getItem (.ref td) (.str x t)))
    (k : Q v ⟨h, g, d, tk + 1, os⟩) : wpAny (model prog w) A (subscriptTail value slice (.ref td) (.str x t)) Q E ⟨h, g, d, tk, os⟩ :=
  tail_any D.typeIs slot_dict_getitem.lookup (wpAny_getItem_of (strKind_is prog w x t) D.mapOf hv k) hs

theorem newD {pos : Pos} {Q : Value → Shared → Prop} (F : Fm w mg mb wr hE env m cm h)
    (k : ∀ td h', Step w mg mb [] h h' → Fm w mg mb wr hE env m cm h' → Dct prog w h' td [] → 241 < td → h.get? td = none → td ≠ env.locals → Q (.ref td) ⟨h', g, d, tk, os⟩) : wpAny (model prog w) A (eval (.Dict [] [] pos) env) Q E ⟨h, g, d, tk, os⟩ := by
  refine wpAny_Dict_empty ?_
  have sz : (242 : Nat) ≤ h.objs.size := F.G.sz
  exact k h.objs.size _ (.push _) (F.up (.push _)) (Heap.DictOf.new h) (Nat.lt_of_lt_of_le (by decide) sz) (Heap.get?_none_of_le (Nat.le_refl _)) (Nat.ne_of_gt F.ns.lt)

theorem setD {x : Str} {t : Tok} {v : Value} {Q : Unit → Shared → Prop} (_F : Fm w mg mb wr hE env m cm h) (D : Dct prog w h td kvs) (h1 : 241 < td) (hsz : kvs.length ≤ sizeLine)
    (k : ∀ h', Step w mg mb [td] h h' → Dct prog w h' td (stored kvs x v) → Heap.ExtBut td h h' → Q () ⟨h', g, d, tk + 1, os⟩) : wpAny (model prog w) A (setItem (.ref td) (.str x t) v) Q E ⟨h, g, d, tk, os⟩ := by
  refine wpAny_setItem_pairs (strKind_is prog w x t) D (fun h' D' hs => ?_) hsz
  obtain ⟨o, es, ep, e, hx, hd, _⟩ := D
  exact k h' (.but (fun b o hb e => hs.extBut b o hb e) h1 e (fun vs q => by rw [hd] at q; cases q) (fun _ vs n q => by rw [hd] at q; cases q)) D' hs.extBut
end
section
variable {prog : Program} {w : World} {mg mb : Str → Option Value} {A : Around} {E : Value → Shared → Prop} {hE h h' : Heap} {env : Env} {m cm : Str → Option Value} {wr : List Addr}
  {g : Array GenState} {d : Drawn} {tk : Nat} {os : OsState} {f : Addr}
theorem FnAt.up (G : Gd w mg mb h) (st : Step w mg mb wr h h') (x : FnAt f h) (hw : f ∉ wr) : FnAt f h' := by
  obtain ⟨oc, od, fd, sl, e⟩ := x
  refine ⟨oc, od, fd, sl, st.keep f _ ?_ hw e⟩
  rintro rfl
  rcases G.tab with q | ⟨_, _, _, q, _⟩ <;> (rw [q] at e; cases e)
theorem FnAt.ofE (F : Fm w mg mb wr hE env m cm h) (x : FnAt f hE) (hw : f ∉ wr) : FnAt f h := FnAt.up F.GE F.st x hw
theorem callFn {pos : Pos} {e : Expr} {rest : List Expr} {Q : Value → Shared → Prop} (X : FnAt f h)
    (he : starEach (e :: rest) env = (false, eval e env) :: starEach rest env) (hp : (backTo pos (starEach rest env)).any (·.1) = false)
    (k : wpAny (model prog w) A (spliced (backTo pos (starEach (e :: rest) env))) (fun vs s₁ => FnAt f s₁.heap ∧ wpAny (model prog w) A (call (.ref f) vs) Q E s₁) E ⟨h, g, d, tk, os⟩) :
    wpAny (model prog w) A (callWith pos (.ref f) [] (backTo pos (starEach (e :: rest) env)) []) Q E ⟨h, g, d, tk, os⟩ := callWith_F X k he hp
end

section
variable {prog : Program} {w : World} {mg mb : Str → Option Value} {A : Around} {E : Value → Shared → Prop} {hE h hS : Heap} {env : Env} {m cm : Str → Option Value} {wr wr₀ : List Addr}
  {g : Array GenState} {d : Drawn} {tk : Nat} {os : OsState}
theorem Fm.newI (F : Fm w mg mb wr hE env m cm h) {I : Addr} (x : h.get? I = none) : I ≠ env.locals ∧ (I ∈ wr ∨ hE.get? I = none) ∧ ∀ n c, env.cells.lookup n = some c → c ≠ I := by
  refine ⟨fun e => ?_, ?_, fun n c hc e => ?_⟩
  · obtain ⟨o, _, _, q, _⟩ := F.ns; rw [← e, x] at q; cases q
  · by_cases hw : I ∈ wr
    · exact .inl hw
    · right
      cases e : hE.get? I with
      | none => rfl
      | some o =>
        by_cases h87 : I = 87
        · subst h87
          rcases F.G.tab with q | ⟨_, _, _, q, _⟩ <;> (rw [x] at q; cases q)
        · have := F.st.keep I o h87 hw e
          rw [x] at this; cases this
  · subst e; obtain ⟨o, q, _⟩ := F.cell n c hc; rw [x] at q; cases q

/-- a for loop over a list -/
def ForAt (prog : Program) (w : World) (mg mb : Str → Option Value) (A : Around) (target : Expr) (body : List Stmt) (wr : List Addr) (hE : Heap) (env : Env) (m cm : Str → Option Value) (g : Array GenState) (d : Drawn) (os : OsState) (names : List Str) (wr' : List Addr) (n : Nat)
    (P : Nat → Value → Heap → Prop) (rest : Shared → Prop) (Q : Flow → Shared → Prop) (h₁ : Heap) : Prop :=
  ∃ J : Nat → Heap → Prop, J 0 h₁ ∧ (∀ i ha hb L, Step w mg mb L ha hb → (∀ a ∈ L, h₁.get? a = none ∧ ∃ o, ha.get? a = some o ∧ Itr o) → J i ha → J i hb) ∧
    (∀ i v u h₃ tk₃ E', P i v h₃ → J i h₃ → Step w mg mb (env.locals :: wr') h₁ h₃ → Fm w mg mb wr hE env (ovr names u m) cm h₃ → Fm w mg mb (env.locals :: wr') h₃ env (ovr names u m) cm h₃ →
      wpAny (model prog w) A (assign target env v) (fun _ s₂ => wpAny (model prog w) A (execs body env) (Turn (LpP w mg mb g d os (env.locals :: wr') h₃ env m cm names (J (i + 1))) fun v s₃ => Q (.ret v) s₃) E' s₂) E' ⟨h₃, g, d, tk₃, os⟩) ∧
    (∀ u h' tk', J n h' → Step w mg mb (env.locals :: wr') h₁ h' → Fm w mg mb wr hE env (ovr names u m) cm h' → rest ⟨h', g, d, tk', os⟩)

theorem Step.offI {h h₂ h₃ : Heap} {a : Addr} {L wr : List Addr} (x : Ext h h₂) (y : Step w mg mb (a :: (L ++ wr)) h₂ h₃) (hL : ∀ b ∈ L, h.get? b = none) : Step w mg mb (a :: wr) h h₃ :=
  ⟨fun b o h1 h2 e => y.keep b o h1 (fun q => (List.mem_cons.mp q).elim (fun q => h2 (q ▸ .head _)) fun q => (List.mem_append.mp q).elim (fun q => by rw [hL b q] at e; cases e) fun q => h2 (.tail _ q)) (x b o e), fun b o e c q => y.tk b o (x b o e) c q, fun G => y.gd (G.ext x)⟩

theorem xForL {target iter : Expr} {body rest : List Stmt} {pos : Pos} {n : Nat} {Q : Flow → Shared → Prop} (_F : Fm w mg mb wr hE env m cm h) (names : List Str) (wr' : List Addr) (hA : Cx A n) (hs : ∀ x, foldedSetIterable iter env x = pure x)
    (k : wpAny (model prog w) A (eval iter env) (fun xv s₁ => ∃ h₁ tk₁ l, ∃ vs : List Value, xv = .ref l ∧ s₁ = ⟨h₁, g, d, tk₁, os⟩ ∧ Fm w mg mb wr hE env m cm h₁ ∧ h₁.IsList l vs.toArray ∧ l ∉ wr' ∧ (∀ a ∈ wr', (∃ o, h₁.get? a = some o) ∧ (a ∈ wr ∨ hE.get? a = none)) ∧
      ForAt prog w mg mb A target body wr hE env m cm g d os names wr' vs.length (fun i v _ => vs[i]? = some v) (fun s => wpAny (model prog w) A (execs rest env) Q E s) Q h₁) E ⟨h, g, d, tk, os⟩) :
    wpAny (model prog w) A (execs (.For target iter body [] pos :: rest) env) Q E ⟨h, g, d, tk, os⟩ := by
  refine xCons (wpAny_For (wpAny_mono k (fun xv s₁ hk => ?_) fun _ _ e => e) hs)
  obtain ⟨h₁, tk₁, l, vs, rfl, rfl, F, hT, hlw, hww, J, J0, hJ, turn, fin⟩ := hk
  have hlt : l < h₁.objs.size := let ⟨_, e, _⟩ := hT; Heap.lt_size e
  refine wpAny_pyIter_list (s := ⟨h₁, g, d, tk₁, os⟩) hT ?_
  have sz : (242 : Nat) ≤ h₁.objs.size := F.G.sz
  have newI : (h₁.push { cls := .type "list_iterator", data := .fields #[.ref l, .int 0 0] }).get? h₁.objs.size = some { cls := .type "list_iterator", data := .fields #[.ref l, .int 0 0] } := Heap.get?_push_size _ rfl
  have hI : h₁.get? h₁.objs.size = none := Heap.get?_none_of_le (Nat.le_refl _)
  have W := Walks.list (prog := prog) (w := w) hA.hh h₁.objs.size l (Nat.ne_of_lt hlt) vs.toArray
  have hvl : vs.toArray.size = vs.length := List.size_toArray
  have ni : ∀ b ∈ [h₁.objs.size], h₁.get? b = none := fun b q => by rw [List.mem_singleton.mp q]; exact hI
  refine for_block (wr' := wr') (F.up (.push _)) (KTurns.ofWalks (target := target) W fun i v s Q E st hQ => letGo_listiter st.1 hQ) names ⟨⟨_, newI, rfl, rfl⟩, hT.push _⟩ ?_ ?_ ?_ (fun a q => (hww a q).2) J
    (hJ _ _ _ [] (.push _) (fun _ q => nomatch q) J0) (fun i ha hb st hL hj => hJ i ha hb _ st (fun a q => ⟨ni a q, hL a q⟩) hj) ?_ ?_
  · intro b hb
    rcases List.mem_cons.mp hb with rfl | hb
    · exact ⟨Nat.ne_of_gt (Nat.lt_of_lt_of_le (by decide) sz), fun q => by obtain ⟨o, e⟩ := (hww _ q).1; exact absurd (Heap.lt_size e) (Nat.lt_irrefl _), (F.newI hI).1⟩
    · rw [List.mem_singleton.mp hb]; exact ⟨IsList.ne87 F.G hT, hlw, list_ne_locals F hT⟩
  · intro i h' st b hb
    rw [List.mem_singleton.mp hb]
    obtain ⟨o, e, hc, hd⟩ := st.1
    exact ⟨Nat.lt_of_lt_of_le (by decide) sz, o, e, ⟨_, hc, by simp⟩, _, hd, by simp⟩
  · intro b hb
    rw [List.mem_singleton.mp hb]; exact F.newI hI
  · intro i v u h₃ tk₃ E' hi hP hj st Fo F₃
    have e : vs.toArray[i]? = some v := hP
    rw [List.getElem?_toArray] at e
    exact turn i v u h₃ tk₃ E' e hj (Step.offI (Ext.push _ _) st ni) Fo F₃
  · intro u h' tk' hj st F'
    exact fin u h' tk' (hvl ▸ hj) (Step.offI (Ext.push _ _) st ni) F'

/-- k is small enough for a range -/
def RgOk (k : Nat) : Prop := Builtin.Range.small 0 k 1 = true ∧ Builtin.Range.rangeSize 0 k 1 = k
theorem rgOk {k : Nat} (h : k ≤ 8) : RgOk k :=
  (by unfold RgOk; decide : ∀ k : Nat, k < 9 → RgOk k) k (Nat.lt_succ_of_le h)

theorem callRange {k : Nat} {i : Int} {t : Tok} {Q : Value → Shared → Prop} (F : Fm w mg mb wr hE env m cm h) (hi : i = k)
    (q : ∀ r u v h' tk', Step w mg mb [] h h' → Fm w mg mb wr hE env m cm h' → IsRange h' r 0 k 1 u t v → Q (.ref r) ⟨h', g, d, tk', os⟩) : wpAny (model prog w) A (call (.type "range") [.int i t]) Q E ⟨h, g, d, tk, os⟩ := by
  subst hi
  exact call_range_1 (q h.objs.size tk (tk + 1) _ _ (.push _) (F.up (.push _)) (Heap.get?_push_size _ rfl))

theorem range_turns {n : Nat} (hA : Cx A n) (target : Expr) (I : Addr) (k : Nat) :
    KTurns prog w A target I [I] [I] k (fun i v _ => ∃ t, v = .int i t) (fun i v h => (∃ t, v = .int i t) ∧ IsRangeIter h I ((i + 1 : Nat) : Int) ((k : Int) - ((i + 1 : Nat) : Int)) 1) (fun i h => IsRangeIter h I (i : Nat) ((k : Int) - (i : Nat)) 1) := by
  have W := Walks.range (prog := prog) (w := w) hA.hh I 0 1 k
  have e : ∀ i : Nat, (0 : Int) + (i : Int) * 1 = i := fun i => by omega
  have W' : Walks prog w A I [I] [I] k (fun i v => ∃ t, v = .int i t) (fun i h => IsRangeIter h I (i : Nat) ((k : Int) - (i : Nat)) 1) := by
    have := W; simp only [e] at this; exact this
  refine KTurns.ofWalks W' fun i v s Q E hit hQ => ?_
  unfold letOwnedTupleGo
  cases target <;> first
    | exact wpAny_pure hQ
    | (cases v <;> first
        | exact wpAny_pure hQ
        | (refine wpAny_bind (wpAny_load hit ?_)
           exact wpAny_pure hQ))

theorem comp_range {elt target iter : Expr} {ifs : List Expr} {scope : Scope} {cl : List (Str × Addr)} {pos : Pos} {r : Addr} {t u v : Tok} {kk n : Nat} {Q : Value → Shared → Prop}
    (F : Fm w mg mb wr₀ hE env m cm h) (hA : Cx A n) (hr : IsRange h r 0 kk 1 t u v) (hk : RgOk kk) (hsz : kk ≤ sizeLine)
    (hcell : ∀ y ∈ scope.names, y.2 ≠ .cell) (hkind : scope.kind = .function) (hcl : ∀ p ∈ cl, env.cells.lookup p.1 = some p.2)
    (hwr : ∀ a ∈ wr, (∃ o, h.get? a = some o) ∧ ∀ n c, env.cells.lookup n = some c → c ≠ a)
    (k : CompAt prog w mg mb A elt target ifs (fun C => compEnvC scope cl C env) cm g d os wr kk (fun i v h₃ => ∃ t, v = .int i t) Q h) :
    wpAny (model prog w) A (pyIter (.ref r)) (fun it s₂ => wpAny (model prog w) A (newList []) (fun acc s₃ => wpAny (model prog w) A (newFunctionEnv scope env.globals cl [] env.qual none .none (some env)) (fun cenv s₄ =>
      codeAny (model prog w) A (.compStart (.ListComp elt [⟨target, iter, ifs, 0⟩] scope pos) 0 it acc { cenv with scope := relabel scope env }) (compPost (model prog w) A E none Q acc cenv.locals) s₄) E s₃) E s₂) E ⟨h, g, d, tk, os⟩ := by
  refine wpAny_pyIter_range (s := ⟨h, g, d, tk, os⟩) hr hk.1 ?_
  rw [hk.2]
  have sz : (242 : Nat) ≤ h.objs.size := F.G.sz
  have newI : (h.push { cls := .type "range_iterator", data := .fields #[rawInt 0, rawInt kk, rawInt 1] }).get? h.objs.size = some { cls := .type "range_iterator", data := .fields #[rawInt 0, rawInt kk, rawInt 1] } := Heap.get?_push_size _ rfl
  have W := Walks.range (prog := prog) (w := w) hA.hh h.objs.size 0 1 kk
  have e : ∀ i : Nat, (0 : Int) + (i : Int) * 1 = i := fun i => by omega
  simp only [e] at W
  refine comp_at (wr := wr) (F.up (.push _)) (range_turns hA target h.objs.size kk) (fun s Q E st q => W.self 0 s Q E st q) hsz (Ext.push _ _) (fun b q => by rw [List.mem_singleton.mp q]; exact Heap.get?_none_of_le (Nat.le_refl _))
    hcell hkind hcl (by simpa using newI) ?_ ?_ ?_ (fun a q => (hwr a q).1) ?_ k
  · intro b hb
    rw [List.mem_singleton.mp hb]; exact ⟨_, newI⟩
  · intro b hb
    rw [List.mem_singleton.mp hb]
    exact ⟨Nat.ne_of_gt (Nat.lt_of_lt_of_le (by decide) sz), fun q => by obtain ⟨o, e⟩ := (hwr _ q).1; exact absurd (Heap.lt_size e) (Nat.lt_irrefl _)⟩
  · intro i h' st b hb
    rw [List.mem_singleton.mp hb]
    exact ⟨Nat.lt_of_lt_of_le (by decide) sz, _, st, ⟨_, rfl, by simp⟩, _, rfl, by simp [rawInt]⟩
  · intro n c hc
    exact ⟨fun q => by have := new_ne_cell F (Heap.get?_none_of_le (Nat.le_refl _)) n c hc; exact this (List.mem_singleton.mp q), fun q => (hwr c q).2 n c hc rfl⟩

theorem asg2 {x y : Str} {px py pos : Pos} {kx : Nat} {a b : Value} {T : Addr} {Q : Unit → Shared → Prop} {n : Nat} (F : Fm w mg mb wr hE env m cm h) (hA : Cx A n) (ht : IsTup h T #[a, b])
    (k : ∀ h', Step w mg mb [] h h' → Fm w mg mb wr hE env m cm h' → wpAny (model prog w) A (storeName env x a) (fun _ s₁ => wpAny (model prog w) A (storeName env y b) Q E s₁) E ⟨h', g, d, tk, os⟩) :
    wpAny (model prog w) A (assign (.Tuple [.Name x px, .Name y py] kx pos) env (.ref T)) Q E ⟨h, g, d, tk, os⟩ := by
  refine assign_Tuple_tuple (s := ⟨h, g, d, tk, os⟩) hA.hh ht rfl rfl fun h' hk => ?_
  have st : Step w mg mb [] h h' := .of_ext fun b o e => hk b o (Nat.ne_of_lt (Heap.lt_size e)) e
  show wpAny _ _ (assignInOrder [assign (.Name x px) env, assign (.Name y py) env] [a, b]) _ _ _
  refine assignInOrder_cons (wpAny_assign_Name (wpAny_mono (k h' st (F.up st)) (fun _ s₁ q => assignInOrder_cons (wpAny_assign_Name (wpAny_mono q (fun _ s₂ q => assignInOrder_nil q) fun _ _ x => x))) fun _ _ x => x))
theorem asg3 {x y z : Str} {px py pz pos : Pos} {kx : Nat} {a b c : Value} {T : Addr} {Q : Unit → Shared → Prop} {n : Nat} (F : Fm w mg mb wr hE env m cm h) (hA : Cx A n) (ht : IsTup h T #[a, b, c])
    (k : ∀ h', Step w mg mb [] h h' → Fm w mg mb wr hE env m cm h' → wpAny (model prog w) A (storeName env x a) (fun _ s₁ => wpAny (model prog w) A (storeName env y b) (fun _ s₂ => wpAny (model prog w) A (storeName env z c) Q E s₂) E s₁) E ⟨h', g, d, tk, os⟩) :
    wpAny (model prog w) A (assign (.Tuple [.Name x px, .Name y py, .Name z pz] kx pos) env (.ref T)) Q E ⟨h, g, d, tk, os⟩ := by
  refine assign_Tuple_tuple (s := ⟨h, g, d, tk, os⟩) hA.hh ht rfl rfl fun h' hk => ?_
  have st : Step w mg mb [] h h' := .of_ext fun b o e => hk b o (Nat.ne_of_lt (Heap.lt_size e)) e
  show wpAny _ _ (assignInOrder [assign (.Name x px) env, assign (.Name y py) env, assign (.Name z pz) env] [a, b, c]) _ _ _
  refine assignInOrder_cons (wpAny_assign_Name (wpAny_mono (k h' st (F.up st)) (fun _ s₁ q => assignInOrder_cons (wpAny_assign_Name (wpAny_mono q (fun _ s₂ q => assignInOrder_cons (wpAny_assign_Name (wpAny_mono q (fun _ s₂ q => assignInOrder_nil q) fun _ _ x => x))) fun _ _ x => x))) fun _ _ x => x))
theorem XT.two {h : Heap} {v : Value} {d1 d2 : PyData} (x : XT h v (.tuple [d1, d2])) : ∃ t a b, v = .ref t ∧ IsTup h t #[a, b] ∧ XT h a d1 ∧ XT h b d2 := by
  obtain ⟨t, vs, rfl, hT, xs⟩ := x.tup
  obtain ⟨a, vs, rfl, xa, xs⟩ := xs.inv
  obtain ⟨b, vs, rfl, xb, xs⟩ := xs.inv
  obtain rfl := xs.inv0
  exact ⟨t, a, b, rfl, hT, xa, xb⟩
theorem asg2X {x y : Str} {px py pos : Pos} {kx : Nat} {v : Value} {d1 d2 : PyData} {Q : Unit → Shared → Prop} {n : Nat} (F : Fm w mg mb wr hE env m cm h) (hA : Cx A n) (xv : XT h v (.tuple [d1, d2]))
    (k : ∀ a b h', Step w mg mb [] h h' → Fm w mg mb wr hE env m cm h' → XT h' a d1 → XT h' b d2 → wpAny (model prog w) A (storeName env x a) (fun _ s₁ => wpAny (model prog w) A (storeName env y b) Q E s₁) E ⟨h', g, d, tk, os⟩) :
    wpAny (model prog w) A (assign (.Tuple [.Name x px, .Name y py] kx pos) env v) Q E ⟨h, g, d, tk, os⟩ := by
  obtain ⟨t, a, b, rfl, hT, xa, xb⟩ := xv.two
  exact asg2 F hA hT fun h' st F' => k a b h' st F' (xa.up st) (xb.up st)
theorem xAssignT {elts : List Expr} {kx : Nat} {tp pos : Pos} {value : Expr} {rest : List Stmt} {Q : Flow → Shared → Prop} {s : Shared} (hs : swapsWithSole [.Tuple elts kx tp] value pos.line env = pure false) (hw : swappedStores [.Tuple elts kx tp] value env = pure none)
    (k : wpAny (model prog w) A (eval value env) (fun v s₁ => wpAny (model prog w) A (assign (.Tuple elts kx tp) env v) (fun _ => wpAny (model prog w) A (execs rest env) Q E) E s₁) E s) : wpAny (model prog w) A (execs (.Assign [.Tuple elts kx tp] value pos :: rest) env) Q E s :=
  wpAny_execs_cons (Assign_Tuple k hs hw)
def Unp2 (prog : Program) (w : World) (A : Around) (E : Value → Shared → Prop) (env : Env) (x y : Str) (R : Shared → Prop) (v : Value) (s₁ : Shared) : Prop :=
  wpAny (model prog w) A (unpackItems v [x, y].length none) (fun items s₂ => wpAny (model prog w) A (assignInOrder ([x, y].reverse.map fun n => bindName env n) items.reverse) (fun _ => R) E s₂) E s₁
theorem xAssignSw2 {elts : List Expr} {kx : Nat} {tp pos : Pos} {value : Expr} {rest : List Stmt} {x y : Str} {Q : Flow → Shared → Prop} {s : Shared} (hs : swapsWithSole [.Tuple elts kx tp] value pos.line env = pure false) (hw : swappedStores [.Tuple elts kx tp] value env = pure (some [x, y]))
    (k : wpAny (model prog w) A (eval value env) (Unp2 prog w A E env x y fun s => wpAny (model prog w) A (execs rest env) Q E s) E s) : wpAny (model prog w) A (execs (.Assign [.Tuple elts kx tp] value pos :: rest) env) Q E s :=
  wpAny_execs_cons (Assign_Tuple_swapped (names := [x, y]) (Q := fun f s' => match f with | .next => wpAny (model prog w) A (execs rest env) Q E s' | f => Q f s') k hs hw)
theorem unp2 {x y : Str} {t : Addr} {a b : Value} {R : Shared → Prop} {n : Nat} (F : Fm w mg mb wr hE env m cm h) (hA : Cx A n) (hT : IsTup h t #[a, b])
    (k : ∀ h', Step w mg mb [] h h' → Fm w mg mb wr hE env m cm h' → wpAny (model prog w) A (storeName env y b) (fun _ s₁ => wpAny (model prog w) A (storeName env x a) (fun _ s => R s) E s₁) E ⟨h', g, d, tk, os⟩) : Unp2 prog w A E env x y R (.ref t) ⟨h, g, d, tk, os⟩ := by
  unfold Unp2
  have e1 : ([x, y].reverse.map fun n => bindName env n) = [bindName env y, bindName env x] := rfl
  rw [e1]
  refine unpackItems_tuple (s := ⟨h, g, d, tk, os⟩) (items := #[a, b]) hA.hh hT fun h' hk => ?_
  have st : Step w mg mb [] h h' := .of_ext fun b o e => hk b o (Nat.ne_of_lt (Heap.lt_size e)) e
  have e2 : (#[a, b] : Array Value).toList.reverse = [b, a] := rfl
  rw [e2]
  exact assignInOrder_cons (wpAny_bindName (wpAny_mono (k h' st (F.up st)) (fun _ s₁ q => assignInOrder_cons (wpAny_bindName (wpAny_mono q (fun _ s₂ q => assignInOrder_nil q) fun _ _ x => x))) fun _ _ x => x))
theorem unp2X {x y : Str} {v : Value} {d1 d2 : PyData} {R : Shared → Prop} {n : Nat} (F : Fm w mg mb wr hE env m cm h) (hA : Cx A n) (xv : XT h v (.tuple [d1, d2]))
    (k : ∀ a b h', Step w mg mb [] h h' → Fm w mg mb wr hE env m cm h' → XT h' a d1 → XT h' b d2 → wpAny (model prog w) A (storeName env y b) (fun _ s₁ => wpAny (model prog w) A (storeName env x a) (fun _ s => R s) E s₁) E ⟨h', g, d, tk, os⟩) : Unp2 prog w A E env x y R v ⟨h, g, d, tk, os⟩ := by
  obtain ⟨t, a, b, rfl, hT, xa, xb⟩ := xv.two
  exact unp2 F hA hT fun h' st F' => k a b h' st F' (xa.up st) (xb.up st)
theorem lenT {v : Value} {ds : List PyData} {Q : Value → Shared → Prop} (x : XT h v (.tuple ds)) (hfit : ds.length < 1000) (k : Q (.int ds.length (tk + 1)) ⟨h, g, d, tk + 1 + 1, os⟩) : wpAny (model prog w) A (call (.builtin "len") [v]) Q E ⟨h, g, d, tk, os⟩ := by
  obtain ⟨t, vs, rfl, hT, xs⟩ := x.tup
  have e : (vs.toArray.size : Int) = ds.length := by rw [List.size_toArray, xs.len]
  exact PyProof.Rows.len_tuple (s := ⟨h, g, d, tk, os⟩) hT (by rw [e]; omega) (by rw [e]; exact k)
end

section
variable {prog : Program} {w : World} {mg mb : Str → Option Value} {A : Around} {E : Value → Shared → Prop} {hE h : Heap} {env : Env} {m cm : Str → Option Value} {wr : List Addr}
  {g : Array GenState} {d : Drawn} {tk : Nat} {os : OsState}
/-- x is a local name of this frame -/
def locOk (env : Env) (x : Str) : Bool := match env.kindOf x, env.scope.kind, x == ("__debug__" : Str) with
  | some .local, .function, false => true
  | _, _, _ => false
theorem locOk.inv {x : Str} (q : locOk env x = true) : env.kindOf x = some .local ∧ env.scope.kind = .function ∧ (x == ("__debug__" : Str)) = false := by
  unfold locOk at q
  split at q
  · exact ⟨by assumption, by assumption, by assumption⟩
  · cases q
theorem nL {x : Str} {pos : Pos} {v : Value} {Q : Value → Shared → Prop} (F : Fm w mg mb wr hE env m cm h) (hl : locOk env x = true) (hv : m x = some v)
    (k : Q v ⟨h, g, d, tk, os⟩) : wpAny (model prog w) A (eval (.Name x pos) env) Q E ⟨h, g, d, tk, os⟩ := nameL F (locOk.inv hl).1 hv (locOk.inv hl).2.1 (locOk.inv hl).2.2 k
theorem sL {x : Str} {v : Value} {Q : Unit → Shared → Prop} (F : Fm w mg mb wr hE env m cm h) (hl : locOk env x = true)
    (k : ∀ h', Step w mg mb [env.locals] h h' → Fm w mg mb wr hE env (upd m x v) cm h' → Q () ⟨h', g, d, tk + 1, os⟩) :
    wpAny (model prog w) A (storeName env x v) Q E ⟨h, g, d, tk, os⟩ := stL F (locOk.inv hl).1 (locOk.inv hl).2.1 k
-- the arguments, one a step
theorem aL1 {x : Str} {p pos : Pos} {v : Value} {Q : List Value → Shared → Prop} (F : Fm w mg mb wr hE env m cm h) (hl : locOk env x = true) (hv : m x = some v)
    (k : Q [v] ⟨h, g, d, tk, os⟩) : wpAny (model prog w) A (spliced (backTo pos (starEach [.Name x p] env))) Q E ⟨h, g, d, tk, os⟩ := args_cons (nL F hl hv (args_nil k)) rfl
theorem aL {x : Str} {p pos : Pos} {v : Value} {rest : List Expr} {Q : List Value → Shared → Prop} (F : Fm w mg mb wr hE env m cm h) (hl : locOk env x = true) (hv : m x = some v)
    (k : wpAny (model prog w) A (spliced (backTo pos (starEach rest env))) (fun vs s₂ => Q (v :: vs) s₂) E ⟨h, g, d, tk, os⟩) : wpAny (model prog w) A (spliced (backTo pos (starEach (.Name x p :: rest) env))) Q E ⟨h, g, d, tk, os⟩ := args_cons (nL F hl hv k) rfl
theorem aS1 {x : Str} {i : Nat} {p pos : Pos} {Q : List Value → Shared → Prop}
    (k : Q [.str x tk] ⟨h, g, d, tk + 1, os⟩) : wpAny (model prog w) A (spliced (backTo pos (starEach [.Constant (.str x) i p] env))) Q E ⟨h, g, d, tk, os⟩ := args_cons (cStr (args_nil k)) rfl
theorem aS {x : Str} {i : Nat} {p pos : Pos} {rest : List Expr} {Q : List Value → Shared → Prop}
    (k : wpAny (model prog w) A (spliced (backTo pos (starEach rest env))) (fun vs s₂ => Q (.str x tk :: vs) s₂) E ⟨h, g, d, tk + 1, os⟩) : wpAny (model prog w) A (spliced (backTo pos (starEach (.Constant (.str x) i p :: rest) env))) Q E ⟨h, g, d, tk, os⟩ := args_cons (cStr k) rfl
theorem aI1 {x : Int} {i : Nat} {p pos : Pos} {Q : List Value → Shared → Prop}
    (k : Q [.int x tk] ⟨h, g, d, tk + 1, os⟩) : wpAny (model prog w) A (spliced (backTo pos (starEach [.Constant (.int x) i p] env))) Q E ⟨h, g, d, tk, os⟩ := args_cons (cInt (args_nil k)) rfl
theorem aB1 {x : Bool} {i : Nat} {p pos : Pos} {Q : List Value → Shared → Prop}
    (k : Q [.bool x] ⟨h, g, d, tk, os⟩) : wpAny (model prog w) A (spliced (backTo pos (starEach [.Constant (.bool x) i p] env))) Q E ⟨h, g, d, tk, os⟩ := args_cons (cBool (args_nil k)) rfl
-- a part of a tuple, by a number that is written out
theorem subs_ok {i : Int} {k : Nat} {p : Pos} {a : Addr} {u : Tok} : subscripted (.Constant (.int i) k p) false (.ref a) (.int i u) = operate [.ref a, .int i u] (getItem (.ref a) (.int i u)) := by with_unfolding_all rfl
theorem eN {x : Str} {i : Int} {c : Nat} {p p2 p3 : Pos} {v : Value} {ds : List PyData} {dj : PyData} {Q : Value → Shared → Prop} (F : Fm w mg mb wr hE env m cm h) (hl : locOk env x = true) (hv : m x = some v) (X : XT h v (.tuple ds)) (hj : ds[i.toNat]? = some dj)
    (hi : (decide (0 ≤ i) && decide (i < 2 ^ 63)) = true) (k : ∀ y, XT h y dj → Q y ⟨h, g, d, tk + 1, os⟩) : wpAny (model prog w) A (eval (.Subscript (.Name x p) (.Constant (.int i) c p2) p3) env) Q E ⟨h, g, d, tk, os⟩ := by
  simp only [Bool.and_eq_true, decide_eq_true_eq] at hi
  exact Subscript_ (nL F hl hv (cInt (subX X hj hi.1 hi.2 (fun _ => subs_ok) k)))
theorem eNs {x a : Str} {i : Int} {c : Nat} {p p2 p3 : Pos} {v : Value} {ds : List PyData} {Q : Value → Shared → Prop} (F : Fm w mg mb wr hE env m cm h) (hl : locOk env x = true) (hv : m x = some v) (X : XT h v (.tuple ds)) (hj : ds[i.toNat]? = some (.str a))
    (hi : (decide (0 ≤ i) && decide (i < 2 ^ 63)) = true) (k : ∀ u, Q (.str a u) ⟨h, g, d, tk + 1, os⟩) : wpAny (model prog w) A (eval (.Subscript (.Name x p) (.Constant (.int i) c p2) p3) env) Q E ⟨h, g, d, tk, os⟩ :=
  eN F hl hv X hj hi fun y Y => by obtain ⟨u, rfl⟩ := Y.str_inv; exact k u
theorem eNb {x : Str} {b : Bool} {i : Int} {c : Nat} {p p2 p3 : Pos} {v : Value} {ds : List PyData} {Q : Value → Shared → Prop} (F : Fm w mg mb wr hE env m cm h) (hl : locOk env x = true) (hv : m x = some v) (X : XT h v (.tuple ds)) (hj : ds[i.toNat]? = some (.bool b))
    (hi : (decide (0 ≤ i) && decide (i < 2 ^ 63)) = true) (k : Q (.bool b) ⟨h, g, d, tk + 1, os⟩) : wpAny (model prog w) A (eval (.Subscript (.Name x p) (.Constant (.int i) c p2) p3) env) Q E ⟨h, g, d, tk, os⟩ :=
  eN F hl hv X hj hi fun y Y => by have := Y.bool_inv; subst this; exact k
-- the tests against a word
theorem tN {x a b : Str} {u : Tok} {c : Nat} {p p2 p3 : Pos} {whole : Sem Value} {Q : Bool → Shared → Prop} (F : Fm w mg mb wr hE env m cm h) (hl : locOk env x = true) (hv : m x = some (.str a u))
    (k : Q (a == b) ⟨h, g, d, tk + 1, os⟩) : wpAny (model prog w) A (isTrue (.Compare (.Name x p) [.Eq] [.Constant (.str b) c p2] p3) env whole) Q E ⟨h, g, d, tk, os⟩ :=
  wpAny_isTrue_Compare1 (nL F hl hv (cStr (eq_str (wpAny_truthy_bool k))))
theorem tNn {x a b : Str} {u : Tok} {c : Nat} {p p2 p3 : Pos} {whole : Sem Value} {Q : Bool → Shared → Prop} (F : Fm w mg mb wr hE env m cm h) (hl : locOk env x = true) (hv : m x = some (.str a u))
    (k : Q (a != b) ⟨h, g, d, tk + 1, os⟩) : wpAny (model prog w) A (isTrue (.Compare (.Name x p) [.NotEq] [.Constant (.str b) c p2] p3) env whole) Q E ⟨h, g, d, tk, os⟩ :=
  wpAny_isTrue_Compare1 (nL F hl hv (cStr (ne_str (wpAny_truthy_bool k))))
theorem tX {x a b : Str} {i : Int} {c c' : Nat} {p p2 p3 p4 p5 : Pos} {v : Value} {ds : List PyData} {whole : Sem Value} {Q : Bool → Shared → Prop} (F : Fm w mg mb wr hE env m cm h) (hl : locOk env x = true) (hv : m x = some v) (X : XT h v (.tuple ds)) (hj : ds[i.toNat]? = some (.str a))
    (hi : (decide (0 ≤ i) && decide (i < 2 ^ 63)) = true) (k : Q (a == b) ⟨h, g, d, tk + 1 + 1, os⟩) : wpAny (model prog w) A (isTrue (.Compare (.Subscript (.Name x p) (.Constant (.int i) c p2) p3) [.Eq] [.Constant (.str b) c' p4] p5) env whole) Q E ⟨h, g, d, tk, os⟩ :=
  wpAny_isTrue_Compare1 (eNs F hl hv X hj hi fun _ => cStr (eq_str (wpAny_truthy_bool k)))
theorem tXn {x a b : Str} {i : Int} {c c' : Nat} {p p2 p3 p4 p5 : Pos} {v : Value} {ds : List PyData} {whole : Sem Value} {Q : Bool → Shared → Prop} (F : Fm w mg mb wr hE env m cm h) (hl : locOk env x = true) (hv : m x = some v) (X : XT h v (.tuple ds)) (hj : ds[i.toNat]? = some (.str a))
    (hi : (decide (0 ≤ i) && decide (i < 2 ^ 63)) = true) (k : Q (a != b) ⟨h, g, d, tk + 1 + 1, os⟩) : wpAny (model prog w) A (isTrue (.Compare (.Subscript (.Name x p) (.Constant (.int i) c p2) p3) [.NotEq] [.Constant (.str b) c' p4] p5) env whole) Q E ⟨h, g, d, tk, os⟩ :=
  wpAny_isTrue_Compare1 (eNs F hl hv X hj hi fun _ => cStr (ne_str (wpAny_truthy_bool k)))
-- if, with nothing else
theorem xIf0 {test : Expr} {body rest : List Stmt} {pos : Pos} {Q : Flow → Shared → Prop} {s : Shared}
    (k : wpAny (model prog w) A (isTrue test env (eval test env)) (fun b s₂ => if b = true then wpAny (model prog w) A (execs body env) (After (model prog w) A rest env Q E) E s₂ else wpAny (model prog w) A (execs rest env) Q E s₂) E s) : wpAny (model prog w) A (execs (.If test body [] pos :: rest) env) Q E s :=
  xIf (wpAny_mono k (fun b s₂ q => by cases b; exact xNil (after_next q); exact q) fun _ _ x => x)
theorem iN {x a b : Str} {u : Tok} {c : Nat} {p p2 p3 pos : Pos} {body rest : List Stmt} {Q : Flow → Shared → Prop} (F : Fm w mg mb wr hE env m cm h) (hl : locOk env x = true) (hv : m x = some (.str a u)) (e : (a == b) = false)
    (k : wpAny (model prog w) A (execs rest env) Q E ⟨h, g, d, tk + 1, os⟩) : wpAny (model prog w) A (execs (.If (.Compare (.Name x p) [.Eq] [.Constant (.str b) c p2] p3) body [] pos :: rest) env) Q E ⟨h, g, d, tk, os⟩ :=
  xIf0 (tN F hl hv (ifF e k))
theorem iX {x a b : Str} {i : Int} {c c' : Nat} {p p2 p3 p4 p5 pos : Pos} {v : Value} {ds : List PyData} {body rest : List Stmt} {Q : Flow → Shared → Prop} (F : Fm w mg mb wr hE env m cm h) (hl : locOk env x = true) (hv : m x = some v) (X : XT h v (.tuple ds)) (hj : ds[i.toNat]? = some (.str a))
    (hi : (decide (0 ≤ i) && decide (i < 2 ^ 63)) = true) (e : (a == b) = false) (k : wpAny (model prog w) A (execs rest env) Q E ⟨h, g, d, tk + 1 + 1, os⟩) : wpAny (model prog w) A (execs (.If (.Compare (.Subscript (.Name x p) (.Constant (.int i) c p2) p3) [.Eq] [.Constant (.str b) c' p4] p5) body [] pos :: rest) env) Q E ⟨h, g, d, tk, os⟩ :=
  xIf0 (tX F hl hv X hj hi (ifF e k))
-- y = x[i]
theorem yX {x y a : Str} {i : Int} {c : Nat} {p p2 p3 p4 pos : Pos} {v : Value} {ds : List PyData} {rest : List Stmt} {Q : Flow → Shared → Prop} (F : Fm w mg mb wr hE env m cm h) (hl : locOk env x = true) (hv : m x = some v) (X : XT h v (.tuple ds)) (hj : ds[i.toNat]? = some (.str a))
    (hi : (decide (0 ≤ i) && decide (i < 2 ^ 63)) = true) (hy : locOk env y = true) (k : ∀ u h', Step w mg mb [env.locals] h h' → Fm w mg mb wr hE env (upd m y (.str a u)) cm h' → wpAny (model prog w) A (execs rest env) Q E ⟨h', g, d, tk + 1 + 1, os⟩) :
    wpAny (model prog w) A (execs (.Assign [.Name y p4] (.Subscript (.Name x p) (.Constant (.int i) c p2) p3) pos :: rest) env) Q E ⟨h, g, d, tk, os⟩ :=
  xAssign (by with_unfolding_all rfl) (eNs F hl hv X hj hi fun u => sL F hy fun h' st F' => k u h' st F')
-- return of a truth
theorem rB {b : Bool} {c : Nat} {p pos : Pos} {rest : List Stmt} {Q : Flow → Shared → Prop} (k : Q (.ret (.bool b)) ⟨h, g, d, tk, os⟩) : wpAny (model prog w) A (execs (.Return (some (.Constant (.bool b) c p)) pos :: rest) env) Q E ⟨h, g, d, tk, os⟩ := xReturn (cBool k)
end
/-- the goal by a short name, while a fact is taken apart -/
theorem hideG {G : Prop} (k : ∀ P : Prop, (G → P) → P) : G := k G id
/-- an equation, as itself -/
theorem eqI {eqs : Sort u} {eqa eqb : eqs} (eqh : eqa = eqb) : eqa = eqb := eqh
/-- with the step first, so that it tells the heap -/
theorem neG {h : Heap} {a b : Addr} {o : Obj} (e : h.get? a = some o) (n : h.get? b = none) : a ≠ b := fun q => by rw [q, n] at e; cases e
theorem IsList.neN {h : Heap} {a b : Addr} {its : Array Value} (x : h.IsList a its) (n : h.get? b = none) : a ≠ b := let ⟨_, e, _⟩ := x; neG e n
theorem PL.neN {h : Heap} {a b : Addr} {its : Array Value} (x : h.PlainList a its) (n : h.get? b = none) : a ≠ b := let ⟨_, e⟩ := x; neG e n
theorem all2 {p : Addr → Prop} {x y : Addr} (a : p x) (b : p y) : ∀ c ∈ [x, y], p c := fun c hc => (List.mem_cons.mp hc).elim (fun e => e ▸ a) fun hc => List.mem_singleton.mp hc ▸ b
theorem all3 {p : Addr → Prop} {x y z : Addr} (a : p x) (b : p y) (d : p z) : ∀ c ∈ [x, y, z], p c := fun c hc => (List.mem_cons.mp hc).elim (fun e => e ▸ a) (all2 b d c)
theorem IsList.upQ {w : World} {mg mb : Str → Option Value} {hE h h' : Heap} {env : Env} {m cm : Str → Option Value} {wr : List Addr} {l : Addr} {its : Array Value} (st : Step w mg mb [env.locals] h h') (F : Fm w mg mb wr hE env m cm h) (x : h.IsList l its) : h'.IsList l its := IsList.upL F st x
theorem IsList.upT {w : World} {mg mb : Str → Option Value} {h h' : Heap} {wr : List Addr} {l : Addr} {its : Array Value} (st : Step w mg mb wr h h') (G : Gd w mg mb h) (x : h.IsList l its) (hw : l ∉ wr) : h'.IsList l its := IsList.up G st x hw

section
variable {prog : Program} {w : World} {A : Around} {E : Value → Shared → Prop} {s : Shared}
theorem nextOf_tup {it t : Addr} {i : Nat} {items : Array Value} {x : Value} {Q : Value → Shared → Prop} (hit : s.heap.IsTupleIter it t i) (ht : s.heap.IsTuple t items) (hx : items[i]? = some x)
    (hQ : ∀ h', h'.IsTupleIter it t (i + 1) → Heap.SameBut it s.heap h' → Q x { s with heap := h' }) : wpAny (model prog w) A (Builtin.SmallTypes.nextOf (.ref it)) Q E s := by
  obtain ⟨o, ho, hc, hd⟩ := id hit
  obtain ⟨ol, hol, _, nl, hdl⟩ := ht
  unfold Builtin.SmallTypes.nextOf
  refine wpAny_bind (wpAny_callSpecial?_slot (name := Str.ofString "__next__") hit.typeIs F.slot_tuple_iterator_next (wpAny_call_entry F.slot_tuple_iterator_next hit.typeIs F.entry_tuple_iterator_next ?_ (F.args_tuple_iterator_next_1 _)))
  show wpAny _ _ (field (.ref it) 0 >>= _) _ _ s
  refine wpAny_bind (wpAny_field ho hd (x := .ref t) rfl ?_)
  show wpAny _ _ (if (Value.ref t == Value.none) = true then _ else _) _ _ s
  rw [if_neg (show ¬ ((Value.ref t == Value.none) = true) from Bool.false_ne_true)]
  show wpAny _ _ (field (.ref it) 1 >>= _) _ _ s
  refine wpAny_bind (wpAny_field ho hd (x := .int i 0) rfl ?_)
  show wpAny _ _ (seqItems? (.ref t) >>= _) _ _ s
  refine wpAny_bind (wpAny_seqItems hol hdl ?_)
  simp only [Int.toNat_natCast, hx]
  refine wpAny_bind (wpAny_setField ho hd (by simp) (wpAny_pure ⟨x, rfl, wpAny_pure (hQ _ ?_ (Heap.SameBut.update ..))⟩))
  exact ⟨_, Heap.get?_update_self _ ho (Obj.isFreed_of_fields (Obj.data_mapFields hd _)), (Obj.cls_mapFields ..).trans hc, by rw [Obj.data_mapFields hd]; simp [rawInt]⟩
theorem nextOf_tupE {it t : Addr} {i : Nat} {items : Array Value} {Q : Value → Shared → Prop} (hh : A.handled = none) (hit : s.heap.IsTupleIter it t i) (ht : s.heap.IsTuple t items) (hx : items[i]? = none)
    (hE : ∀ h' e, Heap.ExtBut it s.heap h' → (∃ o, h'.get? e = some o ∧ o.cls = .type "StopIteration") → E (.ref e) { s with heap := h' }) : wpAny (model prog w) A (Builtin.SmallTypes.nextOf (.ref it)) Q E s := by
  obtain ⟨o, ho, hc, hd⟩ := id hit
  obtain ⟨ol, hol, _, nl, hdl⟩ := ht
  unfold Builtin.SmallTypes.nextOf
  refine wpAny_bind (wpAny_callSpecial?_slot (name := Str.ofString "__next__") hit.typeIs F.slot_tuple_iterator_next (wpAny_call_entry F.slot_tuple_iterator_next hit.typeIs F.entry_tuple_iterator_next ?_ (F.args_tuple_iterator_next_1 _)))
  show wpAny _ _ (field (.ref it) 0 >>= _) _ _ s
  refine wpAny_bind (wpAny_field ho hd (x := .ref t) rfl ?_)
  show wpAny _ _ (if (Value.ref t == Value.none) = true then _ else _) _ _ s
  rw [if_neg (show ¬ ((Value.ref t == Value.none) = true) from Bool.false_ne_true)]
  show wpAny _ _ (field (.ref it) 1 >>= _) _ _ s
  refine wpAny_bind (wpAny_field ho hd (x := .int i 0) rfl ?_)
  show wpAny _ _ (seqItems? (.ref t) >>= _) _ _ s
  refine wpAny_bind (wpAny_seqItems hol hdl ?_)
  simp only [Int.toNat_natCast, hx]
  refine wpAny_bind (wpAny_rule (wpAny_bind (wpAny_setField ho hd (by simp) ?_)))
  show wpAny _ _ (newExc (.type "StopIteration") [] >>= _) _ _ _
  refine wpAny_bind ?_
  simp only [newExc, newTuple]
  refine wpAny_bind (wpAny_newObj_type ?_ (by size_fits))
  refine wpAny_bind (m := firstArgMember _ _) (wpAny_of_eq (a := Value.none) (by first | rfl | (simp only [firstArgMember]; rfl)) ?_)
  refine wpAny_newObj_type ?_ (by size_fits)
  simp only [raiseNew]
  refine wpAny_bind (wpAny_handled ?_)
  first | rw [show A.in1.handled = none from hh] | rw [hh]
  refine wpAny_bind (wpAny_pure (wpAny_throw ?_))
  exact hE _ _ (((Heap.SameBut.update ..).extBut.push _).push _) ⟨_, Heap.get?_push_size _ rfl, rfl⟩
theorem draws_tup (hh : A.handled = none) (it t : Addr) (hne : t ≠ it) (items : Array Value) :
    Draws prog w A it [it, t] items.size (fun i v => items[i]? = some v) (fun i h => h.IsTupleIter it t i ∧ h.IsTuple t items) where
  live := fun _ _ st => let ⟨o, ho, _⟩ := st.1; ⟨o, ho⟩
  frame := fun _ _ _ st hk => ⟨st.1.at fun o e => hk it (by simp) o e, st.2.at fun o e => hk t (by simp) o e⟩
  item := fun i s Q E hi st hQ => nextOf_tup st.1 st.2 (x := items[i]) (by simp [hi]) fun h' hit' hs' => hQ _ h' s.toks (by simp [hi]) ⟨hit', st.2.extBut hs'.extBut hne⟩ hs'
  done := fun s Q E st hE => nextOf_tupE hh st.1 st.2 (by simp) hE

open AutoSeq1 (wpAny_loadPart') in
theorem enumNew_tup (l : Addr) (items : Array Value) (n : Nat) (dct : Option Addr) (sl : Array (Option Value)) :
    Meets (Builtin.«enumerate.__new__» ⟨[.type "enumerate", .ref l], []⟩) (fun _ R s => s.heap.get? l = some { cls := .type "tuple", dict := dct, data := .seq items n, slots := sl } ∧
      R (.ok (.ret (.ref (s.heap.push { cls := .type "tuple_iterator", data := .fields #[.ref l, .int 0 0] }).objs.size)))
        { s with heap := (s.heap.push { cls := .type "tuple_iterator", data := .fields #[.ref l, .int 0 0] }).push { cls := .type "enumerate", data := .fields #[.none, .bool false, .ref s.heap.objs.size, rawInt 0, .none, .none] } }) :=
  .of_wp fun prog w A R s h => by
    obtain ⟨hp, g, d, tk, os⟩ := s; obtain ⟨hl, h⟩ := h
    have hsub := sub_enumerate
    have hL : Heap.IsTuple (Shared.heap ⟨hp, g, d, tk, os⟩) l items := ⟨_, hl, rfl, n, rfl⟩
    wp_walk using wpAny_loadPart' hl
    refine wpAny_stack_any fun st => wpAny_pure ?_
    split
    · rename_i c _ _ _ _ _
      cases (c == Value.type "enumerate")
      · wp_walk using wpAny_loadPart' hl, wpAny_pyIter_tuple hL
        exact ⟨_, rfl, h⟩
      · wp_walk using wpAny_loadPart' hl, wpAny_pyIter_tuple hL
        exact ⟨_, rfl, h⟩
    · wp_walk using wpAny_loadPart' hl, wpAny_pyIter_tuple hL
      exact ⟨_, rfl, h⟩
theorem callEnum_tup {l : Addr} {items : Array Value} {Q : Value → Shared → Prop} (hL : s.heap.IsTuple l items)
    (h : ∀ h', IsEnum h' (s.heap.objs.size + 1) s.heap.objs.size 0 .none → h'.IsTupleIter s.heap.objs.size l 0 → Ext s.heap h' → Q (.ref (s.heap.objs.size + 1)) { s with heap := h' }) :
    wpAny (model prog w) A (call (.type "enumerate") [.ref l]) Q E s := by
  obtain ⟨⟨c, dct, dt, sl⟩, hl, hc, n, hd⟩ := hL
  replace hc : c = .type "tuple" := hc
  replace hd : dt = .seq items n := hd
  subst hc hd
  refine callType_new F.called_enumerate (by decide) (F.typeCall_enumerate_1 _) (F.newCall_enumerate_1 _) (fun obj => F.args_object_init_2 obj _) F.entry_enumerate_new (enumNew_tup l items n dct sl) ⟨hl, ?_⟩
  have hz : (s.heap.push { cls := .type "tuple_iterator", data := .fields #[.ref l, .int 0 0] }).objs.size = s.heap.objs.size + 1 := Heap.size_push ..
  show _ ∧ _
  rw [hz]
  have e1 : ((s.heap.push { cls := .type "tuple_iterator", data := .fields #[.ref l, .int 0 0] }).push { cls := .type "enumerate", data := .fields #[.none, .bool false, .ref s.heap.objs.size, rawInt 0, .none, .none] }).get? (s.heap.objs.size + 1) = some { cls := .type "enumerate", data := .fields #[.none, .bool false, .ref s.heap.objs.size, rawInt 0, .none, .none] } := by
    rw [← hz]; exact Heap.get?_push_size _ rfl
  exact ⟨⟨_, e1, rfl⟩, h _ e1 ⟨_, Heap.get?_push_of_some _ (Heap.get?_push_size _ rfl), rfl, rfl⟩ fun b o e => Heap.get?_push_of_some _ (Heap.get?_push_of_some _ e)⟩
end

section
variable {prog : Program} {w : World} {A : Around} {E : Value → Shared → Prop} {s : Shared}
/-- a zip of two tuples, drawn k times -/
structure ZipT (h : Heap) (z a b i j t1 t2 : Addr) (k : Nat) : Prop where
  Z : IsZip h z a b .none
  A : IsPair h a (.ref i) (.ref j)
  B : ∃ x y, IsPair h b x y
  I : h.IsTupleIter i t1 k
  J : h.IsTupleIter j t2 k
theorem zipT_item {z a b i j t1 t2 : Addr} {k : Nat} {xs ys : Array Value} {x y : Value} {Q : Value → Shared → Prop} (D : ZipApart z a b i j t1 t2) (H : ZipT s.heap z a b i j t1 t2 k)
    (ht1 : s.heap.IsTuple t1 xs) (ht2 : s.heap.IsTuple t2 ys) (hx : xs[k]? = some x) (hy : ys[k]? = some y)
    (hQ : ∀ h' (T : Addr), IsZip h' z a b (rawInt T) → IsPair h' a (.ref i) (.ref j) → (∃ x y, IsPair h' b x y) → h'.IsTupleIter i t1 (k + 1) → h'.IsTupleIter j t2 (k + 1) → IsPair h' T x y → s.heap.get? T = none → T ≠ z →
      (∀ c o, c ≠ z → c ≠ b → c ≠ i → c ≠ j → s.heap.get? c = some o → h'.get? c = some o) → Q (.ref T) { s with heap := h' }) :
    wpAny (model prog w) A (Builtin.«zip.__next__» ⟨[.ref z], []⟩) (fun fin s' => ∃ v, fin = .done (.ret v) ∧ Q v s') E s := by
  obtain ⟨hz, hTI, ⟨p, q, hTO⟩, h1, h2⟩ := H
  show wpAny _ _ (field (.ref z) 2 >>= _) _ _ _
  refine wpAny_bind (wpAny_field hz rfl (x := .bool false) rfl ?_)
  show wpAny _ _ (field (.ref z) 3 >>= _) _ _ _
  refine wpAny_bind (wpAny_field hz rfl (x := .ref a) rfl ?_)
  refine wpAny_bind (wpAny_seqItems hTI rfl ?_)
  show wpAny _ _ (Builtin.SmallTypes.ownedTupleIsFree (.ref z) >>= _) _ _ _
  refine wpAny_bind ?_
  unfold Builtin.SmallTypes.ownedTupleIsFree
  refine wpAny_bind (wpAny_field hz rfl (x := .none) rfl (wpAny_pure ?_))
  simp only [if_true]
  refine wpAny_bind (wpAny_rule ?_)
  refine wpAny_bind (wpAny_field hz rfl (x := .ref b) rfl ?_)
  refine wpAny_bind (wpAny_setField_rec hz (by simp) fun h₁ hz₁ hs₁ => ?_)
  replace hz₁ : IsZip h₁ z a b .ellipsis := hz₁
  refine wpAny_bind ?_
  simp only [List.zipIdx_cons, List.zipIdx_nil, List.forIn_cons, List.forIn_nil]
  refine wpAny_bind (wpAny_bind (wpAny_onRaise ?_))
  show wpAny _ _ (Builtin.SmallTypes.nextOf (.ref i) >>= _) _ _ _
  refine wpAny_bind (nextOf_tup (h1.at fun o e => hs₁.extBut _ o D.i1z e) (ht1.extBut hs₁.extBut D.l1z) hx fun h₂ h1₂ hs₂ => wpAny_pure ?_)
  have hTO₂ : IsPair h₂ b p q := hs₂.extBut _ _ D.TOi1 (hs₁.extBut _ _ D.TOz hTO)
  refine wpAny_bind (wpAny_seqItems hTO₂ rfl ?_)
  refine wpAny_bind (wpAny_updateSeq_pair hTO₂ fun h₃ hTO₃ hs₃ => ?_)
  replace hTO₃ : IsPair h₃ b x q := hTO₃
  refine wpAny_bind (wpAny_letGo (wpAny_pure ?_))
  refine wpAny_bind (wpAny_bind (wpAny_onRaise ?_))
  show wpAny _ _ (Builtin.SmallTypes.nextOf (.ref j) >>= _) _ _ _
  refine wpAny_bind (nextOf_tup (((h2.at fun o e => hs₁.extBut _ o D.i2z e).at fun o e => hs₂.extBut _ o D.i12.symm e).at fun o e => hs₃.extBut _ o D.TOi2.symm e)
    (((ht2.extBut hs₁.extBut D.l2z).extBut hs₂.extBut D.l2i1).extBut hs₃.extBut D.l2TO) hy fun h₄ h2₄ hs₄ => wpAny_pure ?_)
  have hTO₄ : IsPair h₄ b x q := hs₄.extBut _ _ D.TOi2 hTO₃
  refine wpAny_bind (wpAny_seqItems hTO₄ rfl ?_)
  refine wpAny_bind (wpAny_updateSeq_pair hTO₄ fun h₅ hTO₅ hs₅ => ?_)
  replace hTO₅ : IsPair h₅ b x y := hTO₅
  refine wpAny_bind (wpAny_letGo (wpAny_pure (wpAny_pure ?_)))
  refine wpAny_bind (wpAny_seqItems hTO₅ rfl ?_)
  refine wpAny_bind (wpAny_newTuple ?_)
  have hsz : h₅.objs.size = s.heap.objs.size := by rw [hs₅.1, hs₄.1, hs₃.1, hs₂.1, hs₁.1]
  have hz₅ : IsZip h₅ z a b .ellipsis := hs₅.extBut _ _ D.TOz.symm (hs₄.extBut _ _ D.i2z.symm (hs₃.extBut _ _ D.TOz.symm (hs₂.extBut _ _ D.i1z.symm hz₁)))
  have hk₅ : ∀ c o, c ≠ z → c ≠ b → c ≠ i → c ≠ j → s.heap.get? c = some o → h₅.get? c = some o := fun c o c1 c2 c3 c4 e =>
    hs₅.extBut _ _ c2 (hs₄.extBut _ _ c4 (hs₃.extBut _ _ c2 (hs₂.extBut _ _ c3 (hs₁.extBut _ _ c1 e))))
  have h1₅ : h₅.IsTupleIter i t1 (k + 1) := ((h1₂.at fun o e => hs₃.extBut _ o D.TOi1.symm e).at fun o e => hs₄.extBut _ o D.i12 e).at fun o e => hs₅.extBut _ o D.TOi1.symm e
  have h2₅ : h₅.IsTupleIter j t2 (k + 1) := h2₄.at fun o e => hs₅.extBut _ o D.TOi2.symm e
  have hzlt : z < h₅.objs.size := Heap.lt_size hz₅
  show wpAny _ _ (Builtin.SmallTypes.ownedTupleHandOut (.ref z) (.ref h₅.objs.size) >>= _) _ _ _
  refine wpAny_bind ?_
  unfold Builtin.SmallTypes.ownedTupleHandOut
  have hz₆ : IsZip (h₅.push { cls := .type "tuple", data := .seq #[x, y] }) z a b .ellipsis := Heap.get?_push_of_some _ hz₅
  refine wpAny_bind (wpAny_setField_rec hz₆ (by simp) fun h₇ hz₇ hs₇ => ?_)
  replace hz₇ : IsZip h₇ z a b (rawInt h₅.objs.size) := hz₇
  refine wpAny_setField_rec hz₇ (by simp) fun h₈ hz₈ hs₈ => ?_
  replace hz₈ : IsZip h₈ z a b (rawInt h₅.objs.size) := hz₈
  have up : ∀ c o, c ≠ z → h₅.get? c = some o → h₈.get? c = some o := fun c o c1 e => hs₈.extBut _ _ c1 (hs₇.extBut _ _ c1 (Heap.get?_push_of_some _ e))
  have hT₈ : IsPair h₈ h₅.objs.size x y := hs₈.extBut _ _ (Nat.ne_of_gt hzlt) (hs₇.extBut _ _ (Nat.ne_of_gt hzlt) (Heap.get?_push_size _ rfl))
  refine wpAny_pure ⟨_, rfl, ?_⟩
  exact hQ h₈ h₅.objs.size hz₈ (hs₈.extBut _ _ D.TIz (hs₇.extBut _ _ D.TIz (Heap.get?_push_of_some _ (hk₅ _ _ D.TIz D.TITO D.TIi1 D.TIi2 hTI)))) ⟨_, _, up _ _ D.TOz hTO₅⟩ (h1₅.at fun o e => up _ o D.i1z e) (h2₅.at fun o e => up _ o D.i2z e) hT₈
    (Heap.get?_none_of_le (Nat.le_of_eq hsz.symm)) (Nat.ne_of_gt hzlt) fun c o c1 c2 c3 c4 e => up c o c1 (hk₅ c o c1 c2 c3 c4 e)

theorem zipT_end {z a b i j t1 t2 : Addr} {k : Nat} {xs ys : Array Value} {Q : Fin → Shared → Prop} (hh : A.handled = none) (D : ZipApart z a b i j t1 t2) (H : ZipT s.heap z a b i j t1 t2 k)
    (ht1 : s.heap.IsTuple t1 xs) (hx : xs[k]? = none)
    (hE : ∀ h' e, (∀ c o, c ≠ z → c ≠ b → c ≠ i → c ≠ j → s.heap.get? c = some o → h'.get? c = some o) → (∃ o, h'.get? e = some o ∧ o.cls = .type "StopIteration") → E (.ref e) { s with heap := h' }) :
    wpAny (model prog w) A (Builtin.«zip.__next__» ⟨[.ref z], []⟩) Q E s := by
  obtain ⟨hz, hTI, ⟨p, q, hTO⟩, h1, h2⟩ := H
  show wpAny _ _ (field (.ref z) 2 >>= _) _ _ _
  refine wpAny_bind (wpAny_field hz rfl (x := .bool false) rfl ?_)
  show wpAny _ _ (field (.ref z) 3 >>= _) _ _ _
  refine wpAny_bind (wpAny_field hz rfl (x := .ref a) rfl ?_)
  refine wpAny_bind (wpAny_seqItems hTI rfl ?_)
  show wpAny _ _ (Builtin.SmallTypes.ownedTupleIsFree (.ref z) >>= _) _ _ _
  refine wpAny_bind ?_
  unfold Builtin.SmallTypes.ownedTupleIsFree
  refine wpAny_bind (wpAny_field hz rfl (x := .none) rfl (wpAny_pure ?_))
  simp only [if_true]
  refine wpAny_bind (wpAny_rule ?_)
  refine wpAny_bind (wpAny_field hz rfl (x := .ref b) rfl ?_)
  refine wpAny_bind (wpAny_setField_rec hz (by simp) fun h₁ hz₁ hs₁ => ?_)
  replace hz₁ : IsZip h₁ z a b .ellipsis := hz₁
  refine wpAny_bind ?_
  simp only [List.zipIdx_cons, List.zipIdx_nil, List.forIn_cons, List.forIn_nil]
  refine wpAny_bind (wpAny_bind (wpAny_onRaise ?_))
  show wpAny _ _ (Builtin.SmallTypes.nextOf (.ref i) >>= _) _ _ _
  refine wpAny_bind (nextOf_tupE hh (h1.at fun o e => hs₁.extBut _ o D.i1z e) (ht1.extBut hs₁.extBut D.l1z) hx fun h₂ e hs₂ he => ?_)
  obtain ⟨oe, hoe, hce⟩ := he
  have hz₂ : IsZip h₂ z a b .ellipsis := hs₂ _ _ D.i1z.symm hz₁
  have hez : e ≠ z := fun x => by subst x; rw [hz₂] at hoe; cases hoe; simp at hce
  refine wpAny_setField_rec hz₂ (by simp) fun h₃ _ hs₃ => hE h₃ e (fun c o c1 _ c3 _ x => hs₃.extBut _ _ c1 (hs₂ _ _ c3 (hs₁.extBut _ _ c1 x))) ⟨oe, hs₃.extBut _ _ hez hoe, hce⟩

theorem zipT_next {z a b i j t1 t2 : Addr} {k : Nat} {xs ys : Array Value} {x y : Value} {Q : Option Value → Shared → Prop} (D : ZipApart z a b i j t1 t2) (H : ZipT s.heap z a b i j t1 t2 k)
    (ht1 : s.heap.IsTuple t1 xs) (ht2 : s.heap.IsTuple t2 ys) (hx : xs[k]? = some x) (hy : ys[k]? = some y)
    (hQ : ∀ h' (T : Addr), IsZip h' z a b (rawInt T) → IsPair h' a (.ref i) (.ref j) → (∃ x y, IsPair h' b x y) → h'.IsTupleIter i t1 (k + 1) → h'.IsTupleIter j t2 (k + 1) → IsPair h' T x y → s.heap.get? T = none → T ≠ z →
      (∀ c o, c ≠ z → c ≠ b → c ≠ i → c ≠ j → s.heap.get? c = some o → h'.get? c = some o) → Q (some (.ref T)) { s with heap := h' }) : wpAny (model prog w) A (pyNext (.ref z)) Q E s := by
  have hT : s.TypeIs (.ref z) "zip" := ⟨_, H.Z, rfl⟩
  unfold pyNext
  exact wpAny_bind (wpAny_attempt (wpAny_callSpecial?_slot (name := Str.ofString "__next__") hT F.slot_zip_next
    (wpAny_call_entry F.slot_zip_next hT F.entry_zip_next (zipT_item D H ht1 ht2 hx hy fun h' T a1 a2 a3 a4 a5 a6 a7 a8 a9 => wpAny_pure (hQ h' T a1 a2 a3 a4 a5 a6 a7 a8 a9)) (F.args_zip_next_1 _))))
theorem zipT_done {z a b i j t1 t2 : Addr} {k : Nat} {xs : Array Value} {Q : Option Value → Shared → Prop} (hh : A.handled = none) (D : ZipApart z a b i j t1 t2) (H : ZipT s.heap z a b i j t1 t2 k)
    (ht1 : s.heap.IsTuple t1 xs) (hx : xs[k]? = none)
    (hQ : ∀ h', (∀ c o, c ≠ z → c ≠ b → c ≠ i → c ≠ j → s.heap.get? c = some o → h'.get? c = some o) → Q none { s with heap := h' }) : wpAny (model prog w) A (pyNext (.ref z)) Q E s := by
  have hT : s.TypeIs (.ref z) "zip" := ⟨_, H.Z, rfl⟩
  unfold pyNext
  refine wpAny_bind (wpAny_attempt (wpAny_callSpecial?_slot (name := Str.ofString "__next__") hT F.slot_zip_next
    (wpAny_call_entry F.slot_zip_next hT F.entry_zip_next (zipT_end (ys := #[]) hh D H ht1 hx fun h' e hk he => ?_) (F.args_zip_next_1 _))))
  obtain ⟨o, ho, hc⟩ := he
  refine wpAny_bind (wpAny_isInstance (T := "StopIteration") (b := true) ⟨o, ho, hc⟩ isSubtype_stop ?_)
  exact wpAny_pure (hQ _ hk)

abbrev zH1 (h : Heap) (l1 : Addr) : Heap := h.push { cls := .type "tuple_iterator", data := .fields #[.ref l1, .int 0 0] }
abbrev zH2 (h : Heap) (l1 l2 : Addr) : Heap := (zH1 h l1).push { cls := .type "tuple_iterator", data := .fields #[.ref l2, .int 0 0] }
abbrev zH3 (h : Heap) (l1 l2 : Addr) : Heap := (zH2 h l1 l2).push { cls := .type "tuple", data := .seq #[.ref h.objs.size, .ref (zH1 h l1).objs.size] }
abbrev zH4 (h : Heap) (l1 l2 : Addr) : Heap := (zH3 h l1 l2).push { cls := .type "tuple", data := .seq #[.none, .none] }
abbrev zH5 (h : Heap) (l1 l2 : Addr) : Heap := (zH4 h l1 l2).push { cls := .type "zip", data := .fields #[.none, .bool false, .bool false, .ref (zH2 h l1 l2).objs.size, .ref (zH3 h l1 l2).objs.size] }
theorem zipNew_tup (l1 l2 : Addr) (xs ys : Array Value) :
    Meets (Builtin.«zip.__new__» ⟨[.type "zip", .ref l1, .ref l2], []⟩) (fun _ R s => s.heap.IsTuple l1 xs ∧ s.heap.IsTuple l2 ys ∧ R (.ok (.ret (.ref (zH4 s.heap l1 l2).objs.size))) { s with heap := zH5 s.heap l1 l2 }) :=
  .of_wp fun prog w A R s h => by
    obtain ⟨hp, g, d, tk, os⟩ := s; obtain ⟨hl1, hl2, h⟩ := h
    have hsub := sub_zip
    have hL1 : Heap.IsTuple (Shared.heap ⟨hp, g, d, tk, os⟩) l1 xs := hl1
    have hL2 : Heap.IsTuple (Shared.heap ⟨hp.push { cls := .type "tuple_iterator", data := .fields #[.ref l1, .int 0 0] }, g, d, tk, os⟩) l2 ys := Heap.IsTuple.push hl2 _
    wp_walk using wpAny_pyIter_tuple hL1, wpAny_pyIter_tuple hL2
    exact ⟨_, rfl, h⟩
theorem callZip {t1 t2 : Addr} {xs ys : Array Value} {Q : Value → Shared → Prop} (hl1 : s.heap.IsTuple t1 xs) (hl2 : s.heap.IsTuple t2 ys)
    (h : ∀ h' z a b i j, ZipApart z a b i j t1 t2 → ZipT h' z a b i j t1 t2 0 → (s.heap.get? z = none ∧ s.heap.get? a = none ∧ s.heap.get? b = none ∧ s.heap.get? i = none ∧ s.heap.get? j = none) → s.heap.objs.size ≤ i ∧ s.heap.objs.size ≤ j ∧ s.heap.objs.size ≤ b ∧ s.heap.objs.size ≤ z → Ext s.heap h' → Q (.ref z) { s with heap := h' }) :
    wpAny (model prog w) A (call (.type "zip") [.ref t1, .ref t2]) Q E s := by
  refine callType_new F.called_zip (by decide) (F.typeCall_zip_2 _ _) (F.newCall_zip_2 _ _) (fun obj => F.args_object_init_3 obj _ _) F.entry_zip_new (zipNew_tup t1 t2 xs ys) ⟨hl1, hl2, ?_⟩
  have z1 : (zH1 s.heap t1).objs.size = s.heap.objs.size + 1 := Heap.size_push ..
  have z2 : (zH2 s.heap t1 t2).objs.size = s.heap.objs.size + 2 := by rw [Heap.size_push, z1]
  have z3 : (zH3 s.heap t1 t2).objs.size = s.heap.objs.size + 3 := by rw [Heap.size_push, z2]
  have z4 : (zH4 s.heap t1 t2).objs.size = s.heap.objs.size + 4 := by rw [Heap.size_push, z3]
  have g5 : (zH5 s.heap t1 t2).get? (zH4 s.heap t1 t2).objs.size = some _ := Heap.get?_push_size _ rfl
  have g4 : (zH5 s.heap t1 t2).get? (zH3 s.heap t1 t2).objs.size = some _ := Heap.get?_push_of_some _ (Heap.get?_push_size _ rfl)
  have g3 : (zH5 s.heap t1 t2).get? (zH2 s.heap t1 t2).objs.size = some _ := Heap.get?_push_of_some _ (Heap.get?_push_of_some _ (Heap.get?_push_size _ rfl))
  have g2 : (zH5 s.heap t1 t2).get? (zH1 s.heap t1).objs.size = some _ := Heap.get?_push_of_some _ (Heap.get?_push_of_some _ (Heap.get?_push_of_some _ (Heap.get?_push_size _ rfl)))
  have g1 : (zH5 s.heap t1 t2).get? s.heap.objs.size = some _ := Heap.get?_push_of_some _ (Heap.get?_push_of_some _ (Heap.get?_push_of_some _ (Heap.get?_push_of_some _ (Heap.get?_push_size _ rfl))))
  show _ ∧ _
  rw [z2, z3, z4] at g5
  rw [z1, z2] at g3
  rw [z3] at g4
  rw [z1] at g2
  rw [z4]
  have lt1 : t1 < s.heap.objs.size := let ⟨_, e, _⟩ := hl1; Heap.lt_size e
  have lt2 : t2 < s.heap.objs.size := let ⟨_, e, _⟩ := hl2; Heap.lt_size e
  have no : ∀ k, s.heap.get? (s.heap.objs.size + k) = none := fun k => Heap.get?_none_of_le (Nat.le_add_right ..)
  exact ⟨⟨_, g5, rfl⟩, h _ _ _ _ _ _ (zipApart_new lt1 lt2) ⟨g5, g3, ⟨_, _, g4⟩, ⟨_, g1, rfl, rfl⟩, ⟨_, g2, rfl, rfl⟩⟩ ⟨no _, no _, no _, no 0, no _⟩ ⟨Nat.le_refl _, Nat.le_add_right .., Nat.le_add_right .., Nat.le_add_right ..⟩
    fun c o x => Heap.get?_push_of_some _ (Heap.get?_push_of_some _ (Heap.get?_push_of_some _ (Heap.get?_push_of_some _ (Heap.get?_push_of_some _ x))))⟩
end

section
theorem zip_ga : entryFor table "zip.__getattribute__" = some Builtin.«object.__getattribute__» :=
  entryFor_alias (id' := "object.__getattribute__") (by kernel_rfl) (by first | rfl | decide +kernel | (unfold String.splitOn; simp +decide [String.splitOnAux])) (by decide +kernel) (by kernel_rfl)
theorem zip_keys : typeLookup (.type "zip") "keys" = pure none := by rw [typeLookup_type, builtinLookup_eq_fast]; kernel_rfl
theorem zip_hook : typeLookup (.type "zip") "__getattr__" = pure none := by rw [typeLookup_type, builtinLookup_eq_fast]; kernel_rfl
variable {prog : Program} {w : World} {A : Around} {E : Value → Shared → Prop} {h : Heap} {g : Array GenState} {d : Drawn} {t : Nat} {os : OsState}
theorem sub_ae : isSubtype (.type "AttributeError") (.type "AttributeError") = pure true := by rw [isSubtype_type]; kernel_rfl
theorem raiseAttr {o : Value} {name msg : Str} {α : Type} {Q : α → Shared → Prop} (hm : msg.length ≤ sizeLine) (hh : A.handled = none)
    (k : ∀ h' e tk', Ext h h' → (∃ o, h'.get? e = some o ∧ o.cls = .type "AttributeError") → E (.ref e) ⟨h', g, d, tk', os⟩) : wpAny (model prog w) A (raiseAttrError o name msg) Q E ⟨h, g, d, t, os⟩ := by
  unfold raiseAttrError
  repeat (any_goals (first | assumption | wp_step))
  refine wpAny_of_eq sub_ae ?_
  repeat (any_goals (first | assumption | wp_step))
  unfold raiseNew
  refine wpAny_bind (wpAny_handled ?_)
  rw [hh]
  refine wpAny_bind (wpAny_pure (wpAny_throw ?_))
  have hs : ∀ (h₂ : Heap) (a : Addr) (f : Obj → Obj) (b : Addr) (o : Obj), b ≠ a → h₂.get? b = some o → (h₂.update a f).get? b = some o := fun h₂ a f b o hb e => ((Heap.SameBut.update ..).2 b hb).trans e
  refine k _ _ _ (fun b o e => hs _ _ _ b o ?_ (Heap.get?_push_of_some _ (Heap.get?_push_of_some _ e))) ⟨_, Heap.get?_update_self _ (Heap.get?_push_size _ rfl) (Obj.isFreed_of_fields (Obj.data_mapFields rfl _)), rfl⟩
  rw [Heap.size_push]
  exact Nat.ne_of_lt (Nat.lt_succ_of_lt (Heap.lt_size e))
theorem zip_entry {z a b : Addr} {f : Value} {tk : Tok} {Q : Fin → Shared → Prop} (hh : A.handled = none) (hz : IsZip h z a b f)
    (k : ∀ h' e tk', Ext h h' → (∃ o, h'.get? e = some o ∧ o.cls = .type "AttributeError") → E (.ref e) ⟨h', g, d, tk', os⟩) :
    wpAny (model prog w) A (Builtin.«object.__getattribute__» ⟨[.ref z, .str "keys" tk], []⟩) Q E ⟨h, g, d, t, os⟩ := by
  have hT : (⟨h, g, d, t, os⟩ : Shared).TypeIs (.ref z) "zip" := ⟨_, hz, rfl⟩
  have f4 := zip_keys
  repeat (any_goals (first | assumption | wp_step))
  exact raiseAttr (by decide +kernel) hh k
theorem zip_call {z a b : Addr} {f : Value} {tk : Tok} {R : Result → Shared → Prop} (hh : A.handled = none) (hz : IsZip h z a b f)
    (k : ∀ h' e tk', Ext h h' → (∃ o, h'.get? e = some o ∧ o.cls = .type "AttributeError") → R (.error (.ref e)) ⟨h', g, d, tk', os⟩) :
    codeAny (model prog w) A (.call (.builtin "zip.__getattribute__") ⟨[.ref z, .str "keys" tk], []⟩) R ⟨h, g, d, t, os⟩ :=
  codeAny_call_builtin F.slot_zip_getattribute.plain zip_ga (F.slot_zip_getattribute.check _ _ _ _ _ _ _ _ (show (⟨h, g, d, t, os⟩ : Shared).TypeIs (.ref z) "zip" from ⟨_, hz, rfl⟩) (F.args_zip_getattribute_2 _ _) (zip_entry hh hz k))
theorem zip_by {z a b : Addr} {f : Value} {tk : Tok} {Q : Value → Shared → Prop} (hh : A.handled = none) (hz : IsZip h z a b f)
    (k : ∀ h' e tk', Ext h h' → (∃ o, h'.get? e = some o ∧ o.cls = .type "AttributeError") → E (.ref e) ⟨h', g, d, tk', os⟩) :
    wpAny (model prog w) A (getAttrBy (.ref z) (.str "keys" tk) false) Q E ⟨h, g, d, t, os⟩ := by
  have hT : (⟨h, g, d, t, os⟩ : Shared).TypeIs (.ref z) "zip" := ⟨_, hz, rfl⟩
  have f2 := F.slot_zip_getattribute.lookup
  have f3 := F.slot_zip_getattribute.bind (.ref z)
  have f4 := zip_hook
  repeat (any_goals (first | assumption | wp_step))
  refine zip_call hh hz fun h' e tk' ex he => ?_
  obtain ⟨o, ho, hc⟩ := he
  show wpAny _ _ (getattributeRaised _ _ _ _ _ _ _) _ _ _
  unfold getattributeRaised
  refine wpAny_bind (wpAny_isInstance (T := "AttributeError") (b := true) ⟨o, ho, hc⟩ sub_ae ?_)
  simp only [if_true]
  have f5 : hookBehind (.type "zip") none = pure none := zip_hook
  refine wpAny_bind (wpAny_of_eq f5 ?_)
  unfold hookOrError attributeErrorLeaves
  simp only [Bool.not_false, if_true]
  exact wpAny_throw (k h' e tk' ex ⟨o, ho, hc⟩)
theorem zip_keys? {z a b : Addr} {f : Value} {Q : Option Value → Shared → Prop} (hh : A.handled = none) (hz : IsZip h z a b f)
    (k : ∀ h' tk', Ext h h' → Q none ⟨h', g, d, tk', os⟩) : wpAny (model prog w) A (getAttr? (.ref z) "keys") Q E ⟨h, g, d, t, os⟩ := by
  unfold getAttr? getAttrBy?
  refine wpAny_bind (fun _ _ _ => ?_)
  refine wpAny_bind (wpAny_attempt (zip_by hh hz fun h' e tk' ex he => ?_))
  obtain ⟨o, ho, hc⟩ := he
  refine wpAny_bind (wpAny_isInstance (T := "AttributeError") (b := true) ⟨o, ho, hc⟩ sub_ae ?_)
  exact wpAny_pure (k h' tk' ex)
end

section
theorem dul_entry : entryFor table "dict.update.loop" = some Builtin.«dict.update.loop» := entryFor_of_tree (by kernel_rfl)
variable {prog : Program} {w : World} {A : Around} {E : Value → Shared → Prop} {h : Heap} {g : Array GenState} {d : Drawn} {t : Nat} {os : OsState}
/-- the loop's end -/
theorem dul_end {D z a b i j t1 t2 : Addr} {k : Nat} {n : Int} {xs : Array Value} {R : Result → Shared → Prop} (hh : A.handled = none) (P : ZipApart z a b i j t1 t2) (H : ZipT h z a b i j t1 t2 k) (ht1 : h.IsTuple t1 xs) (hx : xs[k]? = none)
    (q : ∀ h', (∀ c o, c ≠ z → c ≠ b → c ≠ i → c ≠ j → h.get? c = some o → h'.get? c = some o) → R (.ok (.ret .none)) ⟨h', g, d, t, os⟩) :
    codeAny (model prog w) A (.builtin "dict.update.loop" ⟨[.ref D, .ref z, rawInt n, .none], []⟩) R ⟨h, g, d, t, os⟩ := by
  refine codeAny_builtin dul_entry ?_
  show wpAny _ _ (pyNext (.ref z) >>= _) _ _ _
  refine wpAny_bind (zipT_done (show (A.under _).handled = none from hh) P H ht1 hx fun h' hk => ?_)
  exact wpAny_bind (wpAny_pure (wpAny_pure (q h' hk)))
theorem loadAlive {s : Shared} {a : Addr} {Q : Option Obj → Shared → Prop} (k : Q (s.heap.get? a) s) : wpAny (model prog w) A (loadIfAlive a) Q E s := fun _ _ _ => k
/-- the end, when the pair handed out lives on -/
theorem zipT_endO {z a b i j T t1 t2 : Addr} {k : Nat} {xs : Array Value} {Q : Fin → Shared → Prop} (hh : A.handled = none) (D : ZipApart z a b i j t1 t2) (hz : IsZip h z a b (rawInt T)) (hT : ∃ o, h.get? T = some o) (hTI : IsPair h a (.ref i) (.ref j))
    (h1 : h.IsTupleIter i t1 k) (ht1 : h.IsTuple t1 xs) (hx : xs[k]? = none)
    (hE : ∀ h' e, (∀ c o, c ≠ z → c ≠ i → h.get? c = some o → h'.get? c = some o) → (∃ o, h'.get? e = some o ∧ o.cls = .type "StopIteration") → E (.ref e) ⟨h', g, d, t, os⟩) :
    wpAny (model prog w) A (Builtin.«zip.__next__» ⟨[.ref z], []⟩) Q E ⟨h, g, d, t, os⟩ := by
  show wpAny _ _ (field (.ref z) 2 >>= _) _ _ _
  refine wpAny_bind (wpAny_field hz rfl (x := .bool false) rfl ?_)
  show wpAny _ _ (field (.ref z) 3 >>= _) _ _ _
  refine wpAny_bind (wpAny_field hz rfl (x := .ref a) rfl ?_)
  refine wpAny_bind (wpAny_seqItems hTI rfl ?_)
  show wpAny _ _ (Builtin.SmallTypes.ownedTupleIsFree (.ref z) >>= _) _ _ _
  refine wpAny_bind ?_
  unfold Builtin.SmallTypes.ownedTupleIsFree
  refine wpAny_bind (wpAny_field hz rfl (x := rawInt T) rfl ?_)
  obtain ⟨oT, hoT⟩ := hT
  show wpAny _ _ (loadIfAlive T >>= _) _ _ _
  refine wpAny_bind (loadAlive ?_)
  rw [show (⟨h, g, d, t, os⟩ : Shared).heap.get? T = some oT from hoT]
  simp only [Option.isNone_some, Bool.false_eq_true, if_false]
  refine wpAny_bind (wpAny_field hz rfl (x := .bool false) rfl ?_)
  rw [if_pos (by decide)]
  refine wpAny_bind (wpAny_setField_rec hz (by simp) fun h₁ hz₁ hs₁ => wpAny_pure ?_)
  simp only [Bool.false_eq_true, if_false]
  rw [← Array.forIn_toList]
  simp only [List.forIn_cons]
  refine wpAny_bind (wpAny_bind (wpAny_bind (wpAny_holding ?_)))
  show wpAny _ _ (Builtin.SmallTypes.nextOf (.ref i) >>= _) _ _ _
  refine wpAny_bind (nextOf_tupE hh (h1.at fun o e => hs₁.extBut _ o D.i1z e) (ht1.extBut hs₁.extBut D.l1z) hx fun h₂ e hs₂ he => ?_)
  exact hE h₂ e (fun c o c1 c3 x => hs₂ _ _ c3 (hs₁.extBut _ _ c1 x)) he
/-- one pair -/
theorem dul_one {D z a b i j t1 t2 : Addr} {k : Nat} {n : Int} {xs ys : Array Value} {x : Str} {u : Tok} {y : Value} {kvs : List (Str × Value)} {R : Result → Shared → Prop} (P : ZipApart z a b i j t1 t2) (H : ZipT h z a b i j t1 t2 k) (ht1 : h.IsTuple t1 xs) (ht2 : h.IsTuple t2 ys)
    (hx : xs[k]? = some (.str x u)) (hy : ys[k]? = some y) (hD : Dct prog w h D kvs) (hsz : kvs.length ≤ sizeLine) (hDz : D ≠ z ∧ D ≠ a ∧ D ≠ b ∧ D ≠ i ∧ D ≠ j)
    (q : ∀ h' (T : Addr), IsZip h' z a b (rawInt T) → IsPair h' a (.ref i) (.ref j) → (∃ o, h'.get? T = some o) → h'.IsTupleIter i t1 (k + 1) → (∀ c o, c ≠ z → c ≠ b → c ≠ i → c ≠ j → c ≠ D → h.get? c = some o → h'.get? c = some o) → Dct prog w h' D (stored kvs x y) →
      codeAny (model prog w) A (.builtin "dict.update.loop" ⟨[.ref D, .ref z, rawInt (n + 1), .none], []⟩) R ⟨h', g, d, t + 1, os⟩) :
    codeAny (model prog w) A (.builtin "dict.update.loop" ⟨[.ref D, .ref z, rawInt n, .none], []⟩) R ⟨h, g, d, t, os⟩ := by
  refine codeAny_builtin dul_entry ?_
  show wpAny _ _ (pyNext (.ref z) >>= _) _ _ _
  refine wpAny_bind (zipT_next P H ht1 ht2 hx hy fun h' T a1 a2 a3 a4 a5 a6 a7 a8 a9 => ?_)
  refine wpAny_bind (wpAny_holding ?_)
  refine wpAny_bind (wpAny_tryCatch ?_)
  unfold Builtin.Dict.pairItems
  refine wpAny_bind (wpAny_typeOf (show (⟨h', g, d, t, os⟩ : Shared).TypeIs (.ref T) "tuple" from ⟨_, a6, rfl⟩) ?_)
  rw [if_pos (by decide)]
  refine wpAny_bind (wpAny_seqItems a6 rfl (wpAny_pure ?_))
  show wpAny _ _ (holding [Value.str x u, y] (dictSet D (.str x u) y)) _ _ _
  have hD' : Dct prog w h' D kvs := Dct.at hD fun o e => a9 D o hDz.1 hDz.2.2.1 hDz.2.2.2.1 hDz.2.2.2.2 e
  refine wpAny_holding (wpAny_dictSet_pairs (strKind_is prog w x u) hD' (fun h₂ hd₂ hs => ?_) hsz)
  refine wpAny_pure ⟨Code.quiet_builtin _ (by decide +kernel), ?_⟩
  exact q h₂ T (hs.extBut _ _ hDz.1.symm a1) (hs.extBut _ _ hDz.2.1.symm a2) ⟨_, hs.extBut _ _ (fun e => by rw [e, hD.there.choose_spec] at a7; cases a7) a6⟩ (a4.at fun o e => hs.extBut _ o hDz.2.2.2.1.symm e)
    (fun c o c1 c2 c3 c4 c5 e => hs.extBut _ _ c5 (a9 c o c1 c2 c3 c4 e)) hd₂
theorem zipO_done {z a b i j T t1 t2 : Addr} {k : Nat} {xs : Array Value} {Q : Option Value → Shared → Prop} (hh : A.handled = none) (D : ZipApart z a b i j t1 t2) (hz : IsZip h z a b (rawInt T)) (hT : ∃ o, h.get? T = some o) (hTI : IsPair h a (.ref i) (.ref j))
    (h1 : h.IsTupleIter i t1 k) (ht1 : h.IsTuple t1 xs) (hx : xs[k]? = none)
    (hQ : ∀ h', (∀ c o, c ≠ z → c ≠ i → h.get? c = some o → h'.get? c = some o) → Q none ⟨h', g, d, t, os⟩) : wpAny (model prog w) A (pyNext (.ref z)) Q E ⟨h, g, d, t, os⟩ := by
  have hT' : (⟨h, g, d, t, os⟩ : Shared).TypeIs (.ref z) "zip" := ⟨_, hz, rfl⟩
  unfold pyNext
  refine wpAny_bind (wpAny_attempt (wpAny_callSpecial?_slot (name := Str.ofString "__next__") hT' F.slot_zip_next
    (wpAny_call_entry F.slot_zip_next hT' F.entry_zip_next (zipT_endO hh D hz hT hTI h1 ht1 hx fun h' e hk he => ?_) (F.args_zip_next_1 _))))
  obtain ⟨o, ho, hc⟩ := he
  refine wpAny_bind (wpAny_isInstance (T := "StopIteration") (b := true) ⟨o, ho, hc⟩ isSubtype_stop ?_)
  exact wpAny_pure (hQ _ hk)
theorem dul_endO {D z a b i j T t1 t2 : Addr} {k : Nat} {n : Int} {xs : Array Value} {R : Result → Shared → Prop} (hh : A.handled = none) (P : ZipApart z a b i j t1 t2) (hz : IsZip h z a b (rawInt T)) (hT : ∃ o, h.get? T = some o) (hTI : IsPair h a (.ref i) (.ref j))
    (h1 : h.IsTupleIter i t1 k) (ht1 : h.IsTuple t1 xs) (hx : xs[k]? = none)
    (q : ∀ h', (∀ c o, c ≠ z → c ≠ i → h.get? c = some o → h'.get? c = some o) → R (.ok (.ret .none)) ⟨h', g, d, t, os⟩) :
    codeAny (model prog w) A (.builtin "dict.update.loop" ⟨[.ref D, .ref z, rawInt n, .none], []⟩) R ⟨h, g, d, t, os⟩ := by
  refine codeAny_builtin dul_entry ?_
  show wpAny _ _ (pyNext (.ref z) >>= _) _ _ _
  refine wpAny_bind (zipO_done (show (A.under _).handled = none from hh) P hz hT hTI h1 ht1 hx fun h' hk => ?_)
  exact wpAny_bind (wpAny_pure (wpAny_pure (q h' hk)))

/-- dict of a zip of two tuples of one length, at most one -/
theorem callDZ {h₁ : Heap} {z a b i j t1 t2 : Addr} {xs : List (Str × Tok)} {ys : List Value} {Q : Value → Shared → Prop} (hh : A.handled = none) (P : ZipApart z a b i j t1 t2) (H : ZipT h z a b i j t1 t2 0)
    (ht1 : h.IsTuple t1 (xs.map fun p => Value.str p.1 p.2).toArray) (ht2 : h.IsTuple t2 ys.toArray) (hl : xs.length = ys.length) (hn : xs.length ≤ 1) (ex : Ext h₁ h)
    (hw : h₁.get? z = none ∧ h₁.get? a = none ∧ h₁.get? b = none ∧ h₁.get? i = none ∧ h₁.get? j = none) (sz : 242 ≤ h₁.objs.size) (hsz : h₁.objs.size ≤ h.objs.size)
    (q : ∀ D h' tk', Ext h₁ h' → h₁.get? D = none → 241 < D → Dct prog w h' D ((xs.map (·.1)).zip ys) → Q (.ref D) ⟨h', g, d, tk', os⟩) :
    wpAny (model prog w) A (call (.type "dict") [.ref z]) Q E ⟨h, g, d, t, os⟩ := by
  refine callType_codes (Q₁ := fun obj s₁ => obj = .ref h.objs.size ∧ s₁ = ⟨h.push { cls := .type "dict", data := .dict #[] }, g, d, t, os⟩) F.kt_called_dict (F.kt_typeCall_dict_1 _) F.entry_dict_init (kt_code_dict_new _ ⟨rfl, rfl⟩) ?_
  rintro obj s₁ ⟨rfl, rfl⟩
  have hnew : Dct prog w (h.push { cls := .type "dict", data := .dict #[] }) h.objs.size [] := Heap.DictOf.new h
  have up : Ext h (h.push { cls := .type "dict", data := .dict #[] }) := Ext.push _ _
  generalize hh2 : h.push { cls := .type "dict", data := .dict #[] } = h₂ at hnew up ⊢
  have hz₂ : IsZip h₂ z a b .none := up _ _ H.Z
  have ne : ∀ {c : Addr} {o : Obj}, h.get? c = some o → h.objs.size ≠ c := fun e q => by rw [← q, Heap.get?_none_of_le (Nat.le_refl _)] at e; cases e
  have hDn : h₁.get? h.objs.size = none := by
    cases e : h₁.get? h.objs.size with
    | none => rfl
    | some o => exact absurd rfl (ne (ex _ _ e))
  obtain ⟨hz, hTI, ⟨p1, p2, hTO⟩, h1, h2⟩ := H
  refine ⟨hnew.typeIs, F.args_dict_init_2 _ _, ?_⟩
  unfold Builtin.«dict.__init__»
  refine wpAny_bind ?_
  unfold Builtin.Dict.selfAndRest
  refine wpAny_bind (wpAny_notOrdered_dict hnew.typeIs ?_)
  show wpAny _ _ (pure (h.objs.size, [Value.ref z])) _ _ _
  refine wpAny_pure ?_
  show wpAny _ _ (Builtin.Dict.updateFrom "dict.__init__" h.objs.size (.ref z) [] .none) _ _ _
  unfold Builtin.Dict.updateFrom
  refine wpAny_bind (wpAny_typeOf (show (⟨h₂, g, d, t, os⟩ : Shared).TypeIs (.ref z) "zip" from ⟨_, hz₂, rfl⟩) ?_)
  rw [if_pos (by decide)]
  refine wpAny_bind (zip_keys? (show A.in1.in1.handled = none from hh) hz₂ fun h₃ tk₃ e3 => ?_)
  rw [if_pos (by rfl)]
  refine wpAny_bind (wpAny_rule (wpAny_bind (wpAny_pyIter_zip (s := ⟨h₃, g, d, tk₃, os⟩) (e3 _ _ hz₂) ?_)))
  have up3 : Ext h h₃ := up.trans e3
  have H₃ : ZipT h₃ z a b i j t1 t2 0 := ⟨up3 _ _ hz, up3 _ _ hTI, ⟨_, _, up3 _ _ hTO⟩, h1.at fun o e => up3 _ o e, h2.at fun o e => up3 _ o e⟩
  have ht1₃ := ht1.at fun o e => up3 _ o e
  have ht2₃ := ht2.at fun o e => up3 _ o e
  have hD₃ : Dct prog w h₃ h.objs.size [] := Dct.at hnew fun o e => e3 _ o e
  have offs : ∀ c o, h₁.get? c = some o → c ≠ z ∧ c ≠ a ∧ c ≠ b ∧ c ≠ i ∧ c ≠ j ∧ c ≠ h.objs.size := fun c o e =>
    have no : ∀ {x : Addr}, h₁.get? x = none → c ≠ x := fun hx q => by rw [q, hx] at e; cases e
    ⟨no hw.1, no hw.2.1, no hw.2.2.1, no hw.2.2.2.1, no hw.2.2.2.2, no hDn⟩
  have hD241 : 241 < h.objs.size := Nat.lt_of_lt_of_le (by decide) (Nat.le_trans sz hsz)
  refine wpAny_pure ⟨Code.quiet_builtin _ (by decide +kernel), ?_⟩
  have ni := ne (let ⟨o, e, _⟩ := h1; ⟨o, e⟩ : ∃ o, h.get? i = some o).choose_spec
  have nj := ne (let ⟨o, e, _⟩ := h2; ⟨o, e⟩ : ∃ o, h.get? j = some o).choose_spec
  have n1 := ne (let ⟨o, e, _⟩ := ht1; ⟨o, e⟩ : ∃ o, h.get? t1 = some o).choose_spec
  have fin0 : ∀ h' : Heap, (∀ c o, c ≠ z → c ≠ b → c ≠ i → c ≠ j → h₃.get? c = some o → h'.get? c = some o) → Ext h₁ h' := fun h' hk c o e => let k := offs c o e; hk c o k.1 k.2.2.1 k.2.2.2.1 k.2.2.2.2.1 (up3 _ _ (ex _ _ e))
  have fin1 : ∀ h' h'' : Heap, (∀ c o, c ≠ z → c ≠ b → c ≠ i → c ≠ j → c ≠ h.objs.size → h₃.get? c = some o → h'.get? c = some o) → (∀ c o, c ≠ z → c ≠ i → h'.get? c = some o → h''.get? c = some o) → Ext h₁ h'' := fun h' h'' z5 hk c o e =>
    let k := offs c o e; hk c o k.1 k.2.2.2.1 (z5 c o k.1 k.2.2.1 k.2.2.2.1 k.2.2.2.2.1 k.2.2.2.2.2 (up3 _ _ (ex _ _ e)))
  cases xs with
  | nil =>
    cases ys with
    | cons y ys => cases hl
    | nil =>
      refine dul_end hh P H₃ ht1₃ rfl fun h' hk => ?_
      refine ⟨rfl, q _ h' _ (fin0 h' hk) hDn hD241 ?_⟩
      exact Dct.at hD₃ fun o e => hk _ o (ne hz) (ne hTO) ni nj e
  | cons p xs =>
    cases xs with
    | cons p2 xs => exact absurd hn (by simp)
    | nil =>
      cases ys with
      | nil => cases hl
      | cons y ys =>
        cases ys with
        | cons y2 ys => cases hl
        | nil =>
          refine dul_one P H₃ ht1₃ ht2₃ rfl rfl hD₃ (by decide) ⟨ne hz, ne hTI, ne hTO, ni, nj⟩ fun h' T z1 z2 z3 z4 z5 z6 => ?_
          have ht1' := ht1₃.at fun o e => z5 _ o P.l1z P.l1TO P.l1i1 P.l1i2 n1.symm e
          refine dul_endO hh P z1 z3 z2 z4 ht1' ?_ fun h'' hk => ?_
          · rfl
          · refine ⟨rfl, q _ h'' _ (fin1 h' h'' z5 hk) hDn hD241 ?_⟩
            exact Dct.at z6 fun o e => hk _ o (ne hz) ni e
end

section
variable (w : World) (mg mb : Str → Option Value) (hE : Heap) (env : Env) (m cm : Str → Option Value) (wr : List Addr) (g : Array GenState) (d : Drawn) (os : OsState)
inductive ZI1 (names : List Str) (J : Heap → Prop) (h₁ : Heap) (z a b i j t1 t2 : Addr) (v1 : Value) (s' : Shared) : Prop where
  | mk (h₄ : Heap) (tk₄ : Nat) (u : Str → Option Value) : s' = ⟨h₄, g, d, tk₄, os⟩ → Fm w mg mb wr hE env (ovr names u m) cm h₄ → J h₄ → ZipT h₄ z a b i j t1 t2 1 → h₄.IsTuple t1 #[v1] →
    (∀ b o, h₁.get? b = some o → o.cls = .type "tuple" → (∃ vs n, o.data = .seq vs n) → h₄.get? b = some o) → ZI1 names J h₁ z a b i j t1 t2 v1 s'
variable (prog : Program) (A : Around)
inductive Z1H (E : Value → Shared → Prop) (x y : Str) (body rest : List Stmt) (Q : Flow → Shared → Prop) (names : List Str) (wr' : List Addr) (xv : Value) (s₁ : Shared) : Prop where
  | mk (h₁ h₂ : Heap) (tk₁ : Nat) (z a b i j t1 t2 : Addr) (v1 v2 : Value) : xv = .ref z →
    s₁ = ⟨h₂, g, d, tk₁, os⟩ →
    Fm w mg mb wr hE env m cm h₁ →
    Ext h₁ h₂ →
    ZipApart z a b i j t1 t2 →
    ZipT h₂ z a b i j t1 t2 0 →
    (h₁.get? z = none ∧ h₁.get? a = none ∧ h₁.get? b = none ∧ h₁.get? i = none ∧ h₁.get? j = none) →
    (h₁.objs.size ≤ i ∧ h₁.objs.size ≤ j ∧ h₁.objs.size ≤ b ∧ h₁.objs.size ≤ z) →
    IsTup h₁ t1 #[v1] →
    IsTup h₁ t2 #[v2] →
    (∀ a ∈ wr', (∃ o, h₁.get? a = some o) ∧ a ∈ wr) →
    t1 ∉ wr' →
    (J : Heap → Prop) → (∀ ha hb, (∀ b o, (∃ o', h₁.get? b = some o') → ha.get? b = some o → hb.get? b = some o) → J ha → J hb) →
    (∀ h₃ tk₃ E', Step w mg mb [] h₁ h₃ → Fm w mg mb wr hE env m cm h₃ → Fm w mg mb (env.locals :: wr') h₃ env m cm h₃ → wpAny (model prog w) A (storeName env x v1) (fun _ s₂ => wpAny (model prog w) A (storeName env y v2) (fun _ s₂ => wpAny (model prog w) A (execs body env) (Turn (LpP w mg mb g d os (env.locals :: wr') h₃ env m cm names J) fun v s₃ => Q (.ret v) s₃) E' s₂) E' s₂) E' ⟨h₃, g, d, tk₃, os⟩) →
    (∀ u h' tk', J h' → (∀ b o, h₁.get? b = some o → o.cls = .type "tuple" → (∃ vs n, o.data = .seq vs n) → h'.get? b = some o) → Fm w mg mb wr hE env (ovr names u m) cm h' → wpAny (model prog w) A (execs rest env) Q E ⟨h', g, d, tk', os⟩) → Z1H E x y body rest Q names wr' xv s₁
inductive Z0H (E : Value → Shared → Prop) (rest : List Stmt) (Q : Flow → Shared → Prop) (xv : Value) (s₁ : Shared) : Prop where
  | mk (h₁ h₂ : Heap) (tk₁ : Nat) (z a b i j t1 t2 : Addr) : xv = .ref z →
    s₁ = ⟨h₂, g, d, tk₁, os⟩ →
    Fm w mg mb wr hE env m cm h₁ →
    Ext h₁ h₂ →
    ZipApart z a b i j t1 t2 →
    ZipT h₂ z a b i j t1 t2 0 →
    (h₁.get? z = none ∧ h₁.get? a = none ∧ h₁.get? b = none ∧ h₁.get? i = none ∧ h₁.get? j = none) →
    IsTup h₁ t1 #[] →
    (∀ h' tk', Step w mg mb [] h₁ h' → Fm w mg mb wr hE env m cm h' → wpAny (model prog w) A (execs rest env) Q E ⟨h', g, d, tk', os⟩) → Z0H E rest Q xv s₁
end
section
variable {prog : Program} {w : World} {mg mb : Str → Option Value} {A : Around} {E : Value → Shared → Prop} {hE h hS : Heap} {env : Env} {m cm : Str → Option Value} {wr wr₀ : List Addr}
  {g : Array GenState} {d : Drawn} {tk : Nat} {os : OsState}

/-- a heap moved at four new objects, none of which is a code record -/
theorem Fm.moved {L : List Addr} {m' : Str → Option Value} {h₁ h₄ h₅ : Heap} (F₁ : Fm w mg mb wr hE env m cm h₁) (F : Fm w mg mb wr hE env m' cm h₄) (hL : ∀ a ∈ L, 241 < a ∧ h₁.get? a = none ∧ ∀ o, h₄.get? a = some o → ∀ vs, o.data = .fields vs → ∀ x t, vs[1]? ≠ some (.str x t))
    (k : ∀ b o, b ∉ L → h₄.get? b = some o → h₅.get? b = some o) : Fm w mg mb wr hE env m' cm h₅ := by
  have off : ∀ {b : Addr}, (∃ o, h₁.get? b = some o) → b ∉ L := fun ⟨o, e⟩ q => by rw [(hL _ q).2.1] at e; cases e
  have oE : ∀ b o, b ≠ 87 → b ∉ wr → hE.get? b = some o → b ∉ L := fun b o h1 h2 e => off ⟨o, F₁.st.keep b o h1 h2 e⟩
  refine ⟨F.ns.at' fun o e => k _ o (off ?_) e, fun n c hc => let ⟨o, e, q⟩ := F.cell n c hc; ⟨o, k c o (off (let ⟨o, e, _⟩ := F₁.cell n c hc; ⟨o, e⟩)) e, q⟩, F.ca, F.lo, F.new, ⟨?_, ?_, fun G => (F.st.gd G).buts k (fun a q => (hL a q).1) fun a q => (hL a q).2.2⟩, F.GE⟩
  · obtain ⟨o, _, _, e, _⟩ := F₁.ns; exact ⟨o, e⟩
  · exact fun b o h1 h2 e => k b o (oE b o h1 h2 e) (F.st.keep b o h1 h2 e)
  · exact fun b o e c q => k b o (off ⟨o, F₁.st.tk b o e c q⟩) (F.st.tk b o e c q)

/-- a for loop over a zip of two tuples of one value each -/
theorem xForZ1 {iter : Expr} {x y : Str} {px py pt : Pos} {kt : Nat} {body rest : List Stmt} {pos : Pos} {n : Nat} {Q : Flow → Shared → Prop} (_F : Fm w mg mb wr hE env m cm h) (names : List Str) (wr' : List Addr) (hA : Cx A n) (hs : ∀ x, foldedSetIterable iter env x = pure x)
    (k : wpAny (model prog w) A (eval iter env) (fun xv s₁ => Z1H w mg mb hE env m cm wr g d os prog A E x y body rest Q names wr' xv s₁) E ⟨h, g, d, tk, os⟩) :
    wpAny (model prog w) A (execs (.For (.Tuple [.Name x px, .Name y py] kt pt) iter body [] pos :: rest) env) Q E ⟨h, g, d, tk, os⟩ := by
  refine xCons (wpAny_For (wpAny_mono k (fun xv s₁ hk => ?_) fun _ _ e => e) hs)
  obtain ⟨h₁, h₂, tk₁, z, a, b, i, j, t1, t2, v1, v2, rfl, rfl, F₁, ex, P, H, hw, hge, hT1, hT2, hww, ht1w, J, hJ, turn, fin⟩ := hk
  refine wpAny_pyIter_zip (s := ⟨h₂, g, d, tk₁, os⟩) H.Z ?_
  have sz : (242 : Nat) ≤ h₁.objs.size := F₁.G.sz
  have big : ∀ {a : Addr}, h₁.objs.size ≤ a → 241 < a ∧ a ≠ 87 := fun q => ⟨Nat.lt_of_lt_of_le (by decide) (Nat.le_trans sz q), Nat.ne_of_gt (Nat.lt_of_lt_of_le (by decide) (Nat.le_trans sz q))⟩
  have nw : ∀ {a : Addr}, h₁.get? a = none → a ∉ env.locals :: wr' := fun {a} e q => by
    rcases List.mem_cons.mp q with rfl | q
    · obtain ⟨o, _, _, e', _⟩ := F₁.ns; rw [e] at e'; cases e'
    · obtain ⟨⟨o, e'⟩, _⟩ := hww a q; rw [e] at e'; cases e'
  refine codeAny_forLoop_any (fun k s' => (k = 2 ∧ s' = ⟨h₂, g, d, tk₁, os⟩) ∨ (k = 1 ∧ ZI1 w mg mb hE env m cm wr g d os names J h₁ z a b i j t1 t2 v1 s')) ?_ 2 (.inl ⟨rfl, rfl⟩)
  rintro k s' (⟨rfl, rfl⟩ | ⟨rfl, h₄, tk₄, u, rfl, F₄, hj, H₄, hT4, tk4⟩)
  · refine zipT_next P H (Heap.IsTuple.at (show h₁.IsTuple t1 #[v1] from hT1) fun o e => ex _ o e) (Heap.IsTuple.at (show h₁.IsTuple t2 #[v2] from hT2) fun o e => ex _ o e) (x := v1) (y := v2) rfl rfl fun h' T a1 a2 a3 a4 a5 a6 a7 a8 a9 => ?_
    refine wpAny_letOwnedTupleGo_zip a1 fun h₃ hz₃ hs₃ => ?_
    have off : ∀ c o, h₁.get? c = some o → c ≠ z ∧ c ≠ b ∧ c ≠ i ∧ c ≠ j := fun c o e => by
      have no : ∀ {x : Addr}, h₁.get? x = none → c ≠ x := fun hx q => by rw [q, hx] at e; cases e
      exact ⟨no hw.1, no hw.2.2.1, no hw.2.2.2.1, no hw.2.2.2.2⟩
    have ex3 : Ext h₁ h₃ := fun c o e => hs₃.extBut c o (off c o e).1 (a9 c o (off c o e).1 (off c o e).2.1 (off c o e).2.2.1 (off c o e).2.2.2 (ex c o e))
    have H₃ : ZipT h₃ z a b i j t1 t2 1 := ⟨hz₃, hs₃.extBut _ _ P.TIz a2, let ⟨p, q, e⟩ := a3; ⟨p, q, hs₃.extBut _ _ P.TOz e⟩, a4.at fun o e => hs₃.extBut _ o P.i1z e, a5.at fun o e => hs₃.extBut _ o P.i2z e⟩
    refine asg2 (F₁.up (.of_ext ex3)) hA (show IsTup h₃ T #[v1, v2] from ⟨_, hs₃.extBut _ _ a8 a6, rfl, _, rfl⟩) fun h₅ st₅ F₅ => ?_
    have st15 : Step w mg mb [] h₁ h₅ := (Step.of_ext ex3).trans st₅
    refine wpAny_mono (turn h₅ _ _ st15 F₅ (F₅.base wr')) (fun _ s₂ q => wpAny_mono q (fun _ s₃ q => wpAny_mono q (fun f s₄ q => ?_) fun _ _ x => x) fun _ _ x => x) fun _ _ x => x
    have nx : (∃ h₄ tk₄ m₄, s₄ = ⟨h₄, g, d, tk₄, os⟩ ∧ Fm w mg mb (env.locals :: wr') h₅ env m₄ cm h₄ ∧ Agr names m m₄ ∧ J h₄) → ∃ m₁, m₁ < 2 ∧ ((m₁ = 2 ∧ s₄ = ⟨h₂, g, d, tk₁, os⟩) ∨ (m₁ = 1 ∧ ZI1 w mg mb hE env m cm wr g d os names J h₁ z a b i j t1 t2 v1 s₄)) := by
      rintro ⟨h₄, tk₄, m₄, e, F₄, ag, hj⟩
      have kp : ∀ {c : Addr} {o : Obj}, c ≠ 87 → c ∉ env.locals :: wr' → h₃.get? c = some o → h₄.get? c = some o := fun h1 h2 e => F₄.st.keep _ _ h1 h2 (st₅.keep _ _ h1 (fun q => nomatch q) e)
      have ha : a ≠ 87 := by
        rintro rfl
        rcases F₁.G.tab with q | ⟨_, _, _, q, _⟩ <;> (have q2 := hw.2.1; rw [q] at q2; cases q2)
      have hz := kp (big hge.2.2.2).2 (nw hw.1) H₃.Z
      have hA' := kp ha (nw hw.2.1) H₃.A
      have hB := H₃.B
      obtain ⟨p, q, hB⟩ := hB
      have hI : h₄.IsTupleIter i t1 1 := H₃.I.at fun o e => kp (big hge.1).2 (nw hw.2.2.2.1) e
      have hJ' : h₄.IsTupleIter j t2 1 := H₃.J.at fun o e => kp (big hge.2.1).2 (nw hw.2.2.2.2) e
      refine ⟨1, by decide, .inr ⟨rfl, h₄, tk₄, m₄, e, ?_, hj, ⟨hz, hA', ⟨p, q, kp (big hge.2.2.1).2 (nw hw.2.2.1) hB⟩, hI, hJ'⟩, ?_, fun b o e c q => F₄.st.tk b o (st15.tk b o e c q) c q⟩⟩
      · rw [← ag.eq]; exact F₅.join F₄ fun a q => (hww a q).2
      · refine Heap.IsTuple.at (show h₁.IsTuple t1 #[v1] from hT1) fun o e => kp (tup_ne87 F₁.G hT1) (fun q => (List.mem_cons.mp q).elim (fun q => tup_ne_locals F₁ hT1 q) ht1w) (ex3 _ _ e)
    cases f with
    | next => exact nx q
    | cont => exact nx q
    | brk => exact q.elim
    | ret v => exact q
  · refine zipT_done hA.hh P H₄ hT4 rfl fun h₅ hk => wpAny_execs_nil ?_
    refine fin u h₅ tk₄ (hJ _ _ (fun b' o e1 e2 => ?_) hj) (fun b' o e1 c q => ?_) (F₁.moved (L := [z, b, i, j]) F₄ ?_ fun c o q e => ?_)
    · obtain ⟨o', e1⟩ := e1
      have no : ∀ {x : Addr}, h₁.get? x = none → b' ≠ x := fun hx q => by rw [q, hx] at e1; cases e1
      exact hk b' o (no hw.1) (no hw.2.2.1) (no hw.2.2.2.1) (no hw.2.2.2.2) e2
    · have no : ∀ {x : Addr}, h₁.get? x = none → b' ≠ x := fun hx q => by rw [q, hx] at e1; cases e1
      exact hk b' o (no hw.1) (no hw.2.2.1) (no hw.2.2.2.1) (no hw.2.2.2.2) (tk4 b' o e1 c q)
    · intro c hc
      simp only [List.mem_cons, List.not_mem_nil, or_false] at hc
      rcases hc with rfl | rfl | rfl | rfl
      · exact ⟨(big hge.2.2.2).1, hw.1, fun o e => by rw [H₄.Z] at e; cases e; rintro vs ⟨⟩; simp⟩
      · obtain ⟨p, q, hB⟩ := H₄.B
        exact ⟨(big hge.2.2.1).1, hw.2.2.1, fun o e => by rw [hB] at e; cases e; rintro vs ⟨⟩⟩
      · obtain ⟨o', e', _, hd⟩ := H₄.I
        exact ⟨(big hge.1).1, hw.2.2.2.1, fun o e vs q => by rw [e'] at e; cases e; rw [hd] at q; cases q; simp⟩
      · obtain ⟨o', e', _, hd⟩ := H₄.J
        exact ⟨(big hge.2.1).1, hw.2.2.2.2, fun o e vs q => by rw [e'] at e; cases e; rw [hd] at q; cases q; simp⟩
    · simp only [List.mem_cons, List.not_mem_nil, or_false, not_or] at q
      exact hk c o q.1 q.2.1 q.2.2.1 q.2.2.2 e
/-- a for loop over a zip of two empty tuples -/
theorem xForZ0 {target iter : Expr} {body rest : List Stmt} {pos : Pos} {n : Nat} {Q : Flow → Shared → Prop} (_F : Fm w mg mb wr hE env m cm h) (hA : Cx A n) (hs : ∀ x, foldedSetIterable iter env x = pure x)
    (k : wpAny (model prog w) A (eval iter env) (fun xv s₁ => Z0H w mg mb hE env m cm wr g d os prog A E rest Q xv s₁) E ⟨h, g, d, tk, os⟩) :
    wpAny (model prog w) A (execs (.For target iter body [] pos :: rest) env) Q E ⟨h, g, d, tk, os⟩ := by
  refine xCons (wpAny_For (wpAny_mono k (fun xv s₁ hk => ?_) fun _ _ e => e) hs)
  obtain ⟨h₁, h₂, tk₁, z, a, b, i, j, t1, t2, rfl, rfl, F₁, ex, P, H, hw, hT1, fin⟩ := hk
  refine wpAny_pyIter_zip (s := ⟨h₂, g, d, tk₁, os⟩) H.Z ?_
  refine codeAny_forLoop_any (fun k s' => s' = ⟨h₂, g, d, tk₁, os⟩) ?_ 0 rfl
  rintro k s' rfl
  refine zipT_done hA.hh P H (Heap.IsTuple.at (show h₁.IsTuple t1 #[] from hT1) fun o e => ex _ o e) rfl fun h₃ hk => wpAny_execs_nil ?_
  have ex3 : Ext h₁ h₃ := fun c o e => by
    have no : ∀ {x : Addr}, h₁.get? x = none → c ≠ x := fun hx q => by rw [q, hx] at e; cases e
    exact hk c o (no hw.1) (no hw.2.2.1) (no hw.2.2.2.1) (no hw.2.2.2.2) (ex c o e)
  exact fin h₃ tk₁ (.of_ext ex3) (F₁.up (.of_ext ex3))
theorem callZip0 {v1 v2 : Value} {Q : Value → Shared → Prop} (F : Fm w mg mb wr hE env m cm h) (x1 : XT h v1 (.tuple [])) (x2 : XT h v2 (.tuple []))
    (q : ∀ h₂ z a b i j t1 t2, Ext h h₂ → ZipApart z a b i j t1 t2 → ZipT h₂ z a b i j t1 t2 0 → (h.get? z = none ∧ h.get? a = none ∧ h.get? b = none ∧ h.get? i = none ∧ h.get? j = none) → IsTup h t1 #[] → Q (.ref z) ⟨h₂, g, d, tk, os⟩) :
    wpAny (model prog w) A (call (.type "zip") [v1, v2]) Q E ⟨h, g, d, tk, os⟩ := by
  obtain ⟨t1, vs1, rfl, hT1, xs1⟩ := x1.tup
  obtain ⟨t2, vs2, rfl, hT2, xs2⟩ := x2.tup
  obtain rfl := xs1.inv0
  exact callZip (s := ⟨h, g, d, tk, os⟩) hT1 hT2 fun h' z a b i j P H nw _ ex => q h' z a b i j t1 t2 ex P H nw hT1
theorem callZip1 {v1 v2 : Value} {d1 d2 : PyData} {Q : Value → Shared → Prop} (F : Fm w mg mb wr hE env m cm h) (x1 : XT h v1 (.tuple [d1])) (x2 : XT h v2 (.tuple [d2]))
    (q : ∀ h₂ z a b i j t1 t2 y1 y2, v1 = .ref t1 → Ext h h₂ → ZipApart z a b i j t1 t2 → ZipT h₂ z a b i j t1 t2 0 → (h.get? z = none ∧ h.get? a = none ∧ h.get? b = none ∧ h.get? i = none ∧ h.get? j = none) → (h.objs.size ≤ i ∧ h.objs.size ≤ j ∧ h.objs.size ≤ b ∧ h.objs.size ≤ z) → IsTup h t1 #[y1] → IsTup h t2 #[y2] → XT h y1 d1 → XT h y2 d2 → Q (.ref z) ⟨h₂, g, d, tk, os⟩) :
    wpAny (model prog w) A (call (.type "zip") [v1, v2]) Q E ⟨h, g, d, tk, os⟩ := by
  obtain ⟨t1, vs1, rfl, hT1, xs1⟩ := x1.tup
  obtain ⟨t2, vs2, rfl, hT2, xs2⟩ := x2.tup
  obtain ⟨y1, vs1, rfl, xy1, xs1⟩ := xs1.inv
  obtain ⟨y2, vs2, rfl, xy2, xs2⟩ := xs2.inv
  obtain rfl := xs1.inv0
  obtain rfl := xs2.inv0
  exact callZip (s := ⟨h, g, d, tk, os⟩) hT1 hT2 fun h' z a b i j P H nw ge ex => q h' z a b i j t1 t2 y1 y2 rfl ex P H nw ge hT1 hT2 xy1 xy2
end

section
variable {prog : Program} {w : World} {A : Around} {E : Value → Shared → Prop} {K : Frag} {C x : Addr} {s : Shared} {R : Result → Shared → Prop}
/-- object.__setattr__ into the own dict: nothing else is changed -/
theorem osa_same {ox od od' : Obj} {dx : Addr} {name : Str} {tk : Tok} {v : Value} {es : List DictEntry} {n : Nat} (X : K.In s.heap)
    (I : InstAt s.heap x ox C (some od)) (hd : ox.dict = some dx) (D : s.heap.get? dx = some od) (hp : plainOver K C = true) (ht : takerIn K C name = some none) (hh : hasDictIn K C = true)
    (hl : (lookIn name od).isSome = true) (e : Obj.putName name (PyData.keyHash w.params name) (.str name s.toks) v od = od') (e' : od'.data = .dict es.toArray n) (hz : es.length ≤ 1000)
    (h : ∀ h', h'.get? dx = some od' → Heap.SameBut dx s.heap h' → R (.ok (.ret .none)) { s with heap := h', toks := s.toks + 1 }) :
    codeAny (model prog w) A (.call (.builtin "object.__setattr__") ⟨[.ref x, .str name tk, v], []⟩) R s := by
  refine osa_open X I hp ht fun b => ?_
  obtain ⟨cd, hc, hd'⟩ := any_some hh
  have D' : (s.heap.update dx (Obj.putName name (PyData.keyHash w.params name) (.str name s.toks) v)).get? dx = some od' := by
    have := Heap.get?_update_self (Obj.putName name (PyData.keyHash w.params name) (.str name s.toks) v) D (by rw [e]; obtain ⟨_, _, dd, _⟩ := od'; cases e'; rfl)
    rw [e] at this; exact this
  obtain ⟨hx, hcl, hn, -⟩ := I
  obtain ⟨oc, odi, oda, osl⟩ := ox
  dsimp only at hcl hd
  subst hcl hd
  refine wpAny_bind (wpAny_pure (wpAny_bind (wpAny_bind (wpAny_loadPart hx (wpAny_bind ((looks_clsIn X hc).here ?_))))))
  rw [hd']
  refine wpAny_pure (a := some dx) (wpAny_bind (wpAny_pure (wpAny_bind ?_)))
  unfold nsSet
  refine wpAny_bind (wpAny_bind (wpAny_askSetting (wpAny_pure (wpAny_bind (wpAny_mkText (wpAny_bind (wpAny_loadPart D ?_)))))))
  unfold lookIn at hl
  split at hl
  · rename_i es₀ n₀ q
    rw [q]
    dsimp only
    have c : (!es₀.any (·.key.isStr name) && es₀.any (·.refKey)) = false := by
      rw [← Array.any_toList, ← Array.any_toList]
      split at hl
      · rename_i en he
        rw [List.any_eq_true.mpr ⟨en, List.mem_of_find?_eq_some he, List.find?_some he⟩]; rfl
      · split at hl
        · cases hl
        · rename_i z; rw [Bool.not_eq_true] at z; rw [z, Bool.and_false]
    rw [aRefKeyMayBeTheName_at, c]
    refine wpAny_updatePart D ?_
    refine wpAny_bind (wpAny_lookBehind D' (by rw [e']; exact pastItsLine_dict (by rw [List.size_toArray, sizeLine_eq]; omega)) ?_)
    exact wpAny_pure (h _ D' (Heap.SameBut.update ..))
  · cases hl
end

/-- an object of a class with an own dict, and what the dict tells -/
structure Ins (h : Heap) (x dx C : Addr) (m : Str → Option Value) (k : Nat) : Prop where
  lx : 241 < x
  ld : 241 < dx
  ne : x ≠ dx
  ox : h.get? x = some (instObj C dx)
  od : ∃ es n, h.get? dx = some (dictOf es n) ∧ (∀ name, getL name es = some (m name)) ∧ es.length ≤ k ∧ ∀ e ∈ es, e.refKey = false
section
variable {prog : Program} {w : World} {mg mb : Str → Option Value} {A : Around} {E : Value → Shared → Prop} {hE h h' : Heap} {env : Env} {m cm : Str → Option Value} {wr : List Addr}
  {g : Array GenState} {d : Drawn} {tk : Nat} {os : OsState} {x dx C : Addr} {mo : Str → Option Value} {kk : Nat}
theorem Ins.at (I : Ins h x dx C mo kk) (k1 : ∀ o, h.get? x = some o → h'.get? x = some o) (k2 : ∀ o, h.get? dx = some o → h'.get? dx = some o) : Ins h' x dx C mo kk :=
  ⟨I.lx, I.ld, I.ne, k1 _ I.ox, let ⟨es, n, e, r⟩ := I.od; ⟨es, n, k2 _ e, r⟩⟩
theorem ne87 {a : Addr} (h : 241 < a) : a ≠ 87 := Nat.ne_of_gt (Nat.lt_trans (by decide) h)
theorem Ins.up (st : Step w mg mb wr h h') (I : Ins h x dx C mo kk) (h1 : x ∉ wr) (h2 : dx ∉ wr) : Ins h' x dx C mo kk := I.at (fun o e => st.keep x o (ne87 I.lx) h1 e) fun o e => st.keep dx o (ne87 I.ld) h2 e
theorem Ins.up0 (st : Step w mg mb [] h h') (I : Ins h x dx C mo kk) : Ins h' x dx C mo kk := I.up st (fun q => nomatch q) fun q => nomatch q
theorem XT.handed {v : Value} {dd : PyData} (x : XT h v dd) : handedIn v = true := by cases x <;> rfl

theorem getI {name : Str} {v : Value} {ex : Bool} {Q : Value → Shared → Prop} (G : Gd w mg mb h) (I : Ins h x dx C mo kk) (hv : mo name = some v) (hg : plainGet (hd.heap_1 w.params) C name = true) (hh : hasDictIn (hd.heap_1 w.params) C = true)
    (ha : findIn (hd.heap_1 w.params) (.ref C) name = some none) (hn : handedIn v = true) (k : Q v ⟨h, g, d, tk + 1, os⟩) : wpAny (model prog w) A (getAttr (.ref x) name ex) Q E ⟨h, g, d, tk, os⟩ := by
  obtain ⟨es, n, e, he, _⟩ := I.od
  exact get_value (s := ⟨h, g, d, tk, os⟩) (ox := instObj C dx) (od := some (dictOf es n)) G.X ⟨I.ox, rfl, rfl, e⟩ (plainGet_of hg).1 (findObj_own hh ha rfl (by rw [lookIn_dict, he, hv])) hn k

theorem find_put {name nm : Str} {hsh : Int} {u : Tok} {v : Value} : ∀ {es : List DictEntry}, (((putL name hsh (.str name u) v es).find? (·.key.isStr nm)).map (·.val)) = if nm = name then some v else (es.find? (·.key.isStr nm)).map (·.val)
  | [] => by
    show ((List.find? (fun x : DictEntry => x.key.isStr nm) [⟨hsh, .str name u, v⟩]).map (·.val)) = _
    by_cases e : nm = name
    · subst e; simp [Value.isStr]
    · rw [if_neg e]
      have : (Value.str name u).isStr nm = false := by
        cases q : (Value.str name u).isStr nm with
        | false => rfl
        | true => exact absurd (Value.isStr_inj (.str name u) nm name q (by simp [Value.isStr])) e
      simp [this]
  | e :: r => by
    unfold putL
    by_cases q : e.key.isStr name = true
    · rw [if_pos q]
      by_cases en : nm = name
      · subst en; simp [q]
      · have q2 : e.key.isStr nm = false := by
          cases q3 : e.key.isStr nm with
          | false => rfl
          | true => exact absurd (Value.isStr_inj _ nm name q3 q) en
        simp [q2, en]
    · rw [if_neg q]
      by_cases q2 : e.key.isStr nm = true
      · have en : nm ≠ name := fun x => q (x ▸ q2)
        simp [q2, en]
      · simp only [Bool.not_eq_true] at q2
        rw [List.find?_cons, q2, List.find?_cons, q2]
        exact find_put
theorem put_len {name : Str} {hsh : Int} {key v : Value} : ∀ {es : List DictEntry}, (putL name hsh key v es).length ≤ es.length + 1
  | [] => by simp [putL]
  | e :: r => by
    unfold putL
    split
    · simp
    · have := put_len (name := name) (hsh := hsh) (key := key) (v := v) (es := r)
      simp only [List.length_cons]; omega
theorem put_ref {name : Str} {hsh : Int} {u : Tok} {v : Value} : ∀ {es : List DictEntry}, (∀ e ∈ es, e.refKey = false) → ∀ e ∈ putL name hsh (.str name u) v es, e.refKey = false
  | [], _, e, h => by
    have : e = ⟨hsh, .str name u, v⟩ := by simpa [putL] using h
    subst this; exact isStr_notRef (name' := name) _ (by simp [Value.isStr])
  | e0 :: r, hr, e, h => by
    unfold putL at h
    split at h
    · rename_i q
      rcases List.mem_cons.mp h with rfl | h
      · exact isStr_notRef (name' := name) _ q
      · exact hr e (.tail _ h)
    · rcases List.mem_cons.mp h with rfl | h
      · exact hr _ (.head _)
      · exact put_ref (fun e he => hr e (.tail _ he)) e h
theorem getL_noRef {name : Str} {es : List DictEntry} (hr : ∀ e ∈ es, e.refKey = false) : getL name es = some ((es.find? (·.key.isStr name)).map (·.val)) := by
  unfold getL
  cases q : es.find? (·.key.isStr name) with
  | some e => rfl
  | none =>
    have : es.any (·.refKey) = false := by
      cases z : es.any (·.refKey) with
      | false => rfl
      | true => obtain ⟨e, h1, h2⟩ := List.any_eq_true.mp z; rw [hr e h1] at h2; cases h2
    rw [if_neg (by rw [this]; decide)]; rfl
theorem setI {name : Str} {v : Value} {Q : Unit → Shared → Prop} (G : Gd w mg mb h) (I : Ins h x dx C mo kk) (hk : kk < 900) (hs : findIn (hd.heap_1 w.params) (.ref C) "__setattr__" = some (some (.builtin "object.__setattr__"))) (hp : plainOver (hd.heap_1 w.params) C = true)
    (ht : takerIn (hd.heap_1 w.params) C name = some none) (hh : hasDictIn (hd.heap_1 w.params) C = true)
    (k : ∀ h', Step w mg mb [dx] h h' → Ins h' x dx C (upd mo name v) (kk + 1) → Q () ⟨h', g, d, tk + 2, os⟩) : wpAny (model prog w) A (setAttr (.ref x) name v) Q E ⟨h, g, d, tk, os⟩ := by
  obtain ⟨es, n, e, he, hl, hr⟩ := I.od
  have IA : InstAt h x (instObj C dx) C (some (dictOf es n)) := ⟨I.ox, rfl, rfl, e⟩
  refine set_plain (s := ⟨h, g, d, tk, os⟩) G.X IA hs (osa_same (s := ⟨h, g, d, tk + 1, os⟩) G.X IA rfl e hp ht hh (by rw [lookIn_dict, he]; rfl) (putName_dict _ _ _ _ _ _) rfl ?_ fun h' e' hs' => ?_)
  · exact Nat.le_trans put_len (Nat.le_trans (Nat.succ_le_succ hl) (Nat.le_trans hk (by decide)))
  · refine k h' (.but (fun b o hb q => (hs'.2 b hb).trans q) I.ld e (fun vs q => by cases q) (fun _ vs n q => by cases q)) ⟨I.lx, I.ld, I.ne, (hs'.2 x I.ne).trans I.ox, _, _, e', ?_, ?_, put_ref hr⟩
    · intro nm
      rw [getL_noRef (put_ref hr), find_put]
      have := he nm
      rw [getL_noRef hr] at this
      have := Option.some.inj this
      show _ = some (if nm = name then some v else mo nm)
      split
      · rfl
      · rw [this]
    · exact Nat.le_trans put_len (Nat.succ_le_succ hl)
theorem Cx.cls {n : Nat} (hA : Cx A (n + 1)) (C : Addr) (rest : List Value) (kw : List (Str × Value)) : Cx (A.under (.builtin "type.__call__" ⟨.ref C :: rest, kw⟩)) n := by
  have e1 : (Code.builtin "type.__call__" ⟨.ref C :: rest, kw⟩).weight = 1 := by kernel_rfl
  have e2 : (Code.builtin "type.__call__" ⟨.ref C :: rest, kw⟩).cUnits = 1 := by kernel_rfl
  exact ⟨hA.hh, by show A.depth + _ + n < _; rw [e1]; have := hA.dp; omega, by show A.units + _ + 16 * n + 200 < _; rw [e2]; have := hA.un; omega⟩
theorem callCls {fI : Addr} {rest : List Value} {kw : List (Str × Value)} {n : Nat} {Q : Value → Shared → Prop} (F : Fm w mg mb wr hE env m cm h) (hA : Cx A (n + 1)) (hm : makesIn (hd.heap_1 w.params) C = true)
    (hi : findIn (hd.heap_1 w.params) (.ref C) "__init__" = some (some (.ref fI))) (hf : isFn (hd.heap_1 w.params) (.ref fI) = true)
    (k : ∀ x dx h' A', Cx A' n → Ext h h' → h.get? x = none → h.get? dx = none → Ins h' x dx C (fun _ => none) 0 → codeAny (model prog w) A' (.call (.ref fI) ⟨.ref x :: rest, kw⟩) (InitBack x fun r s' => match r with | .ok (.ret v) => Q v s' | .ok _ => False | .error e => E e s') ⟨h', g, d, tk, os⟩) :
    wpAny (model prog w) A (call (.ref C) rest kw) Q E ⟨h, g, d, tk, os⟩ := by
  refine wpAny_call (make_core (makes_of F.G.X hm) (looks_findIn F.G.X hi) (fun self => bind_fn F.G.X self (beq_iff_eq.mp hf)) (.inl rfl) (k _ h.objs.size _ _ (hA.cls C rest kw) (fun b o e => Heap.get?_push_of_some _ (Heap.get?_push_of_some _ e)) (Heap.get?_none_of_le (Nat.le_succ _)) (Heap.get?_none_of_le (Nat.le_refl _)) ?_))
  have sz : (242 : Nat) ≤ h.objs.size := F.G.sz
  have e1 : (h.push emptyDict).objs.size = h.objs.size + 1 := Heap.size_push ..
  refine ⟨Nat.lt_of_lt_of_le (by decide) (Nat.le_succ_of_le sz), Nat.lt_of_lt_of_le (by decide) sz, Nat.ne_of_gt (Nat.lt_succ_self _), ?_, [], 0, ?_, fun _ => rfl, Nat.le_refl _, fun _ q => nomatch q⟩
  · rw [← e1]; exact Heap.get?_push_size _ rfl
  · exact Heap.get?_push_of_some _ (Heap.get?_push_size _ rfl)
theorem newL {vs : List Value} {Q : Value → Shared → Prop} (F : Fm w mg mb wr hE env m cm h) (hsz : vs.length ≤ sizeLine)
    (k : ∀ l h', Step w mg mb [] h h' → Fm w mg mb wr hE env m cm h' → h'.PlainList l vs.toArray → 241 < l → h.get? l = none → Q (.ref l) ⟨h', g, d, tk, os⟩) : wpAny (model prog w) A (newList vs) Q E ⟨h, g, d, tk, os⟩ := by
  refine wpAny_newList ?_ hsz
  have sz : (242 : Nat) ≤ h.objs.size := F.G.sz
  exact k h.objs.size _ (.push _) (F.up (.push _)) ⟨_, Heap.get?_push_size _ rfl⟩ (Nat.lt_of_lt_of_le (by decide) sz) (Heap.get?_none_of_le (Nat.le_refl _))
theorem callF0 {pos : Pos} {f : Addr} {Q : Value → Shared → Prop} (F : Fm w mg mb wr hE env m cm h) (hk : keepIn (hd.heap_1 w.params) (.ref f) = true)
    (k : wpAny (model prog w) A (call (.ref f) []) Q E ⟨h, g, d, tk, os⟩) :
    wpAny (model prog w) A (callWith pos (.ref f) [] (backTo pos (starEach [] env)) []) Q E ⟨h, g, d, tk, os⟩ := by
  refine callWith_of rfl (keeps_K hk) ?_
  show wpAny (model prog w) A (evalArgs (.ref f) true [] []) _ _ _
  unfold evalArgs
  show wpAny (model prog w) A (spliced [] >>= _) _ _ _
  refine wpAny_bind (spliced_nil ?_)
  refine wpAny_pure ?_
  exact ⟨F.G.X, k⟩
/-- from the entry to a heap within a turn of a loop -/
theorem Fm.stJ {h₃ : Heap} {m' cm' : Str → Option Value} (F' : Fm w mg mb [env.locals] h₃ env m' cm' h') (F : Fm w mg mb [] hE env m cm h₃) : Step w mg mb [] hE h' := (F.join F' fun _ q => nomatch q).st
end

section
variable {prog : Program} {w : World} {mg mb : Str → Option Value} {A : Around} {E : Value → Shared → Prop} {hE h h' : Heap} {env : Env} {m cm : Str → Option Value} {wr : List Addr}
  {g : Array GenState} {d : Drawn} {tk : Nat} {os : OsState}
theorem newDn {pos : Pos} {Q : Value → Shared → Prop} (F : Fm w mg mb wr hE env m cm h)
    (k : ∀ td h', Step w mg mb [] h h' → Fm w mg mb wr hE env m cm h' → Dct prog w h' td [] → 241 < td → (hE.get? td = none ∨ td ∈ wr) → td ≠ env.locals → (∀ n c, env.cells.lookup n = some c → c ≠ td) → h.get? td = none → Q (.ref td) ⟨h', g, d, tk, os⟩) :
    wpAny (model prog w) A (eval (.Dict [] [] pos) env) Q E ⟨h, g, d, tk, os⟩ :=
  newD F fun td h' st F' D l n ne => k td h' st F' D l (F.newI n).2.1.symm ne (F.newI n).2.2 n
theorem newLn {vs : List Value} {Q : Value → Shared → Prop} (F : Fm w mg mb wr hE env m cm h) (hsz : vs.length ≤ sizeLine)
    (k : ∀ l h', Step w mg mb [] h h' → Fm w mg mb wr hE env m cm h' → h'.PlainList l vs.toArray → 241 < l → (hE.get? l = none ∨ l ∈ wr) → l ≠ env.locals → (∀ n c, env.cells.lookup n = some c → c ≠ l) → h.get? l = none → Q (.ref l) ⟨h', g, d, tk, os⟩) :
    wpAny (model prog w) A (newList vs) Q E ⟨h, g, d, tk, os⟩ :=
  newL F hsz fun l h' st F' D l1 n => k l h' st F' D l1 (F.newI n).2.1.symm (F.newI n).1 (F.newI n).2.2 n
theorem PL.up (G : Gd w mg mb h) (st : Step w mg mb wr h h') {l : Addr} {its : Array Value} (x : h.PlainList l its) (hw : l ∉ wr) : h'.PlainList l its :=
  x.at fun o e => st.keep l o (IsList.ne87 G x.isList) hw e
theorem PL.step {l : Addr} {its : Array Value} (x : h.PlainList l its) (hs : Heap.SameBut l h h') (h1 : 241 < l) : Step w mg mb [l] h h' := by
  obtain ⟨n, e⟩ := x
  exact .but (fun b o hb q => (hs.2 b hb).trans q) h1 e (fun vs q => by cases q) (fun c => absurd (show Value.type "list" = Value.type "tuple" from c) (by decide))

/-- x.pop() of a list -/
theorem mPop {o : Expr} {apos pos : Pos} {Q : Value → Shared → Prop} (hbase : attributeBase o (Str.ofString "pop") env (eval o env) = eval o env) (hline : (apos.endLine == pos.line) = true)
    (k : wpAny (model prog w) A (eval o env) (fun ov s₁ => ∃ l h₁ tk₁ v, ∃ vs : List Value, ov = .ref l ∧ s₁ = ⟨h₁, g, d, tk₁, os⟩ ∧ 241 < l ∧ h₁.PlainList l (vs ++ [v]).toArray ∧ vs.length + 1 ≤ sizeLine ∧
      ∀ h', Step w mg mb [l] h₁ h' → h'.PlainList l vs.toArray → Q v ⟨h', g, d, tk₁, os⟩) E ⟨h, g, d, tk, os⟩) :
    wpAny (model prog w) A (eval (.Call (.Attribute o (Str.ofString "pop") apos) [] [] pos) env) Q E ⟨h, g, d, tk, os⟩ := by
  refine wpAny_Call_method0_late hbase hline (wpAny_mono k (fun ov s₁ q => ?_) fun _ _ x => x)
  obtain ⟨l, h₁, tk₁, v, vs, rfl, rfl, h1, P, hsz, q⟩ := q
  refine ⟨"list", "list.pop", F.plainAttrs_list, F.slot_list_pop, F.type_list_pop, P.isList.typeIs, (fun a e => by cases e; obtain ⟨n, e⟩ := P; exact ⟨_, e, rfl⟩), callWith_builtin rfl (evalArgs_nil3 ?_)⟩
  obtain ⟨n, e⟩ := id P
  refine Copied.pop_at (s := ⟨h₁, g, d, tk₁, os⟩) e (y := v) (by simp) (fun h' hs e' => q h' (PL.step P hs h1) ⟨n + 1, ?_⟩) (by simpa using hsz)
  rw [e']; simp

/-- x.append(v) of a list -/
theorem mApp {o e : Expr} {apos pos : Pos} {Q : Value → Shared → Prop} (hbase : attributeBase o (Str.ofString "append") env (eval o env) = eval o env) (hline : (apos.endLine == pos.line) = true)
    (htrees : backTo pos (starEach [e] env) = [(false, eval e env)])
    (k : wpAny (model prog w) A (eval o env) (fun ov s₁ => ∃ l, ∃ vs : List Value, ov = .ref l ∧ 241 < l ∧ s₁.heap.PlainList l vs.toArray ∧ 
      wpAny (model prog w) A (eval e env) (fun v s₂ => ∃ h₂ tk₂, s₂ = ⟨h₂, g, d, tk₂, os⟩ ∧ h₂.PlainList l vs.toArray ∧ vs.length ≤ sizeLine ∧ ∀ h', Step w mg mb [l] h₂ h' → h'.PlainList l (vs ++ [v]).toArray → Q .none ⟨h', g, d, tk₂, os⟩) E s₁) E ⟨h, g, d, tk, os⟩) :
    wpAny (model prog w) A (eval (.Call (.Attribute o (Str.ofString "append") apos) [e] [] pos) env) Q E ⟨h, g, d, tk, os⟩ := by
  refine wpAny_Call_method1_late hbase hline htrees (wpAny_mono k (fun ov s₁ q => ?_) fun _ _ x => x)
  obtain ⟨l, vs, rfl, h1, P, q⟩ := q
  refine ⟨"list", "list.append", F.plainAttrs_list, slot_list_append, F.type_list_append, P.isList.typeIs, (fun a e => by cases e; obtain ⟨n, e⟩ := P; exact ⟨_, e, rfl⟩), callWith_builtin rfl (evalArgs_plain (spliced_cons (wpAny_mono q (fun v s₂ q => spliced_nil ?_) fun _ _ x => x)))⟩
  obtain ⟨h₂, tk₂, rfl, P₂, hsz, q⟩ := q
  refine wpAny_list_append_plain (s := ⟨h₂, g, d, tk₂, os⟩) P₂ (fun h' P' hs => q h' (PL.step P₂ hs h1) ?_) (by simpa using hsz)
  simpa using P'

open AutoSeq1 (idx_int wpAny_loadPart') in
theorem ext_tup (l : Addr) (items : Array Value) (n : Nat) (b : Addr) (items2 : Array Value) (n2 : Nat) (dct : Option Addr) (sl : Array (Option Value)) (hs0 : ¬(!items.isEmpty && Builtin.List.listTooLong (items.size + items2.size)) = true) (hs1 : items.size ≤ sizeLine) (hs2 : items.size + items2.size ≤ sizeLine + 1) :
    Meets (Builtin.«list.extend» ⟨[.ref l, .ref b], []⟩) (fun _ R s => s.heap.get? l = some { cls := .type "list", dict := none, data := .seq items n, slots := #[] } ∧ s.heap.get? b = some { cls := .type "tuple", dict := dct, data := .seq items2 n2, slots := sl } ∧ R (.ok (.ret Value.none)) { s with heap := s.heap.update l (Obj.mapSeq fun x => x ++ items2), toks := s.toks }) :=
  .of_wp fun prog w A R s h => by
    obtain ⟨hp, g, d, tk, os⟩ := s; obtain ⟨hl, hb, h⟩ := h; have f1 := idx_int; have f2 := AutoSeq1.sub_tuple_tuple; have f3 := AutoSeq1.sub_list_list; have f4 := AutoSeq1.sub_tuple_list; have f5 := AutoSeq1.sub_list_tuple;
    have hz' : (items ++ items2).size ≤ sizeLine + 1 := by rw [Array.size_append]; exact hs2
    wp_walk using (wpAny_updateSeq hl rfl (hz := hs1) (_hz' := hz')), wpAny_loadPart' hl, wpAny_loadPart' hb; exact ⟨_, rfl, h⟩
open AutoSeq1 (idx_int wpAny_loadPart') in
theorem ext_list (l : Addr) (items : Array Value) (n : Nat) (b : Addr) (items2 : Array Value) (n2 : Nat) (dct : Option Addr) (sl : Array (Option Value)) (hs0 : ¬(!items.isEmpty && Builtin.List.listTooLong (items.size + items2.size)) = true) (hs1 : items.size ≤ sizeLine) (hs2 : items.size + items2.size ≤ sizeLine + 1) :
    Meets (Builtin.«list.extend» ⟨[.ref l, .ref b], []⟩) (fun _ R s => s.heap.get? l = some { cls := .type "list", dict := none, data := .seq items n, slots := #[] } ∧ s.heap.get? b = some { cls := .type "list", dict := dct, data := .seq items2 n2, slots := sl } ∧ R (.ok (.ret Value.none)) { s with heap := s.heap.update l (Obj.mapSeq fun x => x ++ items2), toks := s.toks }) :=
  .of_wp fun prog w A R s h => by
    obtain ⟨hp, g, d, tk, os⟩ := s; obtain ⟨hl, hb, h⟩ := h; have f1 := idx_int; have f2 := AutoSeq1.sub_tuple_tuple; have f3 := AutoSeq1.sub_list_list; have f4 := AutoSeq1.sub_tuple_list; have f5 := AutoSeq1.sub_list_tuple;
    have hz' : (items ++ items2).size ≤ sizeLine + 1 := by rw [Array.size_append]; exact hs2
    wp_walk using (wpAny_updateSeq hl rfl (hz := hs1) (_hz' := hz')), wpAny_loadPart' hl, wpAny_loadPart' hb; exact ⟨_, rfl, h⟩
theorem ext_fit {n k : Nat} {e : Bool} (h : n + k ≤ sizeLine) : ¬(!e && Builtin.List.listTooLong (n + k)) = true := by
  have : Builtin.List.listTooLong (n + k) = false := by unfold Builtin.List.listTooLong; simpa using h
  rw [this]; simp
theorem mapSeq_app (its us : Array Value) (n : Nat) : ∃ n', Obj.mapSeq (fun x => x ++ us) { cls := .type "list", data := .seq its n } = { cls := .type "list", data := .seq (its ++ us) n' } := by
  simp [Obj.mapSeq]
/-- x.extend(t) of a list, t a tuple or a list -/
theorem mExt {o e : Expr} {apos pos : Pos} {Q : Value → Shared → Prop} (hbase : attributeBase o (Str.ofString "extend") env (eval o env) = eval o env) (hline : (apos.endLine == pos.line) = true)
    (htrees : backTo pos (starEach [e] env) = [(false, eval e env)])
    (k : wpAny (model prog w) A (eval o env) (fun ov s₁ => ∃ l, ∃ vs : List Value, ov = .ref l ∧ 241 < l ∧ s₁.heap.PlainList l vs.toArray ∧ 
      wpAny (model prog w) A (eval e env) (fun v s₂ => ∃ h₂ tk₂ b us, s₂ = ⟨h₂, g, d, tk₂, os⟩ ∧ v = .ref b ∧ (IsTup h₂ b (us : List Value).toArray ∨ h₂.IsList b (us : List Value).toArray) ∧ h₂.PlainList l vs.toArray ∧ vs.length + us.length ≤ sizeLine ∧ ∀ h', Step w mg mb [l] h₂ h' → h'.PlainList l (vs ++ us).toArray → Q .none ⟨h', g, d, tk₂, os⟩) E s₁) E ⟨h, g, d, tk, os⟩) :
    wpAny (model prog w) A (eval (.Call (.Attribute o (Str.ofString "extend") apos) [e] [] pos) env) Q E ⟨h, g, d, tk, os⟩ := by
  refine wpAny_Call_method1_late hbase hline htrees (wpAny_mono k (fun ov s₁ q => ?_) fun _ _ x => x)
  obtain ⟨l, vs, rfl, h1, P, q⟩ := q
  refine ⟨"list", "list.extend", F.plainAttrs_list, F.slot_list_extend, F.type_list_extend, P.isList.typeIs, (fun a e => by cases e; obtain ⟨n, e⟩ := P; exact ⟨_, e, rfl⟩), callWith_builtin rfl (evalArgs_plain (spliced_cons (wpAny_mono q (fun v s₂ q => spliced_nil ?_) fun _ _ x => x)))⟩
  obtain ⟨h₂, tk₂, b, us, rfl, rfl, T, P₂, hsz, q⟩ := q
  obtain ⟨n, e₂⟩ := id P₂
  have hz : vs.toArray.size + us.toArray.size ≤ sizeLine := by simpa using hsz
  have fin : ∀ h', h' = h₂.update l (Obj.mapSeq fun x => x ++ us.toArray) → Q .none ⟨h', g, d, tk₂, os⟩ := fun h' e => by
    subst e
    obtain ⟨n', e'⟩ := mapSeq_app vs.toArray us.toArray n
    refine q _ (PL.step P₂ (Heap.SameBut.update ..) h1) ⟨n', ?_⟩
    rw [Heap.get?_update_self _ e₂ (by rw [e']; rfl), e']; simp
  rcases T with ⟨⟨cls, dct, dt, sl⟩, eb, hc, n2, hd⟩ | ⟨⟨cls, dct, dt, sl⟩, eb, hc, n2, hd⟩
  · replace hc : cls = .type "tuple" := hc
    replace hd : dt = .seq us.toArray n2 := hd
    subst hc hd
    exact call_meets F.slot_list_extend P₂.isList.typeIs F.entry_list_extend (F.args_list_extend_2 _ _) (ext_tup l vs.toArray n b us.toArray n2 dct sl (ext_fit hz) (by omega) (by omega)) ⟨e₂, eb, fin _ rfl⟩
  · replace hc : cls = .type "list" := hc
    replace hd : dt = .seq us.toArray n2 := hd
    subst hc hd
    exact call_meets F.slot_list_extend P₂.isList.typeIs F.entry_list_extend (F.args_list_extend_2 _ _) (ext_list l vs.toArray n b us.toArray n2 dct sl (ext_fit hz) (by omega) (by omega)) ⟨e₂, eb, fin _ rfl⟩
end

section
variable {prog : Program} {w : World} {mg mb : Str → Option Value} {A : Around} {E : Value → Shared → Prop} {hE h h' : Heap} {env : Env} {m cm : Str → Option Value} {wr : List Addr}
  {g : Array GenState} {d : Drawn} {tk : Nat} {os : OsState}
theorem XL {l : Addr} {vs : List Value} {ds : List PyData} (hl : h.IsList l vs.toArray) (xs : XTs h vs ds) : Reads h (.ref l) (.list ds) [l] :=
  let ⟨_, e, c, _, q⟩ := hl; .list e c q (by simpa using xs)
theorem eqL {a b : Addr} {va vb : List Value} {da db : List PyData} {n : Nat} {Q : Value → Shared → Prop} (hA : Cx A n) (la : h.IsList a va.toArray) (xa : XTs h va da) (lb : h.IsList b vb.toArray) (xb : XTs h vb db) (ha : SeqAt.shaped (.list da) = true) (hb : SeqAt.shaped (.list db) = true)
    (k : Q (.bool (PyData.eqvAll da db)) ⟨h, g, d, tk, os⟩) : wpAny (model prog w) A (compareOp .Eq (.ref a) (.ref b)) Q E ⟨h, g, d, tk, os⟩ :=
  SeqAt.compareEq_shaped (XL la xa) (XL lb xb) ha hb hA.un64 (by simpa only [PyData.eqv] using k)
theorem neL {a b : Addr} {va vb : List Value} {da db : List PyData} {n : Nat} {Q : Value → Shared → Prop} (hA : Cx A n) (la : h.IsList a va.toArray) (xa : XTs h va da) (lb : h.IsList b vb.toArray) (xb : XTs h vb db) (ha : SeqAt.shaped (.list da) = true) (hb : SeqAt.shaped (.list db) = true)
    (k : Q (.bool (!PyData.eqvAll da db)) ⟨h, g, d, tk, os⟩) : wpAny (model prog w) A (compareOp .NotEq (.ref a) (.ref b)) Q E ⟨h, g, d, tk, os⟩ :=
  SeqAt.compareNe_shaped (XL la xa) (XL lb xb) ha hb hA.un64 (by simpa only [PyData.eqv] using k)
theorem ninL {x : Value} {b : Addr} {vb : List Value} {dx : PyData} {db : List PyData} {n : Nat} {Q : Value → Shared → Prop} (hA : Cx A n) (lb : h.IsList b vb.toArray) (xb : XTs h vb db) (rx : XT h x dx) (hxs : PyData.canLayAll0 db = true) (hd : dx.canLay0 = true) (hdd : dx.depth ≤ 64)
    (k : Q (.bool (!db.any fun y => PyData.eqv y dx)) ⟨h, g, d, tk, os⟩) : wpAny (model prog w) A (compareOp .NotIn x (.ref b)) Q E ⟨h, g, d, tk, os⟩ :=
  SeqAt.notIn_list_reads (XL lb xb) rx hxs hd (by have := hA.un; have := Nat.min_le_right (PyData.depthAll db) dx.depth; omega) k
theorem inL {x : Value} {b : Addr} {vb : List Value} {dx : PyData} {db : List PyData} {n : Nat} {Q : Value → Shared → Prop} (hA : Cx A n) (lb : h.IsList b vb.toArray) (xb : XTs h vb db) (rx : XT h x dx) (hxs : PyData.canLayAll0 db = true) (hd : dx.canLay0 = true) (hdd : dx.depth ≤ 64)
    (k : Q (.bool (db.any fun y => PyData.eqv y dx)) ⟨h, g, d, tk, os⟩) : wpAny (model prog w) A (compareOp .In x (.ref b)) Q E ⟨h, g, d, tk, os⟩ :=
  SeqAt.in_list_reads (XL lb xb) rx hxs hd (by have := hA.un; have := Nat.min_le_right (PyData.depthAll db) dx.depth; omega) k
theorem xExpr {e : Expr} {pos : Pos} {rest : List Stmt} {Q : Flow → Shared → Prop} {s : Shared} (hi : interactive env = false) (hs : swapsWith e none pos.line env = pure false)
    (k : wpAny (model prog w) A (eval e env) (fun _ s₁ => wpAny (model prog w) A (execs rest env) Q E s₁) E s) : wpAny (model prog w) A (execs (.Expr e pos :: rest) env) Q E s :=
  xCons (wpAny_Expr_any k hi hs)
theorem xWhile {test : Expr} {body rest : List Stmt} {pos : Pos} {Q : Flow → Shared → Prop} {s : Shared} (I : Nat → Shared → Prop) (n : Nat) (h0 : I n s)
    (turn : ∀ n s E', I n s → wpAny (model prog w) A (isTrue test env (eval test env)) (fun b s₂ =>
      if b = true then wpAny (model prog w) A (execs body env) (Turn (fun s₃ => ∃ m, m < n ∧ I m s₃) fun v s₃ => Q (.ret v) s₃) E' s₂ else wpAny (model prog w) A (execs rest env) Q E s₂) E' s) :
    wpAny (model prog w) A (execs (.While test body [] pos :: rest) env) Q E s := by
  refine xCons (wpAny_While (codeAny_whileLoop I (fun n s hI => ?_) n h0))
  refine wpAny_mono (turn n s _ hI) (fun b s₂ hb => ?_) fun _ _ x => x
  cases b with
  | true =>
    simp only [if_true] at hb ⊢
    refine wpAny_mono hb (fun f s₃ hf => ?_) fun _ _ x => x
    cases f with
    | next => exact hf
    | cont => exact hf
    | brk => exact hf.elim
    | ret v => exact hf
  | false =>
    simp only [Bool.false_eq_true, if_false] at hb ⊢
    exact wpAny_execs_nil hb
end

section
variable (prog : Program) (w : World) (mg mb : Str → Option Value) (A : Around) (hE : Heap) (env : Env) (m cm : Str → Option Value) (wr : List Addr) (g : Array GenState) (d : Drawn) (os : OsState)
inductive TFilH (α : Type) (elt test : Expr) (x : Str) (scope : Scope) (cl : List (Str × Addr)) (Q : Value → Shared → Prop) (ts : List α) (f : α → PyData) (b : α → Bool) (xv : Value) (s₁ : Shared) : Prop where
  | mk h₁ tk₁ : s₁ = ⟨h₁, g, d, tk₁, os⟩ →
    Fm w mg mb wr hE env m cm h₁ →
    XT h₁ xv (.tuple (ts.map f)) →
    ts.length ≤ sizeLine →
    (∀ (i : Nat) v (ti : α) C (m' : Str → Option Value) h₂ h₃ tk₃ E', ts[i]? = some ti → XT h₃ v (f ti) → Step w mg mb [] h₁ h₃ → Fm w mg mb [C] h₂ (compEnvC scope cl C env) (upd m' x v) cm h₃ → wpAny (model prog w) A (isTrue test (compEnvC scope cl C env) (eval test (compEnvC scope cl C env))) (fun ok s₄ => ok = b ti ∧ ∃ h₄ tk₄, s₄ = ⟨h₄, g, d, tk₄, os⟩ ∧ Step w mg mb [] h₃ h₄ ∧ (b ti = true → ∀ (F₄ : Fm w mg mb [C] h₂ (compEnvC scope cl C env) (upd m' x v) cm h₄) E'', wpAny (model prog w) A (eval elt (compEnvC scope cl C env)) (fun y s₅ => ∃ h₅ tk₅, s₅ = ⟨h₅, g, d, tk₅, os⟩ ∧ Step w mg mb [] h₄ h₅ ∧ XT h₅ y (f ti)) E'' s₄)) E' ⟨h₃, g, d, tk₃, os⟩) →
    (∀ D vs h' tk', Step w mg mb [] h₁ h' → Fm w mg mb wr hE env m cm h' → h'.IsList D vs.toArray → XTs h' vs ((ts.filter b).map f) → Q (.ref D) ⟨h', g, d, tk', os⟩) → TFilH  α elt test x scope cl Q ts f b xv s₁
end
section
variable {prog : Program} {w : World} {mg mb : Str → Option Value} {A : Around} {E : Value → Shared → Prop} {hE h hS : Heap} {env : Env} {m cm : Str → Option Value} {wr wr₀ : List Addr}
  {g : Array GenState} {d : Drawn} {tk : Nat} {os : OsState}
theorem os_filter {α : Type} {ts : List α} {f : α → PyData} {b : α → Bool} : ∀ {os' : List (Option PyData)}, os'.length = ts.length → (∀ (i : Nat) (o : Option PyData), os'[i]? = some o → ∃ t, ts[i]? = some t ∧ o = if b t = true then some (f t) else none) →
    os'.filterMap id = (ts.filter b).map f := by
  induction ts with
  | nil => intro os' hl _; rw [List.eq_nil_of_length_eq_zero hl]; rfl
  | cons t ts ih =>
    intro os' hl hR
    cases os' with
    | nil => simp at hl
    | cons o os' =>
      obtain ⟨t', e, ho⟩ := hR 0 o rfl
      cases e
      have := ih (os' := os') (by simpa using hl) fun i o' e => by
        obtain ⟨t', e', ho'⟩ := hR (i + 1) o' (by simpa using e)
        exact ⟨t', by simpa using e', ho'⟩
      cases hb : b t with
      | true => rw [if_pos hb] at ho; subst ho; simp [List.filter_cons, hb, this]
      | false => rw [if_neg (by rw [hb]; decide)] at ho; subst ho; simp [List.filter_cons, hb, this]

theorem compT_filter {α : Type} {elt iter test : Expr} {x : Str} {px : Pos} {scope : Scope} {cl : List (Str × Addr)} {pos : Pos} {Q : Value → Shared → Prop} (_F : Fm w mg mb wr hE env m cm hS) (ts : List α) (f : α → PyData) (b : α → Bool) {n : Nat} (hA : Cx A n)
    (hclos : closureFor scope env = pure cl) (hkind : scope.kind = .function) (hnames : ∀ x ∈ scope.names, x.2 = .local → scope.names.lookup x.1 = some .local) (hs : ∀ x, foldedSetIterable iter env x = pure x)
    (hcell : ∀ y ∈ scope.names, y.2 ≠ .cell) (hx : scope.names.lookup x = some .local) (hcl : ∀ p ∈ cl, env.cells.lookup p.1 = some p.2)
    (k : wpAny (model prog w) A (eval iter env) (fun xv s₁ => TFilH prog w mg mb A hE env m cm wr g d os α elt test x scope cl Q ts f b xv s₁) E ⟨hS, g, d, tk, os⟩) :
    wpAny (model prog w) A (eval (.ListComp elt [⟨.Name x px, iter, [test], 0⟩] scope pos) env) Q E ⟨hS, g, d, tk, os⟩ := by
  refine compE hclos hkind hnames hs (wpAny_mono k (fun xv s₁ hk => ?_) fun _ _ e => e)
  obtain ⟨h₁, tk₁, rfl, F, X, hsz, helt, hfin⟩ := hk
  obtain ⟨t, vs, rfl, hT, xs⟩ := X.tup
  refine comp_tuple (wr := []) F hA hT xs (by rw [List.length_map]; exact hsz) hcell hkind hcl (fun _ q => nomatch q)
    ⟨fun i o => ∃ t, ts[i]? = some t ∧ o = if b t = true then some (f t) else none, fun _ => True, trivial, fun _ _ _ _ _ _ => trivial, ?_, ?_⟩
  · rintro i v C m₃ h₃ tk₃ E' hi ⟨di, hdi, xv⟩ _ st hC F₃ hl
    obtain ⟨ti, hti, rfl⟩ : ∃ ti, ts[i]? = some ti ∧ f ti = di := by simpa using hdi
    refine wpAny_assign_Name (stL F₃ (lookup_relabel_local hx) (by simp [compEnvC, relabel, hkind]) fun h' st' F' => ?_)
    have st'' : Step w mg mb [C] h₃ h' := hl ▸ st'
    refine wpAny_tests_one (wpAny_mono (helt i v ti C m₃ h₃ h' _ E' hti (xv.up st'') (st.off st'' hC) F') (fun ok s₄ q => ?_) fun _ _ x => x)
    obtain ⟨rfl, h₄, tk₄, rfl, st₄, q⟩ := q
    cases hb : b ti with
    | false => exact ⟨h₄, tk₄, _, rfl, F'.up st₄, ⟨ti, hti, by simp [hb]⟩, trivial⟩
    | true =>
      simp only [if_true]
      refine wpAny_mono (q hb (F'.up st₄) _) (fun y s₅ q => ?_) fun _ _ x => x
      obtain ⟨h₅, tk₅, rfl, st₅, xy⟩ := q
      exact ⟨h₅, tk₅, _, _, rfl, (F'.up st₄).up st₅, xy, ⟨ti, hti, by simp [hb]⟩, trivial⟩
  · intro D ys os' h' tk' hl hR _ st hD h1 hL xs'
    exact hfin D ys h' tk' st (F.up st) hL (os_filter (hl.trans (by simp)) hR ▸ xs')
theorem Dct.go {td : Addr} {kvs : List (Str × Value)} {h' : Heap} {wr₂ : List Addr} (st : Step w mg mb wr₂ h h') (F : Fm w mg mb wr hE env m cm h) (x : Dct prog w h td kvs) (hw : td ∉ wr₂) : Dct prog w h' td kvs := x.up F.G st hw
end

section
variable {prog : Program} {w : World} {mg mb : Str → Option Value} {A : Around} {E : Value → Shared → Prop} {hE h hS : Heap} {env : Env} {m cm : Str → Option Value} {wr wr₀ : List Addr}
  {g : Array GenState} {d : Drawn} {tk : Nat} {os : OsState}
/-- the value of enumerate(t), made at the heap h, of the values vs -/
def EnAt (g : Array GenState) (d : Drawn) (os : OsState) (vs : List Value) (h : Heap) (xv : Value) (s₁ : Shared) : Prop :=
  ∃ h₂ tk e it t, xv = .ref e ∧ s₁ = ⟨h₂, g, d, tk, os⟩ ∧ Ext h h₂ ∧ IsEnum h₂ e it (0 : Nat) .none ∧ e = it + 1 ∧ it = h.objs.size ∧
    ((IsTup h t vs.toArray ∧ h₂.IsTupleIter it t 0) ∨ (h.IsList t vs.toArray ∧ h₂.IsListIter it t 0))
theorem callEn {t : Addr} {vs : List Value} {Q : Value → Shared → Prop} (hT : IsTup h t vs.toArray ∨ h.IsList t vs.toArray) (k : ∀ xv s₁, EnAt g d os vs h xv s₁ → Q xv s₁) :
    wpAny (model prog w) A (call (.type "enumerate") [.ref t]) Q E ⟨h, g, d, tk, os⟩ := by
  rcases hT with hT | hT
  · exact callEnum_tup (s := ⟨h, g, d, tk, os⟩) hT fun h' he hi ex => k _ _ ⟨h', tk, _, _, t, rfl, rfl, ex, he, rfl, rfl, .inl ⟨hT, hi⟩⟩
  · exact call_enumerate_list (s := ⟨h, g, d, tk, os⟩) hT fun h' he hi _ ex => k _ _ ⟨h', tk, _, _, t, rfl, rfl, ex, he, rfl, rfl, .inr ⟨hT, hi⟩⟩
theorem enum_turns {n : Nat} (hA : Cx A n) {e it t : Addr} (vs : List Value) (h1 : e ≠ it) (h2 : t ≠ e) (h3 : t ≠ it) (T : Bool) (elts : List Expr) (kx : Nat) (pos : Pos) :
    ∃ Md : Nat → Value → Heap → Prop, KTurns prog w A (.Tuple elts kx pos) e [e, it, t] [e, it] vs.length (fun i v h => ∃ T u x, v = .ref T ∧ vs[i]? = some x ∧ IsTup h T #[.int i u, x]) Md
      (fun i h => (∃ old, IsEnum h e it i old) ∧ if T then h.IsTupleIter it t i ∧ h.IsTuple t vs.toArray else h.IsListIter it t i ∧ h.IsList t vs.toArray) := by
  have fix : ∀ {P Md : Nat → Value → Heap → Prop} {St : Nat → Heap → Prop}, KTurns prog w A (.Tuple elts kx pos) e [e, it, t] [e, it] vs.toArray.size P Md St → (∀ i v h, P i v h → ∃ T u x, v = .ref T ∧ vs[i]? = some x ∧ IsTup h T #[.int i u, x]) →
      ∃ Md : Nat → Value → Heap → Prop, KTurns prog w A (.Tuple elts kx pos) e [e, it, t] [e, it] vs.length (fun i v h => ∃ T u x, v = .ref T ∧ vs[i]? = some x ∧ IsTup h T #[.int i u, x]) Md St := fun {P Md St} W hP =>
    ⟨Md, { sub := W.sub, frame := W.frame, item := fun i s Q E hi => W.item i s Q E (by rw [List.size_toArray]; exact hi), go := fun i v s Q E hm q => W.go i v s Q E hm fun h' p => q h' (hP _ _ _ p), done := fun s Q E st => W.done s Q E (by rw [List.size_toArray]; exact st) }⟩
  have pt : ∀ (i : Nat) (v : Value) (h : Heap), (∃ T vals, v = Value.ref T ∧ (∃ t x, vs.toArray[i]? = some x ∧ vals = #[.int i t, x]) ∧ h.IsTuple T vals) → ∃ T u x, v = .ref T ∧ vs[i]? = some x ∧ IsTup h T #[.int i u, x] := by
    rintro i v h ⟨T, vals, rfl, ⟨u, x, hx, rfl⟩, hT⟩
    exact ⟨T, u, x, rfl, by simpa using hx, hT⟩
  cases T with
  | true =>
    have W := KTurns.ofWalksU (elts := elts) (k := kx) (pos := pos) (WalksT.enumerateD (prog := prog) (w := w) (A := A) (draws_tup (A := A.in1) hA.hh it t h3 vs.toArray) e h1 (by simp [h1, h2.symm]) (by simp)).toU
    exact fix W pt
  | false =>
    have W := KTurns.ofWalksU (elts := elts) (k := kx) (pos := pos) (WalksT.enumerateD (prog := prog) (w := w) (A := A) (Draws.list (A := A.in1) hA.hh it t h3 vs.toArray) e h1 (by simp [h1, h2.symm]) (by simp)).toU
    exact fix W pt

theorem compEn {elt iter : Expr} {elts : List Expr} {kx : Nat} {pt : Pos} {ifs : List Expr} {scope : Scope} {cl : List (Str × Addr)} {pos : Pos} {n : Nat} {Q : Value → Shared → Prop} (_F : Fm w mg mb wr₀ hE env m cm hS) (hA : Cx A n)
    (hclos : closureFor scope env = pure cl) (hkind : scope.kind = .function) (hnames : ∀ x ∈ scope.names, x.2 = .local → scope.names.lookup x.1 = some .local) (hs : ∀ x, foldedSetIterable iter env x = pure x)
    (hcell : ∀ y ∈ scope.names, y.2 ≠ .cell) (hcl : ∀ p ∈ cl, env.cells.lookup p.1 = some p.2)
    (k : wpAny (model prog w) A (eval iter env) (fun xv s₁ => ∃ h, ∃ vs : List Value, EnAt g d os vs h xv s₁ ∧ Fm w mg mb wr₀ hE env m cm h ∧ vs.length ≤ sizeLine ∧
      CompAt prog w mg mb A elt (.Tuple elts kx pt) ifs (fun C => compEnvC scope cl C env) cm g d os [] vs.length (fun i v h => ∃ T u x, v = .ref T ∧ vs[i]? = some x ∧ IsTup h T #[.int i u, x]) Q h) E ⟨hS, g, d, tk, os⟩) :
    wpAny (model prog w) A (eval (.ListComp elt [⟨.Tuple elts kx pt, iter, ifs, 0⟩] scope pos) env) Q E ⟨hS, g, d, tk, os⟩ := by
  refine compE hclos hkind hnames hs (wpAny_mono k (fun xv s₁ hk => ?_) fun _ _ e => e)
  obtain ⟨h, vs, ⟨h₂, tk₂, e, it, t, rfl, rfl, ex, he, e1, e2, hT⟩, F, hsz, k⟩ := hk
  have sz : (242 : Nat) ≤ h.objs.size := F.G.sz
  refine wpAny_pyIter_enum (s := ⟨h₂, g, d, tk₂, os⟩) he ?_
  have ni : h.get? it = none := Heap.get?_none_of_le (by rw [e2]; exact Nat.le_refl _)
  have ne : h.get? e = none := Heap.get?_none_of_le (by rw [e1, e2]; exact Nat.le_succ _)
  have li : 241 < it := by rw [e2]; exact Nat.lt_of_lt_of_le (by decide) sz
  have le : 241 < e := by rw [e1]; exact Nat.lt_succ_of_lt li
  have h1 : e ≠ it := by rw [e1]; exact Nat.succ_ne_self _
  have ht : ∃ o, h.get? t = some o := by
    rcases hT with ⟨⟨o, e, _⟩, _⟩ | ⟨⟨o, e, _⟩, _⟩ <;> exact ⟨o, e⟩
  have h2 : t ≠ e := by rintro rfl; obtain ⟨o, q⟩ := ht; rw [ne] at q; cases q
  have h3 : t ≠ it := by rintro rfl; obtain ⟨o, q⟩ := ht; rw [ni] at q; cases q
  have ht87 : t ≠ 87 := by rcases hT with ⟨hT, _⟩ | ⟨hT, _⟩; exact tup_ne87 F.G hT; exact IsList.ne87 F.G hT
  have hst : ∃ T : Bool, (∃ old, IsEnum h₂ e it (0 : Nat) old) ∧ if T then h₂.IsTupleIter it t 0 ∧ h₂.IsTuple t vs.toArray else h₂.IsListIter it t 0 ∧ h₂.IsList t vs.toArray := by
    rcases hT with ⟨hT, hi⟩ | ⟨hT, hi⟩
    · exact ⟨true, ⟨_, he⟩, hi, Heap.IsTuple.at (show h.IsTuple t vs.toArray from hT) fun o q => ex _ o q⟩
    · exact ⟨false, ⟨_, he⟩, hi, hT.at fun o q => ex _ o q⟩
  obtain ⟨T, hst⟩ := hst
  obtain ⟨Md, W⟩ := enum_turns (prog := prog) (w := w) hA vs h1 h2 h3 T elts kx pt
  refine comp_at (wr := []) (F.up (.of_ext ex)) W (fun s Q E st q => let ⟨⟨_, he⟩, _⟩ := st; wpAny_pyIter_enum he q) hsz ex ?_ hcell hkind hcl hst ?_ ?_ ?_ (fun _ q => nomatch q) ?_ k
  · intro b hb
    rcases List.mem_cons.mp hb with rfl | hb
    · exact ne
    · rw [List.mem_singleton.mp hb]; exact ni
  · intro b hb
    rcases List.mem_cons.mp hb with rfl | hb
    · exact ⟨_, he⟩
    · rcases List.mem_cons.mp hb with rfl | hb
      · rcases hT with ⟨_, o, e, _⟩ | ⟨_, o, e, _⟩ <;> exact ⟨o, e⟩
      · rw [List.mem_singleton.mp hb]; obtain ⟨o, q⟩ := ht; exact ⟨o, ex _ _ q⟩
  · intro b hb
    refine ⟨?_, fun q => nomatch q⟩
    rcases List.mem_cons.mp hb with rfl | hb
    · exact ne87 le
    · rcases List.mem_cons.mp hb with rfl | hb
      · exact ne87 li
      · rw [List.mem_singleton.mp hb]; exact ht87
  · intro i h' st b hb
    obtain ⟨⟨old, q1⟩, q2⟩ := st
    rcases List.mem_cons.mp hb with rfl | hb
    · exact ⟨le, _, q1, ⟨_, rfl, by simp⟩, _, rfl, by simp⟩
    · rw [List.mem_singleton.mp hb]
      cases T with
      | true =>
        obtain ⟨⟨o, e, hc, hd⟩, _⟩ := q2
        exact ⟨li, o, e, ⟨_, hc, by simp⟩, _, hd, by simp⟩
      | false =>
        obtain ⟨⟨o, e, hc, hd⟩, _⟩ := q2
        exact ⟨li, o, e, ⟨_, hc, by simp⟩, _, hd, by simp⟩
  · intro n c hc
    refine ⟨fun q => ?_, fun q => nomatch q⟩
    rcases List.mem_cons.mp q with rfl | q
    · exact new_ne_cell F ne n _ hc rfl
    · exact new_ne_cell F ni n c hc (List.mem_singleton.mp q)
theorem strI {i : Nat} {t : Tok} {Q : Value → Shared → Prop} (hi : i < 1000) (k : Q (.str (Str.ofString (toString i)) tk) ⟨h, g, d, tk + 1, os⟩) : wpAny (model prog w) A (call (.type "str") [.int i t]) Q E ⟨h, g, d, tk, os⟩ := by
  refine P.str_of_int (s := ⟨h, g, d, tk, os⟩) ?_ k
  have : Nat.log2 i < 10 := by
    by_cases h0 : i = 0
    · subst h0; decide
    · exact (Nat.log2_lt h0).mpr (by omega)
  show Nat.log2 i < 1920
  omega
end

section
variable {prog : Program} {w : World} {mg mb : Str → Option Value} {A : Around} {E : Value → Shared → Prop} {hE h h' : Heap} {env : Env} {m cm : Str → Option Value} {wr : List Addr}
  {g : Array GenState} {d : Drawn} {tk : Nat} {os : OsState}
/-- an item of a list, of a tuple: whatever it is -/
theorem subLV {value slice : Expr} {l : Addr} {vs : List Value} {i : Int} {u : Tok} {y : Value} {Q : Value → Shared → Prop} (hl : h.IsList l vs.toArray) (hy : vs[i.toNat]? = some y) (hi : 0 ≤ i) (hhi : i < 2 ^ 63)
    (hs : subscripted slice false (.ref l) (.int i u) = operate [.ref l, .int i u] (getItem (.ref l) (.int i u)))
    (k : Q y ⟨h, g, d, tk, os⟩) : wpAny (model prog w) A (subscriptTail value slice (.ref l) (.int i u)) Q E ⟨h, g, d, tk, os⟩ :=
  tail_any hl.typeIs slot_list_getitem.lookup (wpAny_getItem_list hl hi hhi (by simpa using hy) k) hs
theorem subTV {value slice : Expr} {t : Addr} {vs : List Value} {i : Int} {u : Tok} {y : Value} {Q : Value → Shared → Prop} (ht : IsTup h t vs.toArray) (hy : vs[i.toNat]? = some y) (hi : 0 ≤ i) (hhi : i < 2 ^ 63)
    (hs : subscripted slice false (.ref t) (.int i u) = operate [.ref t, .int i u] (getItem (.ref t) (.int i u)))
    (k : Q y ⟨h, g, d, tk, os⟩) : wpAny (model prog w) A (subscriptTail value slice (.ref t) (.int i u)) Q E ⟨h, g, d, tk, os⟩ := by
  have hlt : i.toNat < vs.length := (List.getElem?_eq_some_iff.mp hy).1
  refine item_tupleT ht (by omega) hhi (j := i.toNat) ?_ hy k hs
  have e0 : (if i < 0 then i + (vs.length : Int) else i) = i := if_neg (by omega)
  unfold seqIndex?
  simp only [e0]
  have e1 : (decide (0 ≤ i) && decide (i < (vs.length : Int))) = true := by simp only [Bool.and_eq_true, decide_eq_true_eq]; omega
  rw [if_pos e1]
theorem dzX {v1 v2 : Value} {ps us : List PyData} {Q : Value → Shared → Prop} (F : Fm w mg mb wr hE env m cm h) (x1 : XT h v1 (.tuple ps)) (x2 : XT h v2 (.tuple us))
    (q : ∀ z h₁, Fm w mg mb wr hE env m cm h₁ → (∀ {A : Around} {E : Value → Shared → Prop} {tk : Nat} {Q : Value → Shared → Prop} {nm : Str} {u : PyData}, A.handled = none → ((ps = [] ∧ us = []) ∨ (ps = [.str nm] ∧ us = [u])) →
        (∀ D h' tk' kvs, Step w mg mb [] h h' → Fm w mg mb wr hE env m cm h' → Dct prog w h' D kvs → 241 < D → h.get? D = none → ((ps = [] ∧ kvs = []) ∨ (us = [u] ∧ ∃ y, kvs = [(nm, y)] ∧ XT h' y u)) → Q (.ref D) ⟨h', g, d, tk', os⟩) →
        wpAny (model prog w) A (call (.type "dict") [.ref z]) Q E ⟨h₁, g, d, tk, os⟩) → Q (.ref z) ⟨h₁, g, d, tk, os⟩) :
    wpAny (model prog w) A (call (.type "zip") [v1, v2]) Q E ⟨h, g, d, tk, os⟩ := by
  obtain ⟨t1, vs1, rfl, hT1, xs1⟩ := x1.tup
  obtain ⟨t2, vs2, rfl, hT2, xs2⟩ := x2.tup
  refine callZip (s := ⟨h, g, d, tk, os⟩) hT1 hT2 fun h' z a b i j P H nw ge ex => q z h' (F.up (.of_ext ex)) fun {A E tk₁ Q nm u} hh hc k => ?_
  have sz : 242 ≤ h.objs.size := F.G.sz
  have hz : h.objs.size ≤ h'.objs.size := by
    have : ∃ o, h'.get? z = some o := ⟨_, H.Z⟩
    obtain ⟨o, e⟩ := this
    exact Nat.le_trans ge.2.2.2 (Nat.le_of_lt (Heap.lt_size e))
  rcases hc with ⟨rfl, rfl⟩ | ⟨rfl, rfl⟩
  · obtain rfl := xs1.inv0
    obtain rfl := xs2.inv0
    exact callDZ (xs := []) (ys := []) hh P H (Heap.IsTuple.at (show h.IsTuple t1 #[] from hT1) fun o e => ex _ o e) (Heap.IsTuple.at (show h.IsTuple t2 #[] from hT2) fun o e => ex _ o e) rfl (by decide) ex nw sz hz
      fun D h'' tk' ex' n l D' => k D h'' tk' _ (.of_ext ex') (F.up (.of_ext ex')) D' l n (.inl ⟨rfl, rfl⟩)
  · obtain ⟨y1, vs1, rfl, xy1, xs1⟩ := xs1.inv
    obtain ⟨y2, vs2, rfl, xy2, xs2⟩ := xs2.inv
    obtain rfl := xs1.inv0
    obtain rfl := xs2.inv0
    obtain ⟨t, rfl⟩ := xy1.str_inv
    exact callDZ (xs := [(nm, t)]) (ys := [y2]) hh P H (Heap.IsTuple.at (show h.IsTuple t1 #[.str nm t] from hT1) fun o e => ex _ o e) (Heap.IsTuple.at (show h.IsTuple t2 #[y2] from hT2) fun o e => ex _ o e) rfl (Nat.le_refl _) ex nw sz hz
      fun D h'' tk' ex' n l D' => k D h'' tk' _ (.of_ext ex') (F.up (.of_ext ex')) D' l n (.inr ⟨rfl, y2, rfl, xy2.up (.of_ext ex' : Step w mg mb [] h h'')⟩)
end

section
variable {prog : Program} {w : World} {mg mb : Str → Option Value} {h h' : Heap}
theorem Gd.at87 (G : Gd w mg mb h) (k : ∀ b o, b ≠ 87 → h.get? b = some o → h'.get? b = some o) (t : TabOk h') : Gd w mg mb h' := by
  have ns : ∀ b m, b ≠ 87 → h.Ns b m → h'.Ns b m := fun b m hb ⟨o, es, ep, e, r⟩ => ⟨o, es, ep, k b o hb e, r⟩
  have X : (hd.heap_1 w.params).In h' := fun b o e => k b o (by
    rintro rfl
    have q : (hd.heap_1 w.params).lookup 87 = none := by rfl
    rw [q] at e; cases e) (G.X b o e)
  refine ⟨X, ns _ _ (by decide) G.g, ns _ _ (by decide) G.b, let ⟨mc, a, r⟩ := G.lim; ⟨mc, ns _ _ (by decide) a, r⟩, G.bi, ?_, size_of_K X, t⟩
  obtain ⟨bm, ob, a, b, c, e, r⟩ := G.bm
  refine ⟨bm, ob, a, b, c, k _ _ ?_ e, r⟩
  rintro rfl
  rcases G.tab with q | ⟨_, _, _, q, _⟩ <;> (rw [q] at e; cases e; cases r.1)
theorem code89 (G : Gd w mg mb h) : CodeHd h 89 87 := by
  have e : ∃ o vs file tf flags tg inF text tt, (hd.heap_1 w.params).lookup 89 = some o ∧ o.cls = .type "code" ∧ o.data = .fields vs ∧ vs[11]? = some (.ref 87) ∧ vs.getD 11 .none = .ref 87 ∧ vs.getD 18 .none = .str file tf ∧
    vs.getD 7 .none = .int flags tg ∧ vs.getD 9 .none = .bool inF ∧ vs.getD 10 .none = .int text tt ∧ (89 : Addr) ≠ 87 := ⟨_, _, _, _, _, _, _, _, _, rfl, rfl, rfl, rfl, rfl, rfl, rfl, rfl, rfl, by decide⟩
  obtain ⟨o, vs, a, b, c, d, f, i, j, e, r⟩ := e
  exact ⟨o, vs, a, b, c, d, f, i, j, G.X _ _ e, r⟩
end
section
variable {prog : Program} {w : World} {mg mb : Str → Option Value} {A : Around} {E : Value → Shared → Prop} {hE h h' : Heap} {env : Env} {m cm : Str → Option Value} {wr : List Addr}
  {g : Array GenState} {d : Drawn} {tk : Nat} {os : OsState}
theorem mkFn {name qual : Str} {params : Arguments} {body : List Stmt} {scope : Scope} {clos : List (Str × Addr)} {pos : Pos} {fl : Nat} {Q : Value → Shared → Prop} (F : Fm w mg mb wr hE env m cm h) (hcl : closureFor scope env = pure clos) (hge : env.globals = mainGlobals) (hcode : env.code = .ref 89) (hq : qual = Str.ofString "fields_of.<locals>.put_in") (hl : pos.line = 94) (hc : pos.col = 4)
    (k : ∀ f ctv doc pm c' h' tk', Step w mg mb [] h h' → Fm w mg mb wr hE env m cm h' → h'.get? f = some (fnMade name (Str.ofString "fields_of.<locals>.put_in") params body scope clos doc pm c' ctv) → h'.CodeRec (.ref c') (Str.ofString "fields_of.<locals>.put_in") → 241 < c' → Q (.ref f) ⟨h', g, d, tk', os⟩) :
    wpAny (model prog w) A (makeFunction name qual params (.stmts body) scope env [] [] [] pos fl) Q E ⟨h, g, d, tk, os⟩ := by
  subst hq
  have G := F.G
  have C := code89 G
  have hb : h.BuiltinsAt mg 87 := by
    obtain ⟨bm, ob, a, b, c, e, r⟩ := G.bm
    refine ⟨bm, ob, a, b, ?_, ?_, e, r⟩
    · rintro rfl
      obtain ⟨o, es, ep, e2, hd, _⟩ := G.g
      rw [e] at e2; cases e2; rw [r.2.2] at hd; cases hd
    · rintro rfl
      rcases G.tab with q | ⟨_, _, _, q, _⟩ <;> (rw [q] at e; cases e; cases r.1)
  have no87 : ∀ o, h.get? 87 = some o → ¬ (o.cls = .type "tuple") := fun o e => by
    rcases G.tab with q | ⟨_, _, _, q, _⟩ <;> (rw [q] at e; cases e; exact fun c => by cases (show Value.none = Value.type "tuple" from c))
  have step : ∀ {h' : Heap}, Heap.ExtBut 87 h h' → TabOk h' → Step w mg mb [] h h' := fun {h'} x t =>
    ⟨fun b o hb _ e => x b o hb e, fun b o e c q => x b o (by rintro rfl; exact no87 _ e c) e, fun G => G.at87 (fun b o hb e => x b o hb e) t⟩
  rcases G.tab with q | ⟨l, c, c', q, e1, e2, e3, hrec⟩
  · refine makeFunction_K (s := ⟨h, g, d, tk, os⟩) hcl hge G.g hcode C q trivial rfl (by decide) hb fun c' ctv doc h' tk' hx hge' hlt hrec htb => ?_
    have big : 241 < c' := Nat.lt_of_lt_of_le (by decide) (Nat.le_trans G.sz hge')
    have st : Step w mg mb [] h h' := step hx (.inr ⟨pos.line, pos.col, c', by simpa using htb, by rw [hl]; rfl, by rw [hc]; rfl, big, hrec⟩)
    exact k _ ctv doc _ c' _ tk' (st.trans (.push _)) (F.up (st.trans (.push _))) (Heap.get?_push_size _ rfl) (hrec.keeps (Ext.push _ _)) big
  · subst e1 e2
    refine makeFunction_hit (s := ⟨h, g, d, tk, os⟩) (cv := .ref c') hcl hge G.g hcode C q trivial ?_ hb fun ctv doc h' tk' hx hsz => ?_
    · show codeAmong pos [rawInt 94, rawInt 4, .ref c'] = _
      simp [codeAmong, rawInt, hl, hc]
    · have st : Step w mg mb [] h h' := .of_ext hx
      exact k _ ctv doc _ c' _ tk' (st.trans (.push _)) (F.up (st.trans (.push _))) (Heap.get?_push_size _ rfl) ((hrec.keeps hx).keeps (Ext.push _ _)) e3
/-- into a nested def -/
theorem enterX {f : Addr} {vals : List Value} {binds : List (Str × Value)} {Q : Value → Shared → Prop} {n : Nat}
    {name qual : Str} {params : Arguments} {body : List Stmt} {scope : Scope} {cl : List (Str × Addr)} {doc pm ctv : Value} {c' : Addr} {cm : Str → Option Value}
    (G : Gd w mg mb h) (hA : Cx A (n + 1)) (ho : h.get? f = some (fnMade name qual params body scope cl doc pm c' ctv)) (hcd : h.CodeRec (.ref c') qual)
    (hbind : BindsTo ⟨h, g, d, tk, os⟩ (fnX name qual params body scope cl .none .none doc pm none (.ref c') ctv) ⟨vals, []⟩ binds)
    (hloc : ∀ y ∈ binds, scope.names.lookup y.1 = some .local) (hcell : ∀ x ∈ scope.names, x.2 ≠ .cell) (hcells : ∀ n c, cl.lookup n = some c → h.IsCell c (cm n) ∧ c ≠ 87)
    (hco : scope.isCoroutine = false) (hgen : scope.isGenerator = false) (hk : scope.kind = .function)
    (k : ∀ L h₁ tk₁ E', Step w mg mb [] h h₁ → Fm w mg mb [] h (envX qual scope L f (.ref c') cl) (fun x => binds.reverse.lookup x) cm h₁ → Cx (A.deeper (envX qual scope L f (.ref c') cl)) n →
      wpAny (model prog w) (A.deeper (envX qual scope L f (.ref c') cl)) (execs body (envX qual scope L f (.ref c') cl)) (Back Q) E' ⟨h₁, g, d, tk₁, os⟩) :
    wpAny (model prog w) A (call (.ref f) vals) Q E ⟨h, g, d, tk, os⟩ := by
  refine wpAny_call (codeAny_call_def (s := ⟨h, g, d, tk, os⟩) hA.room ho rfl G.lim1 hcd rfl hbind hcell hloc (fun h₁ hns hk₁ => ?_) hco hgen hk)
  have st : Step w mg mb [] h h₁ := .of_ext hk₁
  refine k h.objs.size h₁ _ _ st ⟨hns, fun n c hc => (hcells n c hc).1.keeps hk₁, fun n c hc => ⟨?_, (hcells n c hc).2⟩, Nat.lt_of_succ_le G.sz, .inl (Heap.get?_none_of_le (Nat.le_refl _)), st, G⟩ (hA.deeper _)
  obtain ⟨o, e, _⟩ := (hcells n c hc).1
  exact Nat.ne_of_lt (Heap.lt_size e)
end

section
variable {prog : Program} {w : World} {mg mb : Str → Option Value} {A : Around} {E : Value → Shared → Prop} {hE h h' : Heap} {env : Env} {m cm : Str → Option Value} {wr : List Addr}
theorem ne_cell (F : Fm w mg mb wr hE env m cm h) {a c : Addr} {o : Obj} {n : Str} (e : h.get? a = some o) (hd : ∀ x, o.data ≠ .cell x) (hc : env.cells.lookup n = some c) : a ∉ [c] := fun q => by
  obtain ⟨o', e', hd'⟩ := F.cell n c hc
  rw [List.mem_singleton.mp q, e'] at e
  cases e
  exact hd _ hd'
theorem dct_cell (F : Fm w mg mb wr hE env m cm h) {a c : Addr} {kvs : List (Str × Value)} {n : Str} (D : Dct prog w h a kvs) (hc : env.cells.lookup n = some c) : a ∉ [c] := by
  obtain ⟨o, es, ep, e, hx, hd, _⟩ := D
  exact ne_cell F e (fun x q => by rw [hd] at q; cases q) hc
theorem fn87 (G : Gd w mg mb h) {a : Addr} {o : Obj} {fd : FuncData} (e : h.get? a = some o) (hd : o.data = .func fd) : a ≠ 87 := by
  rintro rfl
  rcases G.tab with q | ⟨_, _, _, q, _⟩ <;> (rw [q] at e; cases e; cases hd)
theorem Gd.rec87 {c : Addr} {q : Str} (st : Step w mg mb wr h h') (hc : 241 < c) (x : h.CodeRec (.ref c) q) (hn : ∀ o, h.get? c = some o → (∃ vs, o.data = .fields vs) → c ∉ wr) : h'.CodeRec (.ref c) q := by
  obtain ⟨c2, oc, vs, t, e1, e2, e3, e4⟩ := x
  cases e1
  exact ⟨_, oc, vs, t, rfl, st.keep _ _ (ne87 hc) (hn _ e2 ⟨_, e3⟩) e2, e3, e4⟩
end
section
variable {prog : Program} {w : World} {mg mb : Str → Option Value} {A : Around} {E : Value → Shared → Prop} {hE h : Heap} {env : Env} {m cm : Str → Option Value} {wr : List Addr}
  {g : Array GenState} {d : Drawn} {tk : Nat} {os : OsState}
theorem nameF {x : Str} {pos : Pos} {v : Value} {c : Addr} {Q : Value → Shared → Prop} (F : Fm w mg mb wr hE env m cm h) (hl : env.kindOf x = some .free) (hc : env.cells.lookup x = some c) (hv : cm x = some v) (hk : env.scope.kind = .function) (hd : (x == ("__debug__" : Str)) = false) (hd2 : (x == ("__classdict__" : Str)) = false)
    (k : Q v ⟨h, g, d, tk, os⟩) : wpAny (model prog w) A (eval (.Name x pos) env) Q E ⟨h, g, d, tk, os⟩ := wpAny_Name (wpAny_loadName_free hk hl hc (hv ▸ F.cell x c hc) k (hn := hd2)) hd
end
section
variable {prog : Program} {w : World} {mg mb : Str → Option Value} {A : Around} {E : Value → Shared → Prop} {hE h h' : Heap} {env : Env} {m cm : Str → Option Value} {wr : List Addr}
  {g : Array GenState} {d : Drawn} {tk : Nat} {os : OsState}
/-- a while loop -/
theorem xWhileF {test : Expr} {body rest : List Stmt} {pos : Pos} {Q : Flow → Shared → Prop} (F : Fm w mg mb wr hE env m cm h) (names : List Str) (J : Nat → Heap → Prop) (n : Nat) (J0 : J n h)
    (turn : ∀ n u h₃ tk₃ E', J n h₃ → Fm w mg mb wr hE env (ovr names u m) cm h₃ → wpAny (model prog w) A (isTrue test env (eval test env)) (fun b s₂ =>
      if b = true then wpAny (model prog w) A (execs body env) (Turn (LpN w mg mb g d os wr hE env m cm names J n) fun v s₃ => Q (.ret v) s₃) E' s₂
      else wpAny (model prog w) A (execs rest env) Q E s₂) E' ⟨h₃, g, d, tk₃, os⟩) :
    wpAny (model prog w) A (execs (.While test body [] pos :: rest) env) Q E ⟨h, g, d, tk, os⟩ := by
  refine xWhile (fun n s => ∃ h' tk' u, s = ⟨h', g, d, tk', os⟩ ∧ Fm w mg mb wr hE env (ovr names u m) cm h' ∧ J n h') n ⟨h, tk, m, rfl, ovr_self names m ▸ F, J0⟩ ?_
  rintro n s E' ⟨h', tk', u, rfl, F', j⟩
  refine wpAny_mono (turn n u h' tk' E' j F') (fun b s₂ q => ?_) fun _ _ x => x
  cases b with
  | false => simpa using q
  | true =>
    simp only [if_true] at q ⊢
    refine wpAny_mono q (fun f s₃ q => ?_) fun _ _ x => x
    have nx : (∃ h₄ tk₄ m₄ n', n' < n ∧ s₃ = ⟨h₄, g, d, tk₄, os⟩ ∧ Fm w mg mb wr hE env m₄ cm h₄ ∧ Agr names m m₄ ∧ J n' h₄) → ∃ m', m' < n ∧ ∃ h' tk' u, s₃ = ⟨h', g, d, tk', os⟩ ∧ Fm w mg mb wr hE env (ovr names u m) cm h' ∧ J m' h' := by
      rintro ⟨h₄, tk₄, m₄, n', hn, e, F₄, ag, j⟩
      exact ⟨n', hn, h₄, tk₄, m₄, e, ag.eq ▸ F₄, j⟩
    cases f with
    | next => exact nx q
    | cont => exact nx q
    | brk => exact q.elim
    | ret v => exact q
theorem eqvAll_nil (xs : List PyData) : PyData.eqvAll xs [] = xs.isEmpty := by cases xs <;> simp [PyData.eqvAll]
theorem lenL {l : Addr} {vs : List Value} {Q : Value → Shared → Prop} (hl : h.IsList l vs.toArray) (hs : vs.length < 1000) (k : Q (.int vs.length (tk + 1)) ⟨h, g, d, tk + 1 + 1, os⟩) : wpAny (model prog w) A (call (.builtin "len") [.ref l]) Q E ⟨h, g, d, tk, os⟩ := by
  have e : (vs.toArray.size : Int) = vs.length := by rw [List.size_toArray]
  exact PyProof.Rows.len_list (s := ⟨h, g, d, tk, os⟩) hl (by rw [e]; omega) (by rw [e]; exact k)
theorem PL.its {L : List Addr} (st : Step w mg mb L h h') (G : Gd w mg mb h) {l : Addr} {its : Array Value} (x : h.PlainList l its) (hL : ∀ a ∈ L, ∃ o, h.get? a = some o ∧ Itr o) : h'.PlainList l its := by
  refine PL.up G st x fun q => ?_
  obtain ⟨o, e, ⟨T, hc, hT⟩, _⟩ := hL _ q
  obtain ⟨n, e2⟩ := x
  rw [e] at e2; cases e2; cases hc; revert hT; decide
end
theorem XTs.unsnoc {h : Heap} {d : PyData} : ∀ {ds : List PyData} {vs : List Value}, XTs h vs (ds ++ [d]) → ∃ vs' v, vs = vs' ++ [v] ∧ XTs h vs' ds ∧ XT h v d
  | [], vs, x => by
    obtain ⟨v, vs', rfl, xv, xs⟩ := XTs.inv (ds := []) x
    obtain rfl := xs.inv0
    exact ⟨[], v, rfl, XTs.nil, xv⟩
  | d0 :: ds, vs, x => by
    obtain ⟨v, vs', rfl, xv, xs⟩ := XTs.inv (ds := ds ++ [d]) x
    obtain ⟨vs2, v2, rfl, xs2, x2⟩ := XTs.unsnoc xs
    exact ⟨v :: vs2, v2, rfl, XTs.cons xv xs2, x2⟩
theorem XTs.app {h : Heap} : ∀ {ds es : List PyData} {vs us : List Value}, XTs h vs ds → XTs h us es → XTs h (vs ++ us) (ds ++ es)
  | [], es, vs, us, x, y => by rw [x.inv0]; exact y
  | d0 :: ds, es, vs, us, x, y => by
    obtain ⟨v, vs', rfl, xv, xs⟩ := XTs.inv x
    exact XTs.cons xv (XTs.app xs y)
theorem Fm.joinN {w : World} {mg mb : Str → Option Value} {hE h h' : Heap} {env : Env} {m m' cm cm' : Str → Option Value} {wr wr' : List Addr} (F : Fm w mg mb wr hE env m cm h) (F' : Fm w mg mb (env.locals :: wr') h env m' cm' h') (hw : ∀ a ∈ wr', hE.get? a = none ∨ a ∈ wr) : Fm w mg mb wr hE env m' cm' h' :=
  ⟨F'.ns, F'.cell, F.ca, F.lo, F.new, ⟨fun b o a1 a2 e => F'.st.keep b o a1 (fun q => (List.mem_cons.mp q).elim (fun q => F.new.elim (fun x => by rw [← q, e] at x; cases x) fun x => a2 (q ▸ x)) fun q => (hw _ q).elim (fun x => by rw [e] at x; cases x) a2) (F.st.keep b o a1 a2 e), fun b o e c q => F'.st.tk b o (F.st.tk b o e c q) c q, fun G => F'.st.gd (F.st.gd G)⟩, F.GE⟩
theorem Fm.jn {w : World} {mg mb : Str → Option Value} {hE h h' : Heap} {env : Env} {m m' cm cm' : Str → Option Value} {wr : List Addr} (F : Fm w mg mb wr hE env m cm h) (F' : Fm w mg mb [env.locals] h env m' cm' h') : Fm w mg mb wr hE env m' cm' h' := F.join F' fun _ q => nomatch q
section
variable {prog : Program} {w : World} {mg mb : Str → Option Value} {A : Around} {E : Value → Shared → Prop} {hE h hS : Heap} {env : Env} {m cm : Str → Option Value} {wr wr₀ : List Addr}
  {g : Array GenState} {d : Drawn} {tk : Nat} {os : OsState}
theorem xForRb {target iter : Expr} {body rest : List Stmt} {pos : Pos} {n : Nat} {Q : Flow → Shared → Prop} (_F : Fm w mg mb wr hE env m cm h) (names : List Str) (wr' : List Addr) (hA : Cx A n) (hs : ∀ x, foldedSetIterable iter env x = pure x)
    (k : wpAny (model prog w) A (eval iter env) (fun xv s₁ => ∃ h₁ tk₁ r t u v, ∃ k : Nat, xv = .ref r ∧ s₁ = ⟨h₁, g, d, tk₁, os⟩ ∧ Fm w mg mb wr hE env m cm h₁ ∧ IsRange h₁ r 0 k 1 t u v ∧ RgOk k ∧ (∀ a ∈ wr', (∃ o, h₁.get? a = some o) ∧ (a ∈ wr ∨ hE.get? a = none)) ∧
      ForAt prog w mg mb A target body wr hE env m cm g d os names wr' k (fun i v _ => i < k ∧ ∃ t, v = .int i t) (fun s => wpAny (model prog w) A (execs rest env) Q E s) Q h₁) E ⟨h, g, d, tk, os⟩) :
    wpAny (model prog w) A (execs (.For target iter body [] pos :: rest) env) Q E ⟨h, g, d, tk, os⟩ := by
  refine xCons (wpAny_For (wpAny_mono k (fun xv s₁ hk => ?_) fun _ _ e => e) hs)
  obtain ⟨h₁, tk₁, r, t, u, v, k, rfl, rfl, F, hr, hk, hww, J, J0, hJ, turn, fin⟩ := hk
  refine wpAny_pyIter_range (s := ⟨h₁, g, d, tk₁, os⟩) hr hk.1 ?_
  rw [hk.2]
  have sz : (242 : Nat) ≤ h₁.objs.size := F.G.sz
  have newI : (h₁.push { cls := .type "range_iterator", data := .fields #[rawInt 0, rawInt k, rawInt 1] }).get? h₁.objs.size = some { cls := .type "range_iterator", data := .fields #[rawInt 0, rawInt k, rawInt 1] } := Heap.get?_push_size _ rfl
  have hI : h₁.get? h₁.objs.size = none := Heap.get?_none_of_le (Nat.le_refl _)
  have ni : ∀ b ∈ [h₁.objs.size], h₁.get? b = none := fun b q => by rw [List.mem_singleton.mp q]; exact hI
  refine for_block (wr' := wr') (F.up (.push _)) (range_turns hA target h₁.objs.size k) names (by simpa using newI) ?_ ?_ ?_ (fun a q => (hww a q).2) J
    (hJ _ _ _ [] (.push _) (fun _ q => nomatch q) J0) (fun i ha hb st hL hj => hJ i ha hb _ st (fun a q => ⟨ni a q, hL a q⟩) hj) ?_ ?_
  · intro b hb
    rw [List.mem_singleton.mp hb]
    exact ⟨Nat.ne_of_gt (Nat.lt_of_lt_of_le (by decide) sz), fun q => by obtain ⟨o, e⟩ := (hww _ q).1; exact absurd (Heap.lt_size e) (Nat.lt_irrefl _), (F.newI hI).1⟩
  · intro i h' st b hb
    rw [List.mem_singleton.mp hb]
    exact ⟨Nat.lt_of_lt_of_le (by decide) sz, _, st, ⟨_, rfl, by simp⟩, _, rfl, by simp [rawInt]⟩
  · intro b hb
    rw [List.mem_singleton.mp hb]; exact F.newI hI
  · intro i v u h₃ tk₃ E' hi hP hj st Fo F₃
    exact turn i v u h₃ tk₃ E' ⟨hi, hP⟩ hj (Step.offI (Ext.push _ _) st ni) Fo F₃
  · intro u h' tk' hj st F'
    exact fin u h' tk' hj (Step.offI (Ext.push _ _) st ni) F'

end

section
variable {prog : Program} {w : World} {mg mb : Str → Option Value} {A : Around} {E : Value → Shared → Prop} {hE h h' : Heap} {env : Env} {m cm : Str → Option Value} {wr : List Addr}
  {g : Array GenState} {d : Drawn} {tk : Nat} {os : OsState} {a b : Int} {t u : Tok}
theorem iAdd {Q : Value → Shared → Prop} (k : Q (.int (a + b) tk) ⟨h, g, d, tk + 1, os⟩) : wpAny (model prog w) A (binaryOp .Add (.int a t) (.int b u)) Q E ⟨h, g, d, tk, os⟩ := PyProof.Rows.add_int (s := ⟨h, g, d, tk, os⟩) k
theorem iSub {Q : Value → Shared → Prop} (k : Q (.int (a - b) tk) ⟨h, g, d, tk + 1, os⟩) : wpAny (model prog w) A (binaryOp .Sub (.int a t) (.int b u)) Q E ⟨h, g, d, tk, os⟩ := PyProof.Rows.sub_int (s := ⟨h, g, d, tk, os⟩) k
theorem iMul {Q : Value → Shared → Prop} (hm : IntMulOk a b) (k : Q (.int (a * b) tk) ⟨h, g, d, tk + 1, os⟩) : wpAny (model prog w) A (binaryOp .Mult (.int a t) (.int b u)) Q E ⟨h, g, d, tk, os⟩ := PyProof.Rows.mul_int (s := ⟨h, g, d, tk, os⟩) k hm
theorem iMulB {b : Bool} {Q : Value → Shared → Prop} (k : Q (.int (a * if b = true then (1 : Int) else 0) tk) ⟨h, g, d, tk + 1, os⟩) : wpAny (model prog w) A (binaryOp .Mult (.int a t) (.bool b)) Q E ⟨h, g, d, tk, os⟩ := PySem.IntBool.mul_int_bool (s := ⟨h, g, d, tk, os⟩) k
theorem iMod {Q : Value → Shared → Prop} (hb : b ≠ 0) (k : Q (.int (a.fmod b) tk) ⟨h, g, d, tk + 1, os⟩) : wpAny (model prog w) A (binaryOp .Mod (.int a t) (.int b u)) Q E ⟨h, g, d, tk, os⟩ := PyProof.Rows.mod_int (s := ⟨h, g, d, tk, os⟩) hb k
theorem iDiv {Q : Value → Shared → Prop} (hb : 0 < b) (hs : b < 1000000) (k : Q (.int (a.fdiv b) tk) ⟨h, g, d, tk + 1, os⟩) : wpAny (model prog w) A (binaryOp .FloorDiv (.int a t) (.int b u)) Q E ⟨h, g, d, tk, os⟩ :=
  PyProof.Rows.floordiv_int (s := ⟨h, g, d, tk, os⟩) (by omega) k (.inl (PyProof.noPylong_small (by omega)))
theorem iPow {Q : Value → Shared → Prop} (hn : 0 ≤ b) (hn2 : b ≤ 1000000) (ha : a.natAbs < 2 ^ 64) (k : Q (.int (a ^ b.toNat) tk) ⟨h, g, d, tk + 1, os⟩) : wpAny (model prog w) A (binaryOp .Pow (.int a t) (.int b u)) Q E ⟨h, g, d, tk, os⟩ := PyProof.Rows.pow_int_small (s := ⟨h, g, d, tk, os⟩) hn hn2 ha k
theorem iNeg {Q : Value → Shared → Prop} (k : Q (.int (-a) tk) ⟨h, g, d, tk + 1, os⟩) : wpAny (model prog w) A (unaryOp .USub (.int a t)) Q E ⟨h, g, d, tk, os⟩ := PyProof.Rows.neg_int (s := ⟨h, g, d, tk, os⟩) k
theorem iGe {Q : Value → Shared → Prop} (k : Q (.bool (decide (b ≤ a))) ⟨h, g, d, tk, os⟩) : wpAny (model prog w) A (compareOp .GtE (.int a t) (.int b u)) Q E ⟨h, g, d, tk, os⟩ := PyProof.Rows.ge_int (s := ⟨h, g, d, tk, os⟩) k
theorem iInt {Q : Value → Shared → Prop} (k : Q (.int a t) ⟨h, g, d, tk, os⟩) : wpAny (model prog w) A (call (.type "int") [.int a t]) Q E ⟨h, g, d, tk, os⟩ := call_int_int (s := ⟨h, g, d, tk, os⟩) k
theorem iIntB {b : Bool} {Q : Value → Shared → Prop} (k : Q (.int (if b then 1 else 0) tk) ⟨h, g, d, tk + 1, os⟩) : wpAny (model prog w) A (call (.type "int") [.bool b]) Q E ⟨h, g, d, tk, os⟩ := call_int_bool (s := ⟨h, g, d, tk, os⟩) k
theorem iMax {Q : Value → Shared → Prop} {n : Nat} (F : Fm w mg mb wr hE env m cm h) (hA : Cx A n) (k : ∀ h' tk' c v, Step w mg mb [] h h' → Fm w mg mb wr hE env m cm h' → Q (.int c v) ⟨h', g, d, tk', os⟩) : wpAny (model prog w) A (call (.builtin "max") [.int a t, .int b u]) Q E ⟨h, g, d, tk, os⟩ := by
  refine max_two_ints (s := ⟨h, g, d, tk, os⟩) hA.hh fun h' tk' hk => ?_
  have st : Step w mg mb [] h h' := .of_ext hk
  split
  · exact k h' tk' _ _ st (F.up st)
  · exact k h' tk' _ _ st (F.up st)
/-- item k of a list is set -/
theorem setL {l : Addr} {vs : List Value} {k : Int} {t : Tok} {v : Value} {Q : Unit → Shared → Prop} (hl : h.IsList l vs.toArray) (h1 : 241 < l) (h0 : 0 ≤ k) (hn : k.toNat < vs.length) (hf : k < 100)
    (q : ∀ h', Step w mg mb [l] h h' → h'.IsList l (vs.set k.toNat v).toArray → Q () ⟨h', g, d, tk, os⟩) : wpAny (model prog w) A (setItem (.ref l) (.int k t) v) Q E ⟨h, g, d, tk, os⟩ := by
  refine wpAny_setItem_list (s := ⟨h, g, d, tk, os⟩) hl h0 (by omega) (by rw [List.size_toArray]; omega) fun h' hl' hs => ?_
  obtain ⟨o, e, hc, n, hd⟩ := hl
  refine q h' (.but (fun b o hb q => (hs.2 b hb).trans q) h1 e (fun vs q => by rw [hd] at q; cases q) (fun c => absurd (hc.symm.trans c) (by decide))) ?_
  simpa using hl'
theorem fmod_lt {a b : Int} (hb : 0 < b) : 0 ≤ a.fmod b ∧ a.fmod b < b := ⟨Int.fmod_nonneg_of_pos a hb, Int.fmod_lt_of_pos a hb⟩
theorem fmod_nat {a : Int} {b : Nat} (hb : 0 < b) : ∃ r : Nat, r < b ∧ a.fmod b = r := by
  have h := fmod_lt (a := a) (b := b) (by omega)
  exact ⟨(a.fmod b).toNat, by omega, by omega⟩
end
/-- the source: a list of two ints -/
def SrcAt (h : Heap) (l : Addr) : Prop := 241 < l ∧ ∃ a b ta tb, h.IsList l ([.int a ta, .int b tb] : List Value).toArray
theorem SrcAt.up {w : World} {mg mb : Str → Option Value} {wr : List Addr} {h h' : Heap} {l : Addr} (G : Gd w mg mb h) (st : Step w mg mb wr h h') (x : SrcAt h l) (hw : l ∉ wr) : SrcAt h' l :=
  let ⟨h1, a, b, ta, tb, e⟩ := x; ⟨h1, a, b, ta, tb, IsList.up G st e hw⟩
theorem SrcAt.upS {w : World} {mg mb : Str → Option Value} {wr : List Addr} {h h' : Heap} {l : Addr} (st : Step w mg mb wr h h') (G : Gd w mg mb h) (x : SrcAt h l) (hw : l ∉ wr) : SrcAt h' l := SrcAt.up G st x hw
theorem SrcAt.ne {h : Heap} {l a : Addr} (x : SrcAt h l) (e : h.get? a = none) : a ≠ l := by
  rintro rfl
  obtain ⟨_, _, _, _, _, o, e', _⟩ := x
  rw [e] at e'; cases e'
theorem SrcAt.nl {w : World} {mg mb : Str → Option Value} {hE h : Heap} {env : Env} {m cm : Str → Option Value} {wr : List Addr} {l : Addr} (F : Fm w mg mb wr hE env m cm h) (S : SrcAt h l) : l ≠ env.locals ∧ ∀ n c, env.cells.lookup n = some c → c ≠ l :=
  let ⟨_, _, _, _, _, L⟩ := S; ⟨list_ne_locals F L, list_ne_cell F L⟩

section
variable {prog : Program} {w : World} {mg mb : Str → Option Value} {A : Around} {E : Value → Shared → Prop} {hE h h' : Heap} {env : Env} {m cm : Str → Option Value} {wr : List Addr}
  {g : Array GenState} {d : Drawn} {tk : Nat} {os : OsState}
/-- what the push of a list leaves -/
theorem pushL {vs : List Value} (F : Fm w mg mb wr hE env m cm h) : Step w mg mb [] h (h.push { cls := .type "list", data := .seq vs.toArray }) ∧ Fm w mg mb wr hE env m cm (h.push { cls := .type "list", data := .seq vs.toArray }) ∧
    (h.push { cls := .type "list", data := .seq vs.toArray }).PlainList h.objs.size vs.toArray ∧ 241 < h.objs.size ∧ h.get? h.objs.size = none :=
  ⟨.push _, F.up (.push _), ⟨_, Heap.get?_push_size _ rfl⟩, Nat.lt_of_lt_of_le (by decide) F.G.sz, Heap.get?_none_of_le (Nat.le_refl _)⟩
theorem addL {l b : Addr} {vs us : List Value} {Q : Value → Shared → Prop} (F : Fm w mg mb wr hE env m cm h) (hl : h.IsList l vs.toArray) (hb : h.IsList b us.toArray) (hsz : vs.length + us.length ≤ sizeLine)
    (k : ∀ l' h', Step w mg mb [] h h' → Fm w mg mb wr hE env m cm h' → h'.PlainList l' (vs ++ us).toArray → 241 < l' → h.get? l' = none → Q (.ref l') ⟨h', g, d, tk, os⟩) : wpAny (model prog w) A (binaryOp .Add (.ref l) (.ref b)) Q E ⟨h, g, d, tk, os⟩ := by
  obtain ⟨⟨cls, dd, data, sl⟩, ho, hc, n, hd⟩ := id hl
  obtain ⟨⟨cls2, dd2, data2, sl2⟩, ho2, hc2, n2, hd2⟩ := id hb
  simp only at hc hd hc2 hd2
  subst hc hd hc2 hd2
  have e : vs.toArray ++ us.toArray = (vs ++ us).toArray := by simp
  refine concat_meets (s := ⟨h, g, d, tk, os⟩) ⟨_, ho, rfl⟩ ⟨_, ho2, rfl⟩ noFill_list_add seq_list_add PySem.F.slot_list_add PySem.F.entry_list_add (PySem.F.args_list_add_2 _ _) (list_addW l b vs.toArray us.toArray n n2 dd dd2 sl sl2 (by simpa using hsz)) ⟨ho, ho2, ?_⟩
  rw [e]
  obtain ⟨a1, a2, a3, a4, a5⟩ := pushL (vs := vs ++ us) F
  exact k _ _ a1 a2 a3 a4 a5
theorem mulL {l : Addr} {v : Value} {b : Bool} {u : Tok} {Q : Value → Shared → Prop} (FF : Fm w mg mb wr hE env m cm h) (hl : h.IsList l ([v] : List Value).toArray)
    (k : ∀ l' h', Step w mg mb [] h h' → Fm w mg mb wr hE env m cm h' → h'.PlainList l' (if b then [v] else []).toArray → 241 < l' → h.get? l' = none → Q (.ref l') ⟨h', g, d, tk, os⟩) : wpAny (model prog w) A (binaryOp .Mult (.ref l) (.int (if b = true then 1 else 0) u)) Q E ⟨h, g, d, tk, os⟩ := by
  obtain ⟨⟨cls, dd, data, sl⟩, ho, hc, n, hd⟩ := id hl
  simp only at hc hd
  subst hc hd
  have hx : (if b = true then (1 : Int) else 0) = 0 ∨ (if b = true then (1 : Int) else 0) = 1 := by cases b <;> simp
  have hs : ([v] : List Value).toArray.size = 1 := rfl
  refine wpAny_binaryOp_repeat_ref (s := ⟨h, g, d, tk, os⟩) (T := "list") (U := "int") (by decide) ⟨_, ho, rfl⟩ (fun s' => typeIs_int s' _ u) noFill_list_mul F.fills_int_mul F.slot_int_rmul repeat_list F.slot_int_index.lookup
    (call_meets F.slot_int_rmul (typeIs_int ⟨h, g, d, tk, os⟩ _ u) F.entry_int_rmul (F.args_int_rmul_2 _ _) (lm_int_rmul_list_any _ u l ([v] : List Value).toArray n dd sl)
      ⟨ho, rfl, ⟨_, ho, rfl⟩, call_meets F.slot_list_mul ⟨_, ho, rfl⟩ F.entry_list_mul (F.args_list_mul_2 _ _)
        (lm_list_mul_any l ([v] : List Value).toArray n dd sl _ u (by simp [Builtin.List.listFitsIndex]; omega) (by rw [hs]; omega) (by rw [hs]; simp [Builtin.List.listTooLong, sizeLine]; omega))
        ⟨ho, ?_⟩⟩)
  have e : List.foldl (fun x1 x2 => x1 ++ x2) #[] (List.replicate (if ([v] : List Value).toArray.isEmpty = true then 0 else (if b = true then (1 : Int) else 0).toNat) ([v] : List Value).toArray) = (if b then [v] else []).toArray := by
    cases b <;> simp
  rw [e]
  obtain ⟨a1, a2, a3, a4, a5⟩ := pushL (vs := if b then [v] else []) FF
  exact k _ _ a1 a2 a3 a4 a5
theorem bools_get {h : Heap} : ∀ {bs : List Bool} {vs : List Value} {i : Nat} {v : Value}, XTs h vs (bs.map .bool) → vs[i]? = some v → ∃ b, bs[i]? = some b ∧ v = .bool b := fun {bs vs i v} x e => by
  have hi : i < bs.length := by have := (List.getElem?_eq_some_iff.mp e).1; rw [x.len, List.length_map] at this; exact this
  obtain ⟨v', hv, xv⟩ := x.at (j := i) (dj := .bool (bs[i]'hi)) (by rw [List.getElem?_map, List.getElem?_eq_getElem hi]; rfl)
  rw [e] at hv; cases hv
  exact ⟨_, List.getElem?_eq_getElem hi, xv.bool_inv⟩
theorem rg_all (bs : List Bool) : ((List.range bs.length).all fun i => (bs[i]?).getD true) = bs.all id := by
  rw [Bool.eq_iff_iff, List.all_eq_true, List.all_eq_true]
  constructor
  · intro q b hb
    obtain ⟨i, hi, e⟩ := List.mem_iff_getElem.mp hb
    have := q i (List.mem_range.mpr hi)
    rw [List.getElem?_eq_getElem hi, e] at this; exact this
  · intro q i hi
    have hi' := List.mem_range.mp hi
    rw [List.getElem?_eq_getElem hi']
    exact q _ (List.getElem_mem hi')
theorem rg_any (bs : List Bool) : ((List.range bs.length).any fun i => (bs[i]?).getD false) = bs.any id := by
  rw [Bool.eq_iff_iff, List.any_eq_true, List.any_eq_true]
  constructor
  · rintro ⟨i, hi, e⟩
    have hi' := List.mem_range.mp hi
    rw [List.getElem?_eq_getElem hi'] at e
    exact ⟨_, List.getElem_mem hi', e⟩
  · rintro ⟨b, hb, e⟩
    obtain ⟨i, hi, e'⟩ := List.mem_iff_getElem.mp hb
    exact ⟨i, List.mem_range.mpr hi, by rw [List.getElem?_eq_getElem hi, e']; exact e⟩
theorem kept_it {h h' : Heap} {o : Obj} (hk : ∀ b x, b ∉ [h.objs.size] → (h.push o).get? b = some x → h'.get? b = some x) : Ext h h' :=
  fun b x e => hk b x (fun hm => by rw [List.mem_singleton.mp hm] at e; exact Nat.lt_irrefl _ (Heap.lt_size e)) (Heap.get?_push_of_some _ e)
theorem allL {l : Addr} {vs : List Value} {bs : List Bool} {n : Nat} {Q : Value → Shared → Prop} (F : Fm w mg mb wr hE env m cm h) (hA : Cx A n) (hl : h.IsList l vs.toArray) (x : XTs h vs (bs.map .bool))
    (k : ∀ h' tk', Step w mg mb [] h h' → Fm w mg mb wr hE env m cm h' → Q (.bool (bs.all id)) ⟨h', g, d, tk', os⟩) : wpAny (model prog w) A (call (.builtin "all") [.ref l]) Q E ⟨h, g, d, tk, os⟩ := by
  have hlt : l < h.objs.size := by obtain ⟨_, e, _⟩ := hl; exact Heap.lt_size e
  refine call_all_walk (s := ⟨h, g, d, tk, os⟩) (wpAny_pyIter_list (s := ⟨h, g, d, tk, os⟩) hl ?_)
  refine ⟨h.objs.size, [h.objs.size, l], [h.objs.size], vs.toArray.size, _, _, fun i => (bs[i]?).getD true, rfl, Walks.list (A := A.in1) hA.hh _ l (Nat.ne_of_lt hlt) vs.toArray,
    ⟨⟨_, Heap.get?_push_size _ rfl, rfl, rfl⟩, hl.push _⟩, fun i v s' Q' E' hP hQ => ?_, fun h' tk' hk => ?_⟩
  · obtain ⟨b, e, rfl⟩ := bools_get x (i := i) (v := v) (by simpa using hP)
    simp only [e, Option.getD_some] at hQ
    exact wpAny_truthy_bool hQ
  · have e : ((List.range vs.toArray.size).all fun i => (bs[i]?).getD true) = bs.all id := by
      rw [List.size_toArray, x.len, List.length_map]; exact rg_all bs
    rw [e]
    exact k h' tk' (.of_ext (kept_it hk)) (F.up (.of_ext (kept_it hk)))
theorem anyL {l : Addr} {vs : List Value} {bs : List Bool} {n : Nat} {Q : Value → Shared → Prop} (F : Fm w mg mb wr hE env m cm h) (hA : Cx A n) (hl : h.IsList l vs.toArray) (x : XTs h vs (bs.map .bool))
    (k : ∀ h' tk', Step w mg mb [] h h' → Fm w mg mb wr hE env m cm h' → Q (.bool (bs.any id)) ⟨h', g, d, tk', os⟩) : wpAny (model prog w) A (call (.builtin "any") [.ref l]) Q E ⟨h, g, d, tk, os⟩ := by
  have hlt : l < h.objs.size := by obtain ⟨_, e, _⟩ := hl; exact Heap.lt_size e
  refine call_any_walk (s := ⟨h, g, d, tk, os⟩) (wpAny_pyIter_list (s := ⟨h, g, d, tk, os⟩) hl ?_)
  refine ⟨h.objs.size, [h.objs.size, l], [h.objs.size], vs.toArray.size, _, _, fun i => (bs[i]?).getD false, rfl, Walks.list (A := A.in1) hA.hh _ l (Nat.ne_of_lt hlt) vs.toArray,
    ⟨⟨_, Heap.get?_push_size _ rfl, rfl, rfl⟩, hl.push _⟩, fun i v s' Q' E' hP hQ => ?_, fun h' tk' hk => ?_⟩
  · obtain ⟨b, e, rfl⟩ := bools_get x (i := i) (v := v) (by simpa using hP)
    simp only [e, Option.getD_some] at hQ
    exact wpAny_truthy_bool hQ
  · have e : ((List.range vs.toArray.size).any fun i => (bs[i]?).getD false) = bs.any id := by
      rw [List.size_toArray, x.len, List.length_map]; exact rg_any bs
    rw [e]
    exact k h' tk' (.of_ext (kept_it hk)) (F.up (.of_ext (kept_it hk)))
end
section
variable {prog : Program} {w : World} {mg mb : Str → Option Value} {A : Around} {E : Value → Shared → Prop} {hE h h' : Heap} {env : Env} {m cm : Str → Option Value} {wr : List Addr}
  {g : Array GenState} {d : Drawn} {tk : Nat} {os : OsState}
theorem newLX {vs : List Value} {ds : List PyData} {Q : Value → Shared → Prop} (F : Fm w mg mb wr hE env m cm h) (x : XTs h vs ds) (hsz : ds.length ≤ sizeLine)
    (k : ∀ l h', Step w mg mb [] h h' → Fm w mg mb wr hE env m cm h' → h'.PlainList l vs.toArray → XTs h' vs ds → 241 < l → (hE.get? l = none ∨ l ∈ wr) → l ≠ env.locals → (∀ n c, env.cells.lookup n = some c → c ≠ l) → h.get? l = none → Q (.ref l) ⟨h', g, d, tk, os⟩) :
    wpAny (model prog w) A (newList vs) Q E ⟨h, g, d, tk, os⟩ :=
  newLn F (by rw [x.len]; exact hsz) fun l h' st F' P l1 n1 n2 n3 n4 => k l h' st F' P (x.up st) l1 n1 n2 n3 n4
end
theorem PL.ne {h : Heap} {l a : Addr} {its : Array Value} (x : h.PlainList l its) (e : h.get? a = none) : a ≠ l := by
  rintro rfl
  obtain ⟨n, e'⟩ := x
  rw [e] at e'; cases e'

section
variable {prog : Program} {w : World} {mg mb : Str → Option Value} {A : Around} {E : Value → Shared → Prop} {hE h h' : Heap} {env : Env} {m cm : Str → Option Value} {wr : List Addr}
  {g : Array GenState} {d : Drawn} {tk : Nat} {os : OsState}
/-- a dict display with keys that are texts -/
theorem dictE {keys : List (Option Expr)} {values : List Expr} {pos : Pos} {Q : Value → Shared → Prop} (F : Fm w mg mb wr hE env m cm h) (hall : keys.all (·.isSome) = true) (hl : keys.length = values.length) (h0 : keys ≠ []) (hlen : keys.length ≤ 15)
    (k : ∀ td h₁, Step w mg mb [] h h₁ → Fm w mg mb wr hE env m cm h₁ → Dct prog w h₁ td [] → 241 < td → h.get? td = none →
      wpAny (model prog w) A (evalPairs (pairTrees keys values env pos)) (fun vs s₁ => ∃ h₂ tk₂, s₁ = ⟨h₂, g, d, tk₂, os⟩ ∧ allStrKeys vs = true ∧ ((strPairs vs).map (·.1)).Nodup ∧ Dct prog w h₂ td [] ∧
        ∀ h₃, Step w mg mb [td] h₂ h₃ → Dct prog w h₃ td (strPairs vs) → Q (.ref td) ⟨h₃, g, d, tk₂ + vs.length, os⟩) E ⟨h₁, g, d, tk, os⟩) :
    wpAny (model prog w) A (eval (.Dict keys values pos) env) Q E ⟨h, g, d, tk, os⟩ := by
  have sz : (242 : Nat) ≤ h.objs.size := F.G.sz
  have h1 : 241 < h.objs.size := Nat.lt_of_lt_of_le (by decide) sz
  refine wpAny_Dict_walk (knd := strKind prog w) (s := ⟨h, g, d, tk, os⟩) hall hl h0 hlen (wpAny_mono (k h.objs.size _ (.push _) (F.up (.push _)) (Heap.DictOf.new h) h1 (Heap.get?_none_of_le (Nat.le_refl _))) (fun vs s₁ q => ?_) fun _ _ x => x)
  obtain ⟨h₂, tk₂, rfl, hk, hn, D, q⟩ := q
  refine display_done_str hk hn D fun h' D' hs => ?_
  obtain ⟨o, es, ep, e, hx, hd, _⟩ := D
  exact q h' (.but (fun b o hb e => hs.extBut b o hb e) h1 e (fun vs q => by rw [hd] at q; cases q) (fun _ vs n q => by rw [hd] at q; cases q)) D'
end

section
variable {prog : Program} {w : World} {mg mb : Str → Option Value} {A : Around} {E : Value → Shared → Prop} {hE h hS : Heap} {env : Env} {m cm : Str → Option Value} {wr wr₀ : List Addr}
  {g : Array GenState} {d : Drawn} {tk : Nat} {os : OsState}
/-- what is asked of a comprehension whose list is stored in the name y -/
inductive CompAtU (prog : Program) (w : World) (mg mb : Str → Option Value) (A : Around) (elt target : Expr) (ifs : List Expr) (cenv : Addr → Env) (cm : Str → Option Value) (g : Array GenState) (d : Drawn) (os : OsState) (wr : List Addr) (n : Nat)
    (P : Nat → Value → Heap → Prop) (wr₀ : List Addr) (hE : Heap) (env : Env) (m : Str → Option Value) (y : Str) (Q : Shared → Prop) (h₀ : Heap) : Prop where
  | mk (R : Nat → Option PyData → Prop) (K : Heap → Prop) : K h₀ →
    (∀ L ha hb, Step w mg mb L ha hb → (∀ a ∈ L, h₀.get? a = none) → K ha → K hb) →
    (∀ ha hb, Step w mg mb [env.locals] ha hb → K ha → K hb) →
    (∀ h', Step w mg mb wr h₀ h' → Fm w mg mb wr₀ hE env m cm h') →
    (∀ i v C m₃ h₃ tk₃ E', i < n → P i v h₃ → K h₃ → Step w mg mb wr h₀ h₃ → h₀.get? C = none → Fm w mg mb (C :: wr) h₃ (cenv C) m₃ cm h₃ → (cenv C).locals = C → wpAny (model prog w) A (assign target (cenv C) v) (fun _ s₂ => wpAny (model prog w) A (forIn ifs true fun c r => if r = true then do let ok ← isTrue c (cenv C) (eval c (cenv C)); pure (ForInStep.yield ok) else pure (ForInStep.yield r)) (fun ok s₃ => if ok = true then wpAny (model prog w) A (eval elt (cenv C)) (ElD w mg mb g d os (C :: wr) h₃ (cenv C) cm (R i) K) E' s₃ else ElN w mg mb g d os (C :: wr) h₃ (cenv C) cm (R i) K s₃) E' s₂) E' ⟨h₃, g, d, tk₃, os⟩) →
    (∀ D ys (os' : List (Option PyData)) h' tk', os'.length = n → (∀ i o, os'[i]? = some o → R i o) → K h' → Step w mg mb (env.locals :: wr) h₀ h' → h₀.get? D = none → 241 < D → h'.IsList D ys.toArray → XTs h' ys (os'.filterMap id) → Fm w mg mb wr₀ hE env (upd m y (.ref D)) cm h' → Q ⟨h', g, d, tk', os⟩) → CompAtU prog w mg mb A elt target ifs cenv cm g d os wr n P wr₀ hE env m y Q h₀

theorem comp_atU {y : Str} {py : Pos} {elt target iter : Expr} {ifs : List Expr} {scope : Scope} {cl : List (Str × Addr)} {pos : Pos} {I : Addr} {fp wrI : List Addr} {n : Nat} {P Md : Nat → Value → Heap → Prop} {St : Nat → Heap → Prop} {h₀ : Heap}
    (F : Fm w mg mb wr₀ hE env m cm hS) (W : KTurns prog w A target I fp wrI n P Md St) (self : ∀ (s : Shared) (Q : Value → Shared → Prop) (E : Value → Shared → Prop), St 0 s.heap → Q (.ref I) s → wpAny (model prog w) A (pyIter (.ref I)) Q E s)
    (hsz : n ≤ sizeLine) (s0 : Ext h₀ hS) (hI : ∀ b ∈ wrI, h₀.get? b = none)
    (hcell : ∀ y ∈ scope.names, y.2 ≠ .cell) (hkind : scope.kind = .function) (hcl : ∀ p ∈ cl, env.cells.lookup p.1 = some p.2)
    (hst : St 0 hS) (hfp : ∀ b ∈ fp, ∃ o, hS.get? b = some o) (hfw : ∀ b ∈ fp, b ≠ 87 ∧ b ∉ wr)
    (hit : ∀ i h, St i h → ∀ b ∈ wrI, 241 < b ∧ ∃ o, h.get? b = some o ∧ Itr o) (hwr : ∀ a ∈ wr, ∃ o, h₀.get? a = some o) (hwc : ∀ n c, env.cells.lookup n = some c → c ∉ wrI ∧ c ∉ wr)
    (hy : env.kindOf y = some .local) (hkf : env.scope.kind = .function)
    {Q : Shared → Prop} (k : CompAtU prog w mg mb A elt target ifs (fun C => compEnvC scope cl C env) cm g d os wr n P wr₀ hE env m y Q h₀) :
    wpAny (model prog w) A (newList []) (fun acc s₃ => wpAny (model prog w) A (newFunctionEnv scope env.globals cl [] env.qual none .none (some env)) (fun cenv s₄ =>
      codeAny (model prog w) A (.compStart (.ListComp elt [⟨target, iter, ifs, 0⟩] scope pos) 0 (.ref I) acc { cenv with scope := relabel scope env }) (compPost (model prog w) A E (some (assign (.Name y py) env)) (fun _ s => Q s) acc cenv.locals) s₄) E s₃) E ⟨hS, g, d, tk, os⟩ := by
  obtain ⟨R, K, K0, hK, hKl, hup, turn, fin⟩ := k
  have off : ∀ {h' : Heap}, Step w mg mb (wrI ++ wr) hS h' → Step w mg mb wr h₀ h' := fun x =>
    ⟨fun b o h1 h2 e => x.keep b o h1 (fun q => (List.mem_append.mp q).elim (fun q => by rw [hI b q] at e; cases e) h2) (s0 b o e), fun b o e c q => x.tk b o (s0 b o e) c q, fun G => x.gd (G.ext s0)⟩
  have no : ∀ {a : Addr}, hS.get? a = none → h₀.get? a = none := fun {a} q => by
    cases e : h₀.get? a with
    | none => rfl
    | some o => rw [s0 a o e] at q; cases q
  refine comp_blockR (RR := fun acc C => compPost (model prog w) A E (some (assign (.Name y py) env)) (fun _ s => Q s) acc C) F W self hsz (fun C D vs ys h => K h ∧ ∃ os' : List (Option PyData), os'.length = vs.length ∧ (∀ i o, os'[i]? = some o → R i o) ∧ XTs h ys (os'.filterMap id)) hcell hkind hcl hst hfp hfw hit (fun a q => let ⟨o, e⟩ := hwr a q; ⟨o, s0 a o e⟩) hwc
    (fun C D h ex _ _ => ⟨hK [] _ _ (.of_ext fun b o e => ex b o (s0 b o e)) (fun _ q => nomatch q) K0, [], rfl, (by simp), .nil⟩)
    (fun C D vs ys ha hb M ⟨k, os', e, r, x⟩ => ⟨hK _ _ _ M.st (fun a q => by
      rcases List.mem_cons.mp q with rfl | q
      · exact no M.newC
      · rcases List.mem_cons.mp q with rfl | q
        · exact no M.newD
        · exact hI a q) k, os', e, r, x.up M.st⟩) ?_ ?_
  · rintro C D vs ys v m₃ h₃ tk₃ E' hlt hPv ⟨hKk, os', hl, hR, xs⟩ hC hD hCD hDl hIo sS F₃
    refine wpAny_mono (turn vs.length v C m₃ h₃ tk₃ E' hlt hPv hKk (off sS) (no hC) F₃ rfl) (fun _ s₂ h₂ => wpAny_mono h₂ (fun ok s₃ h₃' => ?_) fun _ _ x => x) fun _ _ x => x
    have rr : ∀ o, R vs.length o → ∀ i o', (os' ++ [o])[i]? = some o' → R i o' := fun o ho i o' e => by
      rcases Nat.lt_trichotomy i os'.length with q | q | q
      · exact hR i o' (by rwa [List.getElem?_append_left q] at e)
      · subst q; simp at e; subst e; rw [hl]; exact ho
      · rw [List.getElem?_eq_none (by rw [List.length_append, List.length_singleton]; omega)] at e; cases e
    cases ok with
    | false =>
      obtain ⟨h₄, tk₄, m₄, e, F₄, ho, kk⟩ := h₃'
      refine ⟨h₄, tk₄, m₄, e, F₄, kk, os' ++ [none], by simp [hl], rr none ho, ?_⟩
      rw [List.filterMap_append]
      simpa using xs.up F₄.st
    | true =>
      refine wpAny_mono h₃' (fun y s₄ h₄' => ?_) fun _ _ x => x
      obtain ⟨h₄, tk₄, m₄, dd, e, F₄, xd, ho, kk⟩ := h₄'
      refine ⟨h₄, tk₄, m₄, e, F₄, kk, os' ++ [some dd], by simp [hl], rr _ ho, ?_⟩
      rw [List.filterMap_append]
      exact XTs.snoc (xs.up F₄.st) xd
  · rintro C D vs ys h' tk' m' hn ⟨hKk, os', hl, hR, xs⟩ hC hD hCD hC241 hD241 hns hpl hle st
    have F' := hup _ (off st)
    have nC := F.newI hC
    have nD := F.newI hD
    show wpAny (model prog w) A (assign (.Name y py) env (.ref D)) _ _ _
    refine wpAny_assign_Name (stL F' hy hkf fun h₂ st₂ F₂ => ?_)
    refine ⟨m', hns.at' fun o e => st₂.keep C o (ne87 hC241) (by simpa using nC.1) e, fun h₃ hs₃ => ?_⟩
    have hn₂ : h₂.Ns C m' := hns.at' fun o e => st₂.keep C o (ne87 hC241) (by simpa using nC.1) e
    obtain ⟨oC, _, _, hoC, hdC, _⟩ := hn₂
    have stC : Step w mg mb [C] h₂ h₃ := .but (fun b o hb e => (hs₃.2 b hb).trans e) hC241 hoC (fun vs q => by rw [hdC] at q; cases q) (fun _ vs n q => by rw [hdC] at q; cases q)
    have F₃ := F₂.upD stC nC.2.1.symm nC.1 nC.2.2
    have hC0 := no hC
    have st13 : Step w mg mb (env.locals :: wr) h₀ h₃ := Step.off ((off st).mono (fun a q => .tail _ q) |>.trans (st₂.mono fun a q => by rw [List.mem_singleton.mp q]; exact .head _)) stC hC0
    refine fin D ys os' h₃ _ (hl.trans hn) hR (hK [C] _ _ stC (fun a q => by rw [List.mem_singleton.mp q]; exact hC0) (hKl _ _ st₂ hKk)) st13 (no hD) hD241 ?_ ((xs.up st₂).up stC) F₃
    exact IsList.up F₂.G stC (IsList.up F'.G st₂ hpl.isList (by simpa using nD.1)) (by simpa using hCD.symm)
theorem comp_rangeU {y : Str} {py : Pos} {elt target iter : Expr} {ifs : List Expr} {scope : Scope} {cl : List (Str × Addr)} {pos : Pos} {r : Addr} {t u v : Tok} {kk n : Nat} {Q : Shared → Prop}
    (F : Fm w mg mb wr₀ hE env m cm h) (hA : Cx A n) (hr : IsRange h r 0 kk 1 t u v) (hk : RgOk kk) (hsz : kk ≤ sizeLine)
    (hcell : ∀ y ∈ scope.names, y.2 ≠ .cell) (hkind : scope.kind = .function) (hcl : ∀ p ∈ cl, env.cells.lookup p.1 = some p.2)
    (hwr : ∀ a ∈ wr, (∃ o, h.get? a = some o) ∧ ∀ n c, env.cells.lookup n = some c → c ≠ a)
    (hy : env.kindOf y = some .local) (hkf : env.scope.kind = .function)
    (k : CompAtU prog w mg mb A elt target ifs (fun C => compEnvC scope cl C env) cm g d os wr kk (fun i v h₃ => ∃ t, v = .int i t) wr₀ hE env m y Q h) :
    wpAny (model prog w) A (pyIter (.ref r)) (fun it s₂ => wpAny (model prog w) A (newList []) (fun acc s₃ => wpAny (model prog w) A (newFunctionEnv scope env.globals cl [] env.qual none .none (some env)) (fun cenv s₄ =>
      codeAny (model prog w) A (.compStart (.ListComp elt [⟨target, iter, ifs, 0⟩] scope pos) 0 it acc { cenv with scope := relabel scope env }) (compPost (model prog w) A E (some (assign (.Name y py) env)) (fun _ s => Q s) acc cenv.locals) s₄) E s₃) E s₂) E ⟨h, g, d, tk, os⟩ := by
  refine wpAny_pyIter_range (s := ⟨h, g, d, tk, os⟩) hr hk.1 ?_
  rw [hk.2]
  have sz : (242 : Nat) ≤ h.objs.size := F.G.sz
  have newI : (h.push { cls := .type "range_iterator", data := .fields #[rawInt 0, rawInt kk, rawInt 1] }).get? h.objs.size = some { cls := .type "range_iterator", data := .fields #[rawInt 0, rawInt kk, rawInt 1] } := Heap.get?_push_size _ rfl
  have W := Walks.range (prog := prog) (w := w) hA.hh h.objs.size 0 1 kk
  have e : ∀ i : Nat, (0 : Int) + (i : Int) * 1 = i := fun i => by omega
  simp only [e] at W
  refine comp_atU (wr := wr) (py := py) (F.up (.push _)) (range_turns hA target h.objs.size kk) (fun s Q E st q => W.self 0 s Q E st q) hsz (Ext.push _ _) (fun b q => by rw [List.mem_singleton.mp q]; exact Heap.get?_none_of_le (Nat.le_refl _))
    hcell hkind hcl (by simpa using newI) ?_ ?_ ?_ (fun a q => (hwr a q).1) ?_ hy hkf k
  · intro b hb
    rw [List.mem_singleton.mp hb]; exact ⟨_, newI⟩
  · intro b hb
    rw [List.mem_singleton.mp hb]
    exact ⟨Nat.ne_of_gt (Nat.lt_of_lt_of_le (by decide) sz), fun q => by obtain ⟨o, e⟩ := (hwr _ q).1; exact absurd (Heap.lt_size e) (Nat.lt_irrefl _)⟩
  · intro i h' st b hb
    rw [List.mem_singleton.mp hb]
    exact ⟨Nat.lt_of_lt_of_le (by decide) sz, _, st, ⟨_, rfl, by simp⟩, _, rfl, by simp [rawInt]⟩
  · intro n c hc
    exact ⟨fun q => by have := new_ne_cell F (Heap.get?_none_of_le (Nat.le_refl _)) n c hc; exact this (List.mem_singleton.mp q), fun q => (hwr c q).2 n c hc rfl⟩

theorem xAssignComp {elt target iter : Expr} {y : Str} {py : Pos} {ifs : List Expr} {scope : Scope} {cl : List (Str × Addr)} {pos spos : Pos} {rest : List Stmt} {Q : Flow → Shared → Prop} {s : Shared}
    (hsw : swapsWith (.ListComp elt [⟨target, iter, ifs, 0⟩] scope pos) (some (.Name y py)) spos.line env = pure true)
    (hclos : closureFor scope env = pure cl) (hkind : scope.kind = .function) (hnames : ∀ z ∈ scope.names, z.2 = .local → scope.names.lookup z.1 = some .local) (hs : ∀ x, foldedSetIterable iter env x = pure x)
    (k : wpAny (model prog w) A (eval iter env) (fun xv s₁ => wpAny (model prog w) A (pyIter xv) (fun it s₂ => wpAny (model prog w) A (newList []) (fun acc s₃ => wpAny (model prog w) A (newFunctionEnv scope env.globals cl [] env.qual none .none (some env)) (fun cenv s₄ =>
      codeAny (model prog w) A (.compStart (.ListComp elt [⟨target, iter, ifs, 0⟩] scope pos) 0 it acc { cenv with scope := relabel scope env }) (compPost (model prog w) A E (some (assign (.Name y py) env)) (fun _ s => wpAny (model prog w) A (execs rest env) Q E s) acc cenv.locals) s₄) E s₃) E s₂) E s₁) E s) :
    wpAny (model prog w) A (execs (.Assign [.Name y py] (.ListComp elt [⟨target, iter, ifs, 0⟩] scope pos) spos :: rest) env) Q E s := by
  refine wpAny_execs_cons ?_
  rw [exec_Assign_Name_used _ _ _ _ hsw]
  refine wpAny_bind (wpAny_standAt (wpAny_bind ?_))
  show wpAny _ A (do let _ ← comprehension (.ListComp elt [⟨target, iter, ifs, 0⟩] scope pos) scope env _ (newList []) false (eval iter env) (some (assign (.Name y py) env))) _ _ s
  refine wpAny_bind (wpAny_mono (wpAny_comprehension_free (use := some (assign (.Name y py) env)) (Q := fun _ s' => wpAny (model prog w) A (execs rest env) Q E s') rfl hs hclos hkind hnames k) (fun _ s' hq => wpAny_pure (wpAny_pure hq)) fun _ _ e => e)
end
section
variable {prog : Program} {w : World} {mg mb : Str → Option Value} {A : Around} {E : Value → Shared → Prop} {hE h hS : Heap} {env : Env} {m cm : Str → Option Value} {wr wr₀ : List Addr}
  {g : Array GenState} {d : Drawn} {tk : Nat} {os : OsState}
/-- a comprehension over a list, stored in a name; what it gathers is told by J -/
theorem comp_listR {elt target iter : Expr} {scope : Scope} {cl : List (Str × Addr)} {pos py : Pos} {y : Str} {t : Addr} {vs : List Value} {n : Nat} {Q : Shared → Prop}
    (F : Fm w mg mb wr₀ hE env m cm h) (hA : Cx A n) (hT : h.IsList t vs.toArray) (hsz : vs.length ≤ sizeLine)
    (hcell : ∀ y ∈ scope.names, y.2 ≠ .cell) (hkind : scope.kind = .function) (hcl : ∀ p ∈ cl, env.cells.lookup p.1 = some p.2) (hy : env.kindOf y = some .local) (hkf : env.scope.kind = .function)
    (J : Addr → Addr → Addr → Nat → List Value → Heap → Prop) (J0 : ∀ I C D h', Ext h h' → J I C D 0 [] h')
    (hJ : ∀ I C D i ys ha hb, Step w mg mb [C, D, I, env.locals] ha hb → J I C D i ys ha → J I C D i ys hb)
    (turn : ∀ I C D i ys v m₃ h₃ tk₃ E', vs[i]? = some v → J I C D i ys h₃ → (∃ o, h₃.get? I = some o) → (∃ o, h₃.get? D = some o) → h.get? C = none → h.get? D = none → h.get? I = none → Step w mg mb [] h h₃ → Fm w mg mb [C] h₃ (compEnvC scope cl C env) m₃ cm h₃ → (compEnvC scope cl C env).locals = C →
      wpAny (model prog w) A (assign target (compEnvC scope cl C env) v) (fun _ s₂ => wpAny (model prog w) A (eval elt (compEnvC scope cl C env)) (fun y => ElP w mg mb g d os [C] h₃ (compEnvC scope cl C env) cm (J I C D (i + 1) (ys ++ [y]))) E' s₂) E' ⟨h₃, g, d, tk₃, os⟩)
    (fin : ∀ I C D ys h' tk', J I C D vs.length ys h' → Step w mg mb [env.locals] h h' → h.get? D = none → 241 < D → h'.IsList D ys.toArray → Fm w mg mb wr₀ hE env (upd m y (.ref D)) cm h' → Q ⟨h', g, d, tk', os⟩) :
    wpAny (model prog w) A (pyIter (.ref t)) (fun it s₂ => wpAny (model prog w) A (newList []) (fun acc s₃ => wpAny (model prog w) A (newFunctionEnv scope env.globals cl [] env.qual none .none (some env)) (fun cenv s₄ =>
      codeAny (model prog w) A (.compStart (.ListComp elt [⟨target, iter, [], 0⟩] scope pos) 0 it acc { cenv with scope := relabel scope env }) (compPost (model prog w) A E (some (assign (.Name y py) env)) (fun _ s => Q s) acc cenv.locals) s₄) E s₃) E s₂) E ⟨h, g, d, tk, os⟩ := by
  have hlt : t < h.objs.size := let ⟨_, e, _⟩ := hT; Heap.lt_size e
  refine wpAny_pyIter_list (s := ⟨h, g, d, tk, os⟩) hT ?_
  have sz : (242 : Nat) ≤ h.objs.size := F.G.sz
  have newI : (h.push { cls := .type "list_iterator", data := .fields #[.ref t, .int 0 0] }).get? h.objs.size = some { cls := .type "list_iterator", data := .fields #[.ref t, .int 0 0] } := Heap.get?_push_size _ rfl
  have nI : h.get? h.objs.size = none := Heap.get?_none_of_le (Nat.le_refl _)
  have W := Walks.list (prog := prog) (w := w) hA.hh h.objs.size t (Nat.ne_of_lt hlt) vs.toArray
  have hvl : vs.toArray.size = vs.length := List.size_toArray
  generalize hI : h.objs.size = I at *
  have ex : Ext h (h.push { cls := .type "list_iterator", data := .fields #[.ref t, .int 0 0] }) := Ext.push _ _
  generalize h.push { cls := .type "list_iterator", data := .fields #[.ref t, .int 0 0] } = hS at *
  have FS := F.up (.of_ext ex)
  have no : ∀ {a : Addr}, hS.get? a = none → h.get? a = none := fun {a} q => by
    cases e : h.get? a with
    | none => rfl
    | some o => rw [ex a o e] at q; cases q
  have off : ∀ {h' : Heap}, Step w mg mb ([I] ++ []) hS h' → Step w mg mb [] h h' := fun x => Step.off (wr := []) (.of_ext ex) (x.mono (by simp)) nI
  refine comp_blockR (wr := []) (RR := fun acc C => compPost (model prog w) A E (some (assign (.Name y py) env)) (fun _ s => Q s) acc C) FS (KTurns.ofWalks (target := target) W fun i v s Q E st hQ => letGo_listiter st.1 hQ) (fun s Q E st q => W.self 0 s Q E st q) (by rw [hvl]; exact hsz)
    (fun C D vs' ys h' => J I C D vs'.length ys h' ∧ vs'.length ≤ vs.length) hcell hkind hcl ⟨⟨_, newI, rfl, rfl⟩, hT.at fun o e => ex _ o e⟩ ?_ ?_ ?_ (fun _ q => nomatch q) ?_ (fun C D h' e _ _ => ⟨J0 I C D h' fun b o q => e b o (ex b o q), Nat.zero_le _⟩) ?_ ?_ ?_
  · intro b hb
    rcases List.mem_cons.mp hb with rfl | hb
    · exact ⟨_, newI⟩
    · rw [List.mem_singleton.mp hb]
      obtain ⟨o, e, _⟩ := hT
      exact ⟨o, ex _ _ e⟩
  · intro b hb
    refine ⟨?_, fun q => nomatch q⟩
    rcases List.mem_cons.mp hb with rfl | hb
    · exact Nat.ne_of_gt (Nat.lt_of_lt_of_le (by decide : 87 < 242) sz)
    · rw [List.mem_singleton.mp hb]; exact IsList.ne87 F.G hT
  · intro i h' st b hb
    rw [List.mem_singleton.mp hb]
    obtain ⟨o, e, hc, hd⟩ := st.1
    exact ⟨Nat.lt_of_lt_of_le (by decide : 241 < 242) sz, o, e, ⟨_, hc, by simp⟩, _, hd, by simp⟩
  · intro n c hc
    refine ⟨fun q => ?_, fun q => nomatch q⟩
    exact new_ne_cell F nI n c hc (List.mem_singleton.mp q)
  · rintro C D vs' ys ha hb M ⟨j, jl⟩
    refine ⟨hJ I C D _ _ _ _ (M.st.mono fun a q => ?_) j, jl⟩
    rcases List.mem_cons.mp q with rfl | q
    · simp
    · rcases List.mem_cons.mp q with rfl | q
      · simp
      · rw [List.mem_singleton.mp q]; simp
  · rintro C D vs' ys v m₃ h₃ tk₃ E' hlt' hPv ⟨j, jl⟩ hC hD hCD hDl hIo sS F₃
    have hv : vs[vs'.length]? = some v := by
      have e : vs.toArray[vs'.length]? = some v := hPv
      rw [List.getElem?_toArray] at e; exact e
    refine wpAny_mono (turn I C D vs'.length ys v m₃ h₃ tk₃ E' hv j (hIo I (by simp)) (let ⟨o, e, _⟩ := hDl; ⟨o, e⟩) (no hC) (no hD) nI (off sS) F₃ rfl) (fun _ s₂ h₂ => wpAny_tests_nil ?_) fun _ _ x => x
    simp only [if_true]
    refine wpAny_mono h₂ (fun y s₄ q => ?_) fun _ _ x => x
    obtain ⟨h₄, tk₄, m₄, e, F₄, j₄⟩ := q
    exact ⟨h₄, tk₄, m₄, e, F₄, by rw [List.length_append]; exact j₄, by rw [List.length_append]; have := (List.getElem?_eq_some_iff.mp hv).1; simp; omega⟩
  · rintro C D vs' ys h' tk' m' hn ⟨j, jl⟩ hC hD hCD hC241 hD241 hns hpl hle st
    rw [hn, hvl] at j
    have F' := F.up (off st)
    have nC := FS.newI hC
    have nD := FS.newI hD
    show wpAny (model prog w) A (assign (.Name y py) env (.ref D)) _ _ _
    refine wpAny_assign_Name (stL F' hy hkf fun h₂ st₂ F₂ => ?_)
    have hn₂ : h₂.Ns C m' := hns.at' fun o e => st₂.keep C o (ne87 hC241) (by simpa using nC.1) e
    refine ⟨m', hn₂, fun h₃ hs₃ => ?_⟩
    obtain ⟨oC, _, _, hoC, hdC, _⟩ := hn₂
    have stC : Step w mg mb [C] h₂ h₃ := .but (fun b o hb e => (hs₃.2 b hb).trans e) hC241 hoC (fun vs q => by rw [hdC] at q; cases q) (fun _ vs n q => by rw [hdC] at q; cases q)
    have F₃ := F₂.upD stC nC.2.1.symm nC.1 nC.2.2
    refine fin I C D ys h₃ _ (hJ _ _ _ _ _ _ _ (stC.mono (by simp)) (hJ _ _ _ _ _ _ _ (st₂.mono (by simp)) j)) (Step.off ((off st).mono (fun _ q => nomatch q) |>.trans st₂) stC (no hC)) (no hD) hD241 ?_ F₃
    exact IsList.up F₂.G stC (IsList.up F'.G st₂ hpl.isList (by simpa using nD.1)) (by simpa using hCD.symm)
end

inductive Pn where
  | X | Y | T
  deriving DecidableEq
inductive Ty where
  | int (b : Bool)
  | bool
  | never
  | unit
  | pair (a b : Ty)
  | ref (r m : Bool) (t : Ty)
  | box (t : Ty)
  | arr (t : Ty)
  | prm (p : Pn)
  | S
  | L
  | E (t : Ty)
  deriving DecidableEq
def Pn.str : Pn → Str
  | .X => Str.ofString "X"
  | .Y => Str.ofString "Y"
  | .T => Str.ofString "T"
def reg : Bool → PyData
  | true => .str (Str.ofString "'a")
  | false => .none
def Ty.kind : Ty → Str
  | .int _ => Str.ofString "int"
  | .bool => Str.ofString "bool"
  | .never => Str.ofString "never"
  | .unit => Str.ofString "tuple"
  | .pair _ _ => Str.ofString "tuple"
  | .ref _ _ _ => Str.ofString "ref"
  | .box _ => Str.ofString "box"
  | .arr _ => Str.ofString "array"
  | .prm _ => Str.ofString "param"
  | .S => Str.ofString "adt"
  | .L => Str.ofString "adt"
  | .E _ => Str.ofString "adt"
def enc : Ty → PyData
  | .int b => .tuple [.str (Str.ofString "int"), .str (if b then Str.ofString "u8" else Str.ofString "i32")]
  | .bool => .tuple [.str (Str.ofString "bool")]
  | .never => .tuple [.str (Str.ofString "never")]
  | .unit => .tuple [.str (Str.ofString "tuple"), .tuple []]
  | .pair a b => .tuple [.str (Str.ofString "tuple"), .tuple [enc a, enc b]]
  | .ref r m t => .tuple [.str (Str.ofString "ref"), reg r, .bool m, enc t]
  | .box t => .tuple [.str (Str.ofString "box"), enc t]
  | .arr t => .tuple [.str (Str.ofString "array"), enc t, .int 3]
  | .prm p => .tuple [.str (Str.ofString "param"), .str p.str]
  | .S => .tuple [.str (Str.ofString "adt"), .str (Str.ofString "S"), .tuple [], .tuple []]
  | .L => .tuple [.str (Str.ofString "adt"), .str (Str.ofString "L"), .tuple [], .tuple []]
  | .E t => .tuple [.str (Str.ofString "adt"), .str (Str.ofString "E"), .tuple [], .tuple [enc t]]
def parts : Ty → List Ty
  | .int _ | .bool | .never | .unit | .prm _ | .S | .L => []
  | .pair a b => [a, b]
  | .ref _ _ t | .box t | .arr t | .E t => [t]
def rebuild : Ty → List Ty → Ty
  | .pair _ _, [a, b] => .pair a b
  | .ref r m _, [a] => .ref r m a
  | .box _, [a] => .box a
  | .arr _, [a] => .arr a
  | .E _, [a] => .E a
  | t, _ => t
def Ty.rest : Ty → List PyData
  | .int b => [.str (if b then Str.ofString "u8" else Str.ofString "i32")]
  | .bool => []
  | .never => []
  | .unit => [.tuple []]
  | .pair a b => [.tuple [enc a, enc b]]
  | .ref r m t => [reg r, .bool m, enc t]
  | .box t => [enc t]
  | .arr t => [enc t, .int 3]
  | .prm p => [.str p.str]
  | .S => [.str (Str.ofString "S"), .tuple [], .tuple []]
  | .L => [.str (Str.ofString "L"), .tuple [], .tuple []]
  | .E t => [.str (Str.ofString "E"), .tuple [], .tuple [enc t]]
theorem enc_eq (t : Ty) : enc t = .tuple (.str t.kind :: t.rest) := by cases t <;> rfl
def Ty.dep : Ty → Nat
  | .pair a b => max a.dep b.dep + 1
  | .ref _ _ t => t.dep + 1
  | .box t => t.dep + 1
  | .arr t => t.dep + 1
  | .E t => t.dep + 1
  | _ => 0
theorem dep_parts {t p : Ty} (h : p ∈ parts t) : p.dep < t.dep := by
  cases t <;> simp [parts] at h <;> (try (rcases h with rfl | rfl)) <;> (try subst h) <;> simp only [Ty.dep] <;> omega
def sub (ou : Option Ty) : Ty → Ty
  | .prm .T => ou.getD (.prm .T)
  | .pair a b => .pair (sub ou a) (sub ou b)
  | .ref r m t => .ref r m (sub ou t)
  | .box t => .box (sub ou t)
  | .arr t => .arr (sub ou t)
  | .E t => .E (sub ou t)
  | t => t
def wreg (c : Bool) : Ty → Ty
  | .pair a b => .pair (wreg c a) (wreg c b)
  | .ref r m t => .ref (!c && r) m (wreg c t)
  | .box t => .box (wreg c t)
  | .arr t => .arr (wreg c t)
  | .E t => .E (wreg c t)
  | t => t
theorem wreg_false (t : Ty) : wreg false t = t := by induction t <;> simp_all [wreg]
abbrev era : Ty → Ty := wreg true
def whd (c : Bool) : Ty → Ty
  | .ref r m t => .ref (!c && r) m t
  | t => t
theorem whd_parts (c : Bool) (t : Ty) : parts (whd c t) = parts t := by cases t <;> rfl
theorem whd_rebuild (c : Bool) (t : Ty) : rebuild (whd c t) ((parts t).map (wreg c)) = wreg c t := by cases t <;> rfl
theorem wreg_dep (c : Bool) (t : Ty) : (wreg c t).dep = t.dep := by induction t <;> simp_all [wreg, Ty.dep]
theorem rebuild_sub (ou : Option Ty) (t : Ty) (h : ∀ p, t ≠ .prm p) : rebuild t ((parts t).map (sub ou)) = sub ou t := by
  cases t <;> first | rfl | exact absurd rfl (h _)
theorem kind_param {t : Ty} (h : ∀ p, t ≠ .prm p) : (t.kind == Str.ofString "param") = false := by
  cases t <;> first | (exact absurd rfl (h _)) | rfl
def TabX (prog : Program) (w : World) (h : Heap) (td : Addr) (ou : Option Ty) : Prop :=
  ∃ kvs, Dct prog w h td kvs ∧ 241 < td ∧ match ou with | none => kvs = [] | some u => ∃ v, kvs = [(Str.ofString "T", v)] ∧ XT h v (enc u)
theorem TabX.up {prog : Program} {w : World} {mg mb : Str → Option Value} {wr : List Addr} {h h' : Heap} {td : Addr} {ou : Option Ty} (G : Gd w mg mb h) (st : Step w mg mb wr h h') (x : TabX prog w h td ou) (hw : td ∉ wr) : TabX prog w h' td ou := by
  obtain ⟨kvs, D, h1, q⟩ := x
  refine ⟨kvs, D.up G st hw, h1, ?_⟩
  cases ou with
  | none => exact q
  | some u => obtain ⟨v, e, x⟩ := q; exact ⟨v, e, x.up st⟩
/-- every reference in t has a region (or c: they are all erased) -/
def regs (c : Bool) : Ty → Bool
  | .pair a b => regs c a && regs c b
  | .ref r _ t => (c || r) && regs c t
  | .box t => regs c t
  | .arr t => regs c t
  | .E t => regs c t
  | _ => true
theorem regs_true (t : Ty) : regs true t = true := by induction t <;> simp_all [regs]
theorem regs_parts {c : Bool} {t p : Ty} (h : p ∈ parts t) (hr : regs c t = true) : regs c p = true := by
  cases t <;> simp [parts] at h <;> simp [regs] at hr
  · rcases h with rfl | rfl
    · exact hr.1
    · exact hr.2
  · subst h; exact hr.2
  · subst h; exact hr
  · subst h; exact hr
  · subst h; exact hr

/-- a thing that can be laid, of depth n at most -/
def Shp (n : Nat) (d : PyData) : Prop := d.canLay0 = true ∧ d.depth ≤ n
def Shps (n : Nat) (ds : List PyData) : Prop := PyData.canLayAll0 ds = true ∧ PyData.depthAll ds ≤ n
theorem Shps.nil {n : Nat} : Shps n [] := ⟨rfl, Nat.zero_le _⟩
theorem Shps.cons {n : Nat} {d : PyData} {ds : List PyData} (a : Shp n d) (b : Shps n ds) : Shps n (d :: ds) := ⟨by rw [PyData.canLayAll0, a.1, b.1]; rfl, by rw [PyData.depthAll]; exact Nat.max_le.mpr ⟨a.2, b.2⟩⟩
theorem Shps.tup {n : Nat} {ds : List PyData} (a : Shps n ds) : Shp (n + 1) (.tuple ds) := ⟨by rw [PyData.canLay0]; exact a.1, by rw [PyData.depth]; exact Nat.add_le_add_right a.2 1⟩
theorem Shp.mono {n m : Nat} {d : PyData} (a : Shp n d) (h : n ≤ m) : Shp m d := ⟨a.1, Nat.le_trans a.2 h⟩
theorem Shp.str {n : Nat} {x : Str} (a : (PyData.str x).canLay0 = true) : Shp n (.str x) := ⟨a, Nat.zero_le _⟩
theorem enc_shp : ∀ t : Ty, Shp (2 * t.dep + 2) (enc t)
  | .int b => ((by cases b <;> exact ⟨by decide +kernel, by decide +kernel⟩ : Shp 2 (enc (.int b)))).mono (Nat.le_add_left ..)
  | .bool => Shp.mono (n := 2) ⟨by decide +kernel, by decide +kernel⟩ (Nat.le_add_left ..)
  | .never => Shp.mono (n := 2) ⟨by decide +kernel, by decide +kernel⟩ (Nat.le_add_left ..)
  | .unit => Shp.mono (n := 2) ⟨by decide +kernel, by decide +kernel⟩ (Nat.le_add_left ..)
  | .prm p => ((by cases p <;> exact ⟨by decide +kernel, by decide +kernel⟩ : Shp 2 (enc (.prm p)))).mono (Nat.le_add_left ..)
  | .S => Shp.mono (n := 2) ⟨by decide +kernel, by decide +kernel⟩ (Nat.le_add_left ..)
  | .L => Shp.mono (n := 2) ⟨by decide +kernel, by decide +kernel⟩ (Nat.le_add_left ..)
  | .pair a b => Shps.tup (n := 2 * (max a.dep b.dep + 1) + 1) (.cons (.str (by decide +kernel)) (.cons ((Shps.tup (.cons ((enc_shp a).mono (m := 2 * max a.dep b.dep + 2) (Nat.add_le_add_right (Nat.mul_le_mul_left 2 (Nat.le_max_left ..)) 2)) (.cons ((enc_shp b).mono (Nat.add_le_add_right (Nat.mul_le_mul_left 2 (Nat.le_max_right ..)) 2)) .nil))).mono (Nat.le_refl _)) .nil))
  | .ref r _ t => Shps.tup (n := 2 * (t.dep + 1) + 1) (.cons (.str (by decide +kernel)) (.cons (by cases r <;> exact ⟨by decide +kernel, Nat.zero_le _⟩) (.cons ⟨rfl, Nat.zero_le _⟩ (.cons ((enc_shp t).mono (Nat.le_succ _)) .nil))))
  | .box t => Shps.tup (n := 2 * (t.dep + 1) + 1) (.cons (.str (by decide +kernel)) (.cons ((enc_shp t).mono (Nat.le_succ _)) .nil))
  | .arr t => Shps.tup (n := 2 * (t.dep + 1) + 1) (.cons (.str (by decide +kernel)) (.cons ((enc_shp t).mono (Nat.le_succ _)) (.cons ⟨rfl, Nat.zero_le _⟩ .nil)))
  | .E t => Shps.tup (n := 2 * (t.dep + 1) + 1) (.cons (.str (by decide +kernel)) (.cons (.str (by decide +kernel)) (.cons (Shps.tup (n := 2 * t.dep + 2) .nil) (.cons (Shps.tup (n := 2 * t.dep + 2) (.cons (enc_shp t) .nil)) .nil))))
theorem enc_shape (t : Ty) : (enc t).canLay0 = true ∧ (enc t).depth ≤ 2 * t.dep + 2 := enc_shp t
theorem enc_shaped (t : Ty) (h : t.dep ≤ 30) : SeqAt.shaped (enc t) = true := by
  have := enc_shape t
  unfold SeqAt.shaped
  rw [this.1]
  simp only [Bool.true_and, decide_eq_true_eq]
  omega
theorem encs_shp (ts : List Ty) (h : ∀ t ∈ ts, t.dep ≤ 30) : Shps 63 (ts.map enc) := by
  induction ts with
  | nil => exact .nil
  | cons t ts ih => exact .cons ((enc_shp t).mono (by have := h t (.head _); omega)) (ih fun t ht => h t (.tail _ ht))
theorem encs_shape (ts : List Ty) (h : ∀ t ∈ ts, t.dep ≤ 30) : PyData.canLayAll0 (ts.map enc) = true ∧ PyData.depthAll (ts.map enc) ≤ 63 := encs_shp ts h

/-- an impl: of Copy (or Drop), for E (or S), with a bound on T -/
structure ImpD where
  cp : Bool
  e : Bool
  ask : Bool
structure WD where
  S : List Ty
  E : List Ty
  rows : List ImpD
def sty (s : String) : PyData := .str (Str.ofString s)
/-- a variant's rows: the number as a text, the type -/
def rowsOf (fs : List Ty) : List PyData := fs.mapIdx fun i t => .tuple [.str (Str.ofString (toString i)), enc t]
def ImpD.params (i : ImpD) : List PyData := if i.e then [.tuple [sty "T", .tuple (if i.ask then [sty "Copy"] else [])]] else []
def ImpD.self (i : ImpD) : Ty := if i.e then .E (.prm .T) else .S
section
variable (prog : Program) (w : World) (h : Heap)
inductive ImpIs (x : Value) (i : ImpD) : Prop where
  | mk (a dx : Addr) (mo : Str → Option Value) (tv sv : Value) (pl : Addr) (vs : List Value) : x = .ref a →
    Ins h a dx 143 mo 8 →
    mo (Str.ofString "trait") = some tv →
    XT h tv (if i.cp then sty "Copy" else sty "Drop") →
    mo (Str.ofString "self_type") = some sv →
    XT h sv (enc i.self) →
    mo (Str.ofString "params") = some (.ref pl) →
    h.IsList pl (vs : List Value).toArray →
    XTs h vs i.params → ImpIs x i
inductive VarIs (v : Value) (fs : List Ty) : Prop where
  | mk (t : Addr) (a b : Value) (l : Addr) (rs : List Value) : v = .ref t →
    IsTup h t #[a, b, .ref l] →
    h.IsList l (rs : List Value).toArray →
    XTs h rs (rowsOf fs) → VarIs v fs
def VarsAre : List Value → List (List Ty) → Prop
  | [], [] => True
  | v :: vs, f :: fs => VarIs h v f ∧ VarsAre vs fs
  | _, _ => False
inductive AdtIs (x : Value) (ps : List PyData) (vars : List (List Ty)) : Prop where
  | mk (a dx : Addr) (mo : Str → Option Value) (rv pv : Value) (vl : Addr) (vv : List Value) : x = .ref a →
    Ins h a dx 121 mo 7 →
    mo (Str.ofString "regions") = some rv →
    XT h rv (.tuple []) →
    mo (Str.ofString "params") = some pv →
    XT h pv (.tuple ps) →
    mo (Str.ofString "variants") = some (.ref vl) →
    h.IsList vl (vv : List Value).toArray →
    VarsAre h vv vars → AdtIs x ps vars
def ImpsAre : List Value → List ImpD → Prop
  | [], [] => True
  | v :: vs, i :: is => ImpIs h v i ∧ ImpsAre vs is
  | _, _ => False
def WD.vars (W : WD) : Ty → List (List Ty)
  | .S => [W.S]
  | .L => [[], [.box .L]]
  | .E _ => [[.prm .T], W.E]
  | _ => []
inductive WorldIs (x : Value) (W : WD) : Prop where
  | mk (a dx : Addr) (mo : Str → Option Value) (ad il : Addr) (aS aE aL : Value) (rv : List Value) : x = .ref a →
    Ins h a dx 172 mo 8 →
    mo (Str.ofString "adts") = some (.ref ad) →
    mo (Str.ofString "impls") = some (.ref il) →
    241 < ad →
    Dct prog w h ad [(Str.ofString "S", aS), (Str.ofString "E", aE), (Str.ofString "L", aL)] →
    AdtIs h aS [] [W.S] →
    AdtIs h aE [sty "T"] [[.prm .T], W.E] →
    AdtIs h aL [] [[], [.box .L]] →
    h.IsList il (rv : List Value).toArray →
    ImpsAre h rv W.rows → WorldIs x W
end
section
variable {prog : Program} {w : World} {mg mb : Str → Option Value} {h h' : Heap}
theorem ImpIs.up (G : Gd w mg mb h) (st : Step w mg mb [] h h') {x : Value} {i : ImpD} (I : ImpIs h x i) : ImpIs h' x i :=
  let ⟨a, dx, mo, tv, sv, pl, vs, e, i1, e1, x1, e2, x2, e3, l, x3⟩ := I
  ⟨a, dx, mo, tv, sv, pl, vs, e, i1.up0 st, e1, x1.up st, e2, x2.up st, e3, IsList.up G st l (by simp), x3.up st⟩
theorem VarIs.up (G : Gd w mg mb h) (st : Step w mg mb [] h h') {x : Value} {f : List Ty} (I : VarIs h x f) : VarIs h' x f :=
  let ⟨t, a, b, l, rs, e, t1, l1, x1⟩ := I
  ⟨t, a, b, l, rs, e, IsTup.up st t1, IsList.up G st l1 (by simp), x1.up st⟩
theorem VarsAre.up (G : Gd w mg mb h) (st : Step w mg mb [] h h') : ∀ {vs : List Value} {fs : List (List Ty)}, VarsAre h vs fs → VarsAre h' vs fs
  | [], [], _ => trivial
  | [], _ :: _, I => I.elim
  | _ :: _, [], I => I.elim
  | v :: vs, f :: fs, I => ⟨VarIs.up G st I.1, VarsAre.up G st I.2⟩
theorem ImpsAre.up (G : Gd w mg mb h) (st : Step w mg mb [] h h') : ∀ {vs : List Value} {is : List ImpD}, ImpsAre h vs is → ImpsAre h' vs is
  | [], [], _ => trivial
  | [], _ :: _, I => I.elim
  | _ :: _, [], I => I.elim
  | v :: vs, i :: is, I => ⟨ImpIs.up G st I.1, ImpsAre.up G st I.2⟩
theorem AdtIs.up (G : Gd w mg mb h) (st : Step w mg mb [] h h') {x : Value} {ps : List PyData} {vars : List (List Ty)} (I : AdtIs h x ps vars) : AdtIs h' x ps vars :=
  let ⟨a, dx, mo, rv, pv, vl, vv, e, i1, e1, x1, e2, x2, e3, l, v⟩ := I
  ⟨a, dx, mo, rv, pv, vl, vv, e, i1.up0 st, e1, x1.up st, e2, x2.up st, e3, IsList.up G st l (by simp), v.up G st⟩
theorem WorldIs.up (G : Gd w mg mb h) (st : Step w mg mb [] h h') {x : Value} {W : WD} (I : WorldIs prog w h x W) : WorldIs prog w h' x W :=
  let ⟨a, dx, mo, ad, il, aS, aE, aL, rv, e, i1, e1, e2, la, D, s1, s2, s3, l, r⟩ := I
  ⟨a, dx, mo, ad, il, aS, aE, aL, rv, e, i1.up0 st, e1, e2, la, D.up G st (by simp), s1.up G st, s2.up G st, s3.up G st, IsList.up G st l (by simp), r.up G st⟩
theorem ImpsAre.len : ∀ {vs : List Value} {is : List ImpD}, ImpsAre h vs is → vs.length = is.length
  | [], [], _ => rfl
  | [], _ :: _, I => I.elim
  | _ :: _, [], I => I.elim
  | v :: vs, i :: is, I => by simp [ImpsAre.len I.2]
theorem ImpsAre.get : ∀ {vs : List Value} {is : List ImpD} {k : Nat} {v : Value}, ImpsAre h vs is → vs[k]? = some v → ∃ i, is[k]? = some i ∧ ImpIs h v i
  | [], [], _, _, _, e => by simp at e
  | [], _ :: _, _, _, I, _ => I.elim
  | _ :: _, [], _, _, I, _ => I.elim
  | v :: vs, i :: is, 0, _, I, e => by simp at e; subst e; exact ⟨i, rfl, I.1⟩
  | v :: vs, i :: is, k + 1, _, I, e => by simpa using ImpsAre.get (k := k) I.2 (by simpa using e)
theorem VarsAre.len : ∀ {vs : List Value} {fs : List (List Ty)}, VarsAre h vs fs → vs.length = fs.length
  | [], [], _ => rfl
  | [], _ :: _, I => I.elim
  | _ :: _, [], I => I.elim
  | v :: vs, i :: is, I => by simp [VarsAre.len I.2]
theorem VarsAre.get : ∀ {vs : List Value} {fs : List (List Ty)} {k : Nat} {f : List Ty}, VarsAre h vs fs → fs[k]? = some f → ∃ v, vs[k]? = some v ∧ VarIs h v f
  | [], [], _, _, _, e => by simp at e
  | [], _ :: _, _, _, I, _ => I.elim
  | _ :: _, [], _, _, I, _ => I.elim
  | v :: vs, i :: is, 0, _, I, e => by simp at e; subst e; exact ⟨v, rfl, I.1⟩
  | v :: vs, i :: is, k + 1, _, I, e => by simpa using VarsAre.get (k := k) I.2 (by simpa using e)
end

theorem ImpD.self_dep (i : ImpD) : i.self.dep ≤ 10 := by unfold ImpD.self; split <;> decide
theorem ImpD.self_era (i : ImpD) : era i.self = i.self := by unfold ImpD.self; split <;> rfl
theorem ImpD.self_is (i : ImpD) : i.self = .S ∨ i.self = .E (.prm .T) := by unfold ImpD.self; split <;> simp

-- the walk's words; the text they stand in is written out by walk.py
set_option compiler.extract_closed false
-- ktn_call n R: the rule R by its name, then its n small goals, what is left comes last. 90-97: rules of other shapes, and ends
local macro_rules
  | `(tactic| ktn_call 89 $t) => `(tactic| ((with_reducible apply $t); all_goals tb_rel))
  | `(tactic| ktn_call 91 $t) => `(tactic| ((with_reducible refine' $t ?_ ?zs); (case zs => rfl)))
  | `(tactic| ktn_call 93 $t) => `(tactic| (intro zh zst zI; have zF := Fm.upD (by assumption) zst $t (by assumption) (by intro n c hc; exact nomatch hc)))
  | `(tactic| ktn_call 94 $t) => `(tactic| (intro zr zt zh ztk zlt zst zS; have zF := Fm.upD (by assumption) zst $t (by assumption) (by assumption)))
  | `(tactic| ktn_call 95 $_) => `(tactic| (intro zy zr; first | (have ⟨zt, ze⟩ := XT.str_inv zr; subst ze) | (have ze := XT.bool_inv zr; subst ze) | (have ze := XT.none_inv zr; subst ze) | skip))
  | `(tactic| ktn_call 96 $_) => `(tactic| (intro zr zh ztk zst zx; have zF := Fm.up (by assumption) zst))
  | `(tactic| ktn_call 97 $t) => `(tactic| ((with_reducible apply $t); all_goals (first | tb_rel | (simp; done) | (intro q; exact absurd (List.mem_singleton.mp q) (by assumption)) | (intro q; cases q) | decide)))
  | `(tactic| ktn_call 99 $_) => `(tactic| fail)
  | `(tactic| ktn_call 98 $t) => `(tactic| ((with_reducible apply $t); (iterate 2 assumption); (simp; done)))
  | `(tactic| ktn_call 1 $t) => `(tactic| ((with_reducible refine' $t ?za ?_); (case za => tb_rel)))
  | `(tactic| ktn_call 2 $t) => `(tactic| ((with_reducible refine' $t ?za ?zb ?_); (case za => tb_rel); (case zb => tb_rel)))
local macro_rules | `(tactic| tbr_iter $t) => `(tactic| with_reducible refine $t ?_)
-- tb_rel: a small goal: an equation, a hypothesis, or a fact of a heap from the heap it was told of
local macro_rules | `(tactic| tb_rel) => `(tactic| first
  | exact Eq.refl true | exact Eq.refl false | rfl
  | apply Reads.str | apply Reads.int | apply Reads.bool | apply Reads.none
  | with_reducible apply XTs.nil
  | ktn_call 89 XTs.cons
  | assumption
  | exact Nat.le_of_ble_eq_true rfl
  | with_reducible apply Agr.refl
  | with_reducible apply Agr.ovr
  | ktn_call 89 XT.up
  | ktn_call 89 XTs.up
  | ktn_call 89 IsTup.up
  | ktn_call 89 Fm.G
  | ktn_call 89 IsList.upQ
  | ktn_call 98 FnAt.ofE
  | ktn_call 98 IsList.ofE
  | ktn_call 97 IsList.upT
  | ktn_call 97 Agr.set
  | ktn_call 89 Agr.ovrS
  | exact List.forall_mem_nil _
  | ((refine' List.forall_mem_cons.mpr (And.intro ?za ?zb)); iterate 2 tb_rel)
  | ktn_call 99 rfl)
local macro_rules | `(tactic| ktr_room) => `(tactic| ktn_call 89 Fm.st)
section
variable {prog : Program} {w : World} {mg mb : Str → Option Value} {A : Around} {E : Value → Shared → Prop} {h : Heap} {g : Array GenState} {d : Drawn} {tk : Nat} {os : OsState}
theorem parts_of_spec {v : Value} {t : Ty} {n : Nat} {Q : Value → Shared → Prop} (hA : Cx A (n + 1)) (G : Gd w mg mb h) (X : XT h v (enc t))
    (k : ∀ r h' tk', Step w mg mb [] h h' → XT h' r (.tuple ((parts t).map enc)) → Q r ⟨h', g, d, tk', os⟩) :
    wpAny (model prog w) A (call (.ref 28) [v]) Q E ⟨h, g, d, tk, os⟩ := by
  refine' enter [] (fun _ q => nomatch q) (m := upd nom (Str.ofString "told") v) (cm := nom) G hA ?k1 ?k2 ?k3 ?k4 ?k5 ?k6 ?k7 ?k8 ?k9 ?_
  case k1 => k_is
  case k2 => k_is
  case k3 => exact BindsTo.of_eq rfl
  case k4 => rfl
  case k5 => intro _; rfl
  case k6 => intro _; rfl
  case k7 => rfl
  case k8 => rfl
  case k9 => rfl
  intro L h₁ tk₁ E' st F CN hA' NL
  generalize A.deeper _ = A2 at hA' ⊢
  cases t
  · ((with_reducible refine' yX ?zA ?zB ?zC ?zD ?zE ?zF ?zG ?_); (case zA => tb_rel); (case zB => tb_rel); (case zC => tb_rel); (case zD => tb_rel); (case zE => tb_rel); (case zF => tb_rel); (case zG => tb_rel); intros; (with_reducible refine' iN ?zA ?zB ?zC ?zD ?_); (case zA => tb_rel); (case zB => tb_rel); (case zC => tb_rel); (case zD => tb_rel); tbr_iter xIf0; tbr_iter wpAny_isTrue_BoolOp; tbr_iter wpAny_allTrue_Or_cons; (with_reducible refine' tN ?zA ?zB ?zC ?_); (case zA => tb_rel); (case zB => tb_rel); (case zC => tb_rel); ktn_call 1 ifF; tbr_iter wpAny_allTrue_Or_cons; (with_reducible refine' tN ?zA ?zB ?zC ?_); (case zA => tb_rel); (case zB => tb_rel); (case zC => tb_rel); ktn_call 1 ifF; tbr_iter wpAny_allTrue_Or_nil; ktn_call 1 ifF; (with_reducible refine' iN ?zA ?zB ?zC ?zD ?_); (case zA => tb_rel); (case zB => tb_rel); (case zC => tb_rel); (case zD => tb_rel); tbr_iter xReturn; tbr_iter wpAny_IfExp; (with_reducible refine' tN ?zA ?zB ?zC ?_); (case zA => tb_rel); (case zB => tb_rel); (case zC => tb_rel); ktn_call 1 ifF; tbr_iter Tuple_; tbr_iter args_nil; (with_reducible refine' newTupX ?zA ?zB ?zC ?_); (case zA => tb_rel); (case zB => tb_rel); (case zC => tb_rel); intros; tbr_iter back_ret); exact k _ _ _ (by ktr_room) (by tb_rel)
  · ((with_reducible refine' yX ?zA ?zB ?zC ?zD ?zE ?zF ?zG ?_); (case zA => tb_rel); (case zB => tb_rel); (case zC => tb_rel); (case zD => tb_rel); (case zE => tb_rel); (case zF => tb_rel); (case zG => tb_rel); intros; (with_reducible refine' iN ?zA ?zB ?zC ?zD ?_); (case zA => tb_rel); (case zB => tb_rel); (case zC => tb_rel); (case zD => tb_rel); tbr_iter xIf0; tbr_iter wpAny_isTrue_BoolOp; tbr_iter wpAny_allTrue_Or_cons; (with_reducible refine' tN ?zA ?zB ?zC ?_); (case zA => tb_rel); (case zB => tb_rel); (case zC => tb_rel); ktn_call 1 ifF; tbr_iter wpAny_allTrue_Or_cons; (with_reducible refine' tN ?zA ?zB ?zC ?_); (case zA => tb_rel); (case zB => tb_rel); (case zC => tb_rel); ktn_call 1 ifF; tbr_iter wpAny_allTrue_Or_nil; ktn_call 1 ifF; (with_reducible refine' iN ?zA ?zB ?zC ?zD ?_); (case zA => tb_rel); (case zB => tb_rel); (case zC => tb_rel); (case zD => tb_rel); tbr_iter xReturn; tbr_iter wpAny_IfExp; (with_reducible refine' tN ?zA ?zB ?zC ?_); (case zA => tb_rel); (case zB => tb_rel); (case zC => tb_rel); ktn_call 1 ifF; tbr_iter Tuple_; tbr_iter args_nil; (with_reducible refine' newTupX ?zA ?zB ?zC ?_); (case zA => tb_rel); (case zB => tb_rel); (case zC => tb_rel); intros; tbr_iter back_ret); exact k _ _ _ (by ktr_room) (by tb_rel)
  · ((with_reducible refine' yX ?zA ?zB ?zC ?zD ?zE ?zF ?zG ?_); (case zA => tb_rel); (case zB => tb_rel); (case zC => tb_rel); (case zD => tb_rel); (case zE => tb_rel); (case zF => tb_rel); (case zG => tb_rel); intros; (with_reducible refine' iN ?zA ?zB ?zC ?zD ?_); (case zA => tb_rel); (case zB => tb_rel); (case zC => tb_rel); (case zD => tb_rel); tbr_iter xIf0; tbr_iter wpAny_isTrue_BoolOp; tbr_iter wpAny_allTrue_Or_cons; (with_reducible refine' tN ?zA ?zB ?zC ?_); (case zA => tb_rel); (case zB => tb_rel); (case zC => tb_rel); ktn_call 1 ifF; tbr_iter wpAny_allTrue_Or_cons; (with_reducible refine' tN ?zA ?zB ?zC ?_); (case zA => tb_rel); (case zB => tb_rel); (case zC => tb_rel); ktn_call 1 ifF; tbr_iter wpAny_allTrue_Or_nil; ktn_call 1 ifF; (with_reducible refine' iN ?zA ?zB ?zC ?zD ?_); (case zA => tb_rel); (case zB => tb_rel); (case zC => tb_rel); (case zD => tb_rel); tbr_iter xReturn; tbr_iter wpAny_IfExp; (with_reducible refine' tN ?zA ?zB ?zC ?_); (case zA => tb_rel); (case zB => tb_rel); (case zC => tb_rel); ktn_call 1 ifF; tbr_iter Tuple_; tbr_iter args_nil; (with_reducible refine' newTupX ?zA ?zB ?zC ?_); (case zA => tb_rel); (case zB => tb_rel); (case zC => tb_rel); intros; tbr_iter back_ret); exact k _ _ _ (by ktr_room) (by tb_rel)
  · ((with_reducible refine' yX ?zA ?zB ?zC ?zD ?zE ?zF ?zG ?_); (case zA => tb_rel); (case zB => tb_rel); (case zC => tb_rel); (case zD => tb_rel); (case zE => tb_rel); (case zF => tb_rel); (case zG => tb_rel); intros; (with_reducible refine' iN ?zA ?zB ?zC ?zD ?_); (case zA => tb_rel); (case zB => tb_rel); (case zC => tb_rel); (case zD => tb_rel); tbr_iter xIf0; tbr_iter wpAny_isTrue_BoolOp; tbr_iter wpAny_allTrue_Or_cons; (with_reducible refine' tN ?zA ?zB ?zC ?_); (case zA => tb_rel); (case zB => tb_rel); (case zC => tb_rel); ktn_call 1 ifF; tbr_iter wpAny_allTrue_Or_cons; (with_reducible refine' tN ?zA ?zB ?zC ?_); (case zA => tb_rel); (case zB => tb_rel); (case zC => tb_rel); ktn_call 1 ifF; tbr_iter wpAny_allTrue_Or_nil; ktn_call 1 ifF; tbr_iter xIf0; (with_reducible refine' tN ?zA ?zB ?zC ?_); (case zA => tb_rel); (case zB => tb_rel); (case zC => tb_rel); ktn_call 1 ifT; tbr_iter xReturn; (with_reducible refine' eN ?zA ?zB ?zC ?zD ?zE ?zF ?_); (case zA => tb_rel); (case zB => tb_rel); (case zC => tb_rel); (case zD => tb_rel); (case zE => tb_rel); (case zF => tb_rel); ktn_call 95 eN; tbr_iter after_ret; tbr_iter back_ret); exact k _ _ _ (by ktr_room) (by tb_rel)
  · ((with_reducible refine' yX ?zA ?zB ?zC ?zD ?zE ?zF ?zG ?_); (case zA => tb_rel); (case zB => tb_rel); (case zC => tb_rel); (case zD => tb_rel); (case zE => tb_rel); (case zF => tb_rel); (case zG => tb_rel); intros; (with_reducible refine' iN ?zA ?zB ?zC ?zD ?_); (case zA => tb_rel); (case zB => tb_rel); (case zC => tb_rel); (case zD => tb_rel); tbr_iter xIf0; tbr_iter wpAny_isTrue_BoolOp; tbr_iter wpAny_allTrue_Or_cons; (with_reducible refine' tN ?zA ?zB ?zC ?_); (case zA => tb_rel); (case zB => tb_rel); (case zC => tb_rel); ktn_call 1 ifF; tbr_iter wpAny_allTrue_Or_cons; (with_reducible refine' tN ?zA ?zB ?zC ?_); (case zA => tb_rel); (case zB => tb_rel); (case zC => tb_rel); ktn_call 1 ifF; tbr_iter wpAny_allTrue_Or_nil; ktn_call 1 ifF; tbr_iter xIf0; (with_reducible refine' tN ?zA ?zB ?zC ?_); (case zA => tb_rel); (case zB => tb_rel); (case zC => tb_rel); ktn_call 1 ifT; tbr_iter xReturn; (with_reducible refine' eN ?zA ?zB ?zC ?zD ?zE ?zF ?_); (case zA => tb_rel); (case zB => tb_rel); (case zC => tb_rel); (case zD => tb_rel); (case zE => tb_rel); (case zF => tb_rel); ktn_call 95 eN; tbr_iter after_ret; tbr_iter back_ret); exact k _ _ _ (by ktr_room) (by tb_rel)
  · ((with_reducible refine' yX ?zA ?zB ?zC ?zD ?zE ?zF ?zG ?_); (case zA => tb_rel); (case zB => tb_rel); (case zC => tb_rel); (case zD => tb_rel); (case zE => tb_rel); (case zF => tb_rel); (case zG => tb_rel); intros; tbr_iter xIf0; (with_reducible refine' tN ?zA ?zB ?zC ?_); (case zA => tb_rel); (case zB => tb_rel); (case zC => tb_rel); ktn_call 1 ifT; tbr_iter xReturn; tbr_iter Tuple_; ktn_call 91 args_cons; (with_reducible refine' eN ?zA ?zB ?zC ?zD ?zE ?zF ?_); (case zA => tb_rel); (case zB => tb_rel); (case zC => tb_rel); (case zD => tb_rel); (case zE => tb_rel); (case zF => tb_rel); ktn_call 95 eN; tbr_iter args_nil; (with_reducible refine' newTupX ?zA ?zB ?zC ?_); (case zA => tb_rel); (case zB => tb_rel); (case zC => tb_rel); intros; tbr_iter after_ret; tbr_iter back_ret); exact k _ _ _ (by ktr_room) (by tb_rel)
  · ((with_reducible refine' yX ?zA ?zB ?zC ?zD ?zE ?zF ?zG ?_); (case zA => tb_rel); (case zB => tb_rel); (case zC => tb_rel); (case zD => tb_rel); (case zE => tb_rel); (case zF => tb_rel); (case zG => tb_rel); intros; (with_reducible refine' iN ?zA ?zB ?zC ?zD ?_); (case zA => tb_rel); (case zB => tb_rel); (case zC => tb_rel); (case zD => tb_rel); tbr_iter xIf0; tbr_iter wpAny_isTrue_BoolOp; tbr_iter wpAny_allTrue_Or_cons; (with_reducible refine' tN ?zA ?zB ?zC ?_); (case zA => tb_rel); (case zB => tb_rel); (case zC => tb_rel); ktn_call 1 ifT; ktn_call 1 ifT; tbr_iter xReturn; tbr_iter Tuple_; ktn_call 91 args_cons; (with_reducible refine' eN ?zA ?zB ?zC ?zD ?zE ?zF ?_); (case zA => tb_rel); (case zB => tb_rel); (case zC => tb_rel); (case zD => tb_rel); (case zE => tb_rel); (case zF => tb_rel); ktn_call 95 eN; tbr_iter args_nil; (with_reducible refine' newTupX ?zA ?zB ?zC ?_); (case zA => tb_rel); (case zB => tb_rel); (case zC => tb_rel); intros; tbr_iter after_ret; tbr_iter back_ret); exact k _ _ _ (by ktr_room) (by tb_rel)
  · ((with_reducible refine' yX ?zA ?zB ?zC ?zD ?zE ?zF ?zG ?_); (case zA => tb_rel); (case zB => tb_rel); (case zC => tb_rel); (case zD => tb_rel); (case zE => tb_rel); (case zF => tb_rel); (case zG => tb_rel); intros; (with_reducible refine' iN ?zA ?zB ?zC ?zD ?_); (case zA => tb_rel); (case zB => tb_rel); (case zC => tb_rel); (case zD => tb_rel); tbr_iter xIf0; tbr_iter wpAny_isTrue_BoolOp; tbr_iter wpAny_allTrue_Or_cons; (with_reducible refine' tN ?zA ?zB ?zC ?_); (case zA => tb_rel); (case zB => tb_rel); (case zC => tb_rel); ktn_call 1 ifF; tbr_iter wpAny_allTrue_Or_cons; (with_reducible refine' tN ?zA ?zB ?zC ?_); (case zA => tb_rel); (case zB => tb_rel); (case zC => tb_rel); ktn_call 1 ifT; ktn_call 1 ifT; tbr_iter xReturn; tbr_iter Tuple_; ktn_call 91 args_cons; (with_reducible refine' eN ?zA ?zB ?zC ?zD ?zE ?zF ?_); (case zA => tb_rel); (case zB => tb_rel); (case zC => tb_rel); (case zD => tb_rel); (case zE => tb_rel); (case zF => tb_rel); ktn_call 95 eN; tbr_iter args_nil; (with_reducible refine' newTupX ?zA ?zB ?zC ?_); (case zA => tb_rel); (case zB => tb_rel); (case zC => tb_rel); intros; tbr_iter after_ret; tbr_iter back_ret); exact k _ _ _ (by ktr_room) (by tb_rel)
  · ((with_reducible refine' yX ?zA ?zB ?zC ?zD ?zE ?zF ?zG ?_); (case zA => tb_rel); (case zB => tb_rel); (case zC => tb_rel); (case zD => tb_rel); (case zE => tb_rel); (case zF => tb_rel); (case zG => tb_rel); intros; (with_reducible refine' iN ?zA ?zB ?zC ?zD ?_); (case zA => tb_rel); (case zB => tb_rel); (case zC => tb_rel); (case zD => tb_rel); tbr_iter xIf0; tbr_iter wpAny_isTrue_BoolOp; tbr_iter wpAny_allTrue_Or_cons; (with_reducible refine' tN ?zA ?zB ?zC ?_); (case zA => tb_rel); (case zB => tb_rel); (case zC => tb_rel); ktn_call 1 ifF; tbr_iter wpAny_allTrue_Or_cons; (with_reducible refine' tN ?zA ?zB ?zC ?_); (case zA => tb_rel); (case zB => tb_rel); (case zC => tb_rel); ktn_call 1 ifF; tbr_iter wpAny_allTrue_Or_nil; ktn_call 1 ifF; (with_reducible refine' iN ?zA ?zB ?zC ?zD ?_); (case zA => tb_rel); (case zB => tb_rel); (case zC => tb_rel); (case zD => tb_rel); tbr_iter xReturn; tbr_iter wpAny_IfExp; (with_reducible refine' tN ?zA ?zB ?zC ?_); (case zA => tb_rel); (case zB => tb_rel); (case zC => tb_rel); ktn_call 1 ifF; tbr_iter Tuple_; tbr_iter args_nil; (with_reducible refine' newTupX ?zA ?zB ?zC ?_); (case zA => tb_rel); (case zB => tb_rel); (case zC => tb_rel); intros; tbr_iter back_ret); exact k _ _ _ (by ktr_room) (by tb_rel)
  · ((with_reducible refine' yX ?zA ?zB ?zC ?zD ?zE ?zF ?zG ?_); (case zA => tb_rel); (case zB => tb_rel); (case zC => tb_rel); (case zD => tb_rel); (case zE => tb_rel); (case zF => tb_rel); (case zG => tb_rel); intros; (with_reducible refine' iN ?zA ?zB ?zC ?zD ?_); (case zA => tb_rel); (case zB => tb_rel); (case zC => tb_rel); (case zD => tb_rel); tbr_iter xIf0; tbr_iter wpAny_isTrue_BoolOp; tbr_iter wpAny_allTrue_Or_cons; (with_reducible refine' tN ?zA ?zB ?zC ?_); (case zA => tb_rel); (case zB => tb_rel); (case zC => tb_rel); ktn_call 1 ifF; tbr_iter wpAny_allTrue_Or_cons; (with_reducible refine' tN ?zA ?zB ?zC ?_); (case zA => tb_rel); (case zB => tb_rel); (case zC => tb_rel); ktn_call 1 ifF; tbr_iter wpAny_allTrue_Or_nil; ktn_call 1 ifF; (with_reducible refine' iN ?zA ?zB ?zC ?zD ?_); (case zA => tb_rel); (case zB => tb_rel); (case zC => tb_rel); (case zD => tb_rel); tbr_iter xReturn; tbr_iter wpAny_IfExp; (with_reducible refine' tN ?zA ?zB ?zC ?_); (case zA => tb_rel); (case zB => tb_rel); (case zC => tb_rel); ktn_call 1 ifT; (with_reducible refine' eN ?zA ?zB ?zC ?zD ?zE ?zF ?_); (case zA => tb_rel); (case zB => tb_rel); (case zC => tb_rel); (case zD => tb_rel); (case zE => tb_rel); (case zF => tb_rel); ktn_call 95 eN; tbr_iter back_ret); exact k _ _ _ (by ktr_room) (by tb_rel)
  · ((with_reducible refine' yX ?zA ?zB ?zC ?zD ?zE ?zF ?zG ?_); (case zA => tb_rel); (case zB => tb_rel); (case zC => tb_rel); (case zD => tb_rel); (case zE => tb_rel); (case zF => tb_rel); (case zG => tb_rel); intros; (with_reducible refine' iN ?zA ?zB ?zC ?zD ?_); (case zA => tb_rel); (case zB => tb_rel); (case zC => tb_rel); (case zD => tb_rel); tbr_iter xIf0; tbr_iter wpAny_isTrue_BoolOp; tbr_iter wpAny_allTrue_Or_cons; (with_reducible refine' tN ?zA ?zB ?zC ?_); (case zA => tb_rel); (case zB => tb_rel); (case zC => tb_rel); ktn_call 1 ifF; tbr_iter wpAny_allTrue_Or_cons; (with_reducible refine' tN ?zA ?zB ?zC ?_); (case zA => tb_rel); (case zB => tb_rel); (case zC => tb_rel); ktn_call 1 ifF; tbr_iter wpAny_allTrue_Or_nil; ktn_call 1 ifF; (with_reducible refine' iN ?zA ?zB ?zC ?zD ?_); (case zA => tb_rel); (case zB => tb_rel); (case zC => tb_rel); (case zD => tb_rel); tbr_iter xReturn; tbr_iter wpAny_IfExp; (with_reducible refine' tN ?zA ?zB ?zC ?_); (case zA => tb_rel); (case zB => tb_rel); (case zC => tb_rel); ktn_call 1 ifT; (with_reducible refine' eN ?zA ?zB ?zC ?zD ?zE ?zF ?_); (case zA => tb_rel); (case zB => tb_rel); (case zC => tb_rel); (case zD => tb_rel); (case zE => tb_rel); (case zF => tb_rel); ktn_call 95 eN; tbr_iter back_ret); exact k _ _ _ (by ktr_room) (by tb_rel)
  · ((with_reducible refine' yX ?zA ?zB ?zC ?zD ?zE ?zF ?zG ?_); (case zA => tb_rel); (case zB => tb_rel); (case zC => tb_rel); (case zD => tb_rel); (case zE => tb_rel); (case zF => tb_rel); (case zG => tb_rel); intros; (with_reducible refine' iN ?zA ?zB ?zC ?zD ?_); (case zA => tb_rel); (case zB => tb_rel); (case zC => tb_rel); (case zD => tb_rel); tbr_iter xIf0; tbr_iter wpAny_isTrue_BoolOp; tbr_iter wpAny_allTrue_Or_cons; (with_reducible refine' tN ?zA ?zB ?zC ?_); (case zA => tb_rel); (case zB => tb_rel); (case zC => tb_rel); ktn_call 1 ifF; tbr_iter wpAny_allTrue_Or_cons; (with_reducible refine' tN ?zA ?zB ?zC ?_); (case zA => tb_rel); (case zB => tb_rel); (case zC => tb_rel); ktn_call 1 ifF; tbr_iter wpAny_allTrue_Or_nil; ktn_call 1 ifF; (with_reducible refine' iN ?zA ?zB ?zC ?zD ?_); (case zA => tb_rel); (case zB => tb_rel); (case zC => tb_rel); (case zD => tb_rel); tbr_iter xReturn; tbr_iter wpAny_IfExp; (with_reducible refine' tN ?zA ?zB ?zC ?_); (case zA => tb_rel); (case zB => tb_rel); (case zC => tb_rel); ktn_call 1 ifT; (with_reducible refine' eN ?zA ?zB ?zC ?zD ?zE ?zF ?_); (case zA => tb_rel); (case zB => tb_rel); (case zC => tb_rel); (case zD => tb_rel); (case zE => tb_rel); (case zF => tb_rel); ktn_call 95 eN; tbr_iter back_ret); exact k _ _ _ (by ktr_room) (by tb_rel)
end

section
variable {prog : Program} {w : World} {mg mb : Str → Option Value} {A : Around} {E : Value → Shared → Prop} {h : Heap} {g : Array GenState} {d : Drawn} {tk : Nat} {os : OsState}
theorem rebuilt_spec {v : Value} {t : Ty} {l : Addr} {vs : List Value} {ts : List Ty} {n : Nat} {Q : Value → Shared → Prop} (hA : Cx A (n + 1)) (G : Gd w mg mb h) (X : XT h v (enc t)) (hl : h.IsList l vs.toArray) (xs : XTs h vs (ts.map enc)) (hn : ts.length = (parts t).length)
    (k : ∀ r h' tk', Step w mg mb [] h h' → XT h' r (enc (rebuild t ts)) → Q r ⟨h', g, d, tk', os⟩) :
    wpAny (model prog w) A (call (.ref 35) [v, .ref l]) Q E ⟨h, g, d, tk, os⟩ := by
  refine' enter [] (fun _ q => nomatch q) (m := upd (upd nom (Str.ofString "told") v) (Str.ofString "parts") (.ref l)) (cm := nom) G hA ?k1 ?k2 ?k3 ?k4 ?k5 ?k6 ?k7 ?k8 ?k9 ?_
  case k1 => k_is
  case k2 => k_is
  case k3 => exact BindsTo.of_eq rfl
  case k4 => rfl
  case k5 => intro _; rfl
  case k6 => intro _; rfl
  case k7 => rfl
  case k8 => rfl
  case k9 => rfl
  intro L h₁ tk₁ E' st F CN hA' NL
  generalize A.deeper _ = A2 at hA' ⊢
  cases t
  case pair a b =>
    obtain ⟨p, q, rfl⟩ : ∃ p q, ts = [p, q] := by
      match ts, hn with
      | [p, q], _ => exact ⟨p, q, rfl⟩
    ((with_reducible refine' yX ?zA ?zB ?zC ?zD ?zE ?zF ?zG ?_); (case zA => tb_rel); (case zB => tb_rel); (case zC => tb_rel); (case zD => tb_rel); (case zE => tb_rel); (case zF => tb_rel); (case zG => tb_rel); intros; (with_reducible refine' iN ?zA ?zB ?zC ?zD ?_); (case zA => tb_rel); (case zB => tb_rel); (case zC => tb_rel); (case zD => tb_rel); (with_reducible refine' iN ?zA ?zB ?zC ?zD ?_); (case zA => tb_rel); (case zB => tb_rel); (case zC => tb_rel); (case zD => tb_rel); (with_reducible refine' iN ?zA ?zB ?zC ?zD ?_); (case zA => tb_rel); (case zB => tb_rel); (case zC => tb_rel); (case zD => tb_rel); tbr_iter xIf0; (with_reducible refine' tN ?zA ?zB ?zC ?_); (case zA => tb_rel); (case zB => tb_rel); (case zC => tb_rel); ktn_call 1 ifT; tbr_iter xReturn; tbr_iter Tuple_; tbr_iter aS; ktn_call 91 args_cons; ktn_call 91 Call_; (with_reducible refine' nameB_tuple ?zA ?zB ?zC ?zD ?zE ?zF ?_); (case zA => tb_rel); (case zB => tb_rel); (case zC => k_is); (case zD => tb_rel); (case zE => tb_rel); (case zF => tb_rel); ktn_call 2 callT; (with_reducible refine' aL1 ?zA ?zB ?zC ?_); (case zA => tb_rel); (case zB => tb_rel); (case zC => tb_rel); (with_reducible refine' tupleOfL ?zA ?zB ?zC ?zD ?_); (case zA => tb_rel); (case zB => tb_rel); (case zC => tb_rel); (case zD => tb_rel); intros; tbr_iter args_nil; (with_reducible refine' newTupX ?zA ?zB ?zC ?_); (case zA => tb_rel); (case zB => tb_rel); (case zC => tb_rel); intros; tbr_iter after_ret; tbr_iter back_ret)
    exact k _ _ _ (by ktr_room) (by tb_rel)
  case ref _ _ _ =>
    obtain ⟨p, rfl⟩ : ∃ p, ts = [p] := by
      match ts, hn with
      | [p], _ => exact ⟨p, rfl⟩
    ((with_reducible refine' yX ?zA ?zB ?zC ?zD ?zE ?zF ?zG ?_); (case zA => tb_rel); (case zB => tb_rel); (case zC => tb_rel); (case zD => tb_rel); (case zE => tb_rel); (case zF => tb_rel); (case zG => tb_rel); intros; tbr_iter xIf0; (with_reducible refine' tN ?zA ?zB ?zC ?_); (case zA => tb_rel); (case zB => tb_rel); (case zC => tb_rel); ktn_call 1 ifT; tbr_iter xReturn; tbr_iter Tuple_; tbr_iter aS; ktn_call 91 args_cons; (with_reducible refine' eN ?zA ?zB ?zC ?zD ?zE ?zF ?_); (case zA => tb_rel); (case zB => tb_rel); (case zC => tb_rel); (case zD => tb_rel); (case zE => tb_rel); (case zF => tb_rel); ktn_call 95 eN; ktn_call 91 args_cons; (with_reducible refine' eNb ?zA ?zB ?zC ?zD ?zE ?zF ?_); (case zA => tb_rel); (case zB => tb_rel); (case zC => tb_rel); (case zD => tb_rel); (case zE => tb_rel); (case zF => tb_rel); ktn_call 91 args_cons; tbr_iter Subscript_; (with_reducible refine' nL ?zA ?zB ?zC ?_); (case zA => tb_rel); (case zB => tb_rel); (case zC => tb_rel); tbr_iter cInt; (with_reducible refine' subLX ?zl ?zx ?zj ?z0 ?zh ?zs ?_); (case zl => tb_rel); (case zx => tb_rel); (case zj => rfl); (case z0 => decide); (case zh => decide); (case zs => with_unfolding_all rfl); ktn_call 95 rfl; tbr_iter args_nil; (with_reducible refine' newTupX ?zA ?zB ?zC ?_); (case zA => tb_rel); (case zB => tb_rel); (case zC => tb_rel); intros; tbr_iter after_ret; tbr_iter back_ret)
    exact k _ _ _ (by ktr_room) (by tb_rel)
  case box _ =>
    obtain ⟨p, rfl⟩ : ∃ p, ts = [p] := by
      match ts, hn with
      | [p], _ => exact ⟨p, rfl⟩
    ((with_reducible refine' yX ?zA ?zB ?zC ?zD ?zE ?zF ?zG ?_); (case zA => tb_rel); (case zB => tb_rel); (case zC => tb_rel); (case zD => tb_rel); (case zE => tb_rel); (case zF => tb_rel); (case zG => tb_rel); intros; (with_reducible refine' iN ?zA ?zB ?zC ?zD ?_); (case zA => tb_rel); (case zB => tb_rel); (case zC => tb_rel); (case zD => tb_rel); tbr_iter xIf0; (with_reducible refine' tN ?zA ?zB ?zC ?_); (case zA => tb_rel); (case zB => tb_rel); (case zC => tb_rel); ktn_call 1 ifT; tbr_iter xReturn; tbr_iter Tuple_; tbr_iter aS; ktn_call 91 args_cons; tbr_iter Subscript_; (with_reducible refine' nL ?zA ?zB ?zC ?_); (case zA => tb_rel); (case zB => tb_rel); (case zC => tb_rel); tbr_iter cInt; (with_reducible refine' subLX ?zl ?zx ?zj ?z0 ?zh ?zs ?_); (case zl => tb_rel); (case zx => tb_rel); (case zj => rfl); (case z0 => decide); (case zh => decide); (case zs => with_unfolding_all rfl); ktn_call 95 rfl; tbr_iter args_nil; (with_reducible refine' newTupX ?zA ?zB ?zC ?_); (case zA => tb_rel); (case zB => tb_rel); (case zC => tb_rel); intros; tbr_iter after_ret; tbr_iter back_ret)
    exact k _ _ _ (by ktr_room) (by tb_rel)
  case arr _ =>
    obtain ⟨p, rfl⟩ : ∃ p, ts = [p] := by
      match ts, hn with
      | [p], _ => exact ⟨p, rfl⟩
    ((with_reducible refine' yX ?zA ?zB ?zC ?zD ?zE ?zF ?zG ?_); (case zA => tb_rel); (case zB => tb_rel); (case zC => tb_rel); (case zD => tb_rel); (case zE => tb_rel); (case zF => tb_rel); (case zG => tb_rel); intros; (with_reducible refine' iN ?zA ?zB ?zC ?zD ?_); (case zA => tb_rel); (case zB => tb_rel); (case zC => tb_rel); (case zD => tb_rel); (with_reducible refine' iN ?zA ?zB ?zC ?zD ?_); (case zA => tb_rel); (case zB => tb_rel); (case zC => tb_rel); (case zD => tb_rel); tbr_iter xIf0; (with_reducible refine' tN ?zA ?zB ?zC ?_); (case zA => tb_rel); (case zB => tb_rel); (case zC => tb_rel); ktn_call 1 ifT; tbr_iter xReturn; tbr_iter Tuple_; tbr_iter aS; ktn_call 91 args_cons; tbr_iter Subscript_; (with_reducible refine' nL ?zA ?zB ?zC ?_); (case zA => tb_rel); (case zB => tb_rel); (case zC => tb_rel); tbr_iter cInt; (with_reducible refine' subLX ?zl ?zx ?zj ?z0 ?zh ?zs ?_); (case zl => tb_rel); (case zx => tb_rel); (case zj => rfl); (case z0 => decide); (case zh => decide); (case zs => with_unfolding_all rfl); ktn_call 95 rfl; ktn_call 91 args_cons; (with_reducible refine' eN ?zA ?zB ?zC ?zD ?zE ?zF ?_); (case zA => tb_rel); (case zB => tb_rel); (case zC => tb_rel); (case zD => tb_rel); (case zE => tb_rel); (case zF => tb_rel); ktn_call 95 eN; tbr_iter args_nil; (with_reducible refine' newTupX ?zA ?zB ?zC ?_); (case zA => tb_rel); (case zB => tb_rel); (case zC => tb_rel); intros; tbr_iter after_ret; tbr_iter back_ret)
    exact k _ _ _ (by ktr_room) (by tb_rel)
  case E _ =>
    obtain ⟨p, rfl⟩ : ∃ p, ts = [p] := by
      match ts, hn with
      | [p], _ => exact ⟨p, rfl⟩
    ((with_reducible refine' yX ?zA ?zB ?zC ?zD ?zE ?zF ?zG ?_); (case zA => tb_rel); (case zB => tb_rel); (case zC => tb_rel); (case zD => tb_rel); (case zE => tb_rel); (case zF => tb_rel); (case zG => tb_rel); intros; (with_reducible refine' iN ?zA ?zB ?zC ?zD ?_); (case zA => tb_rel); (case zB => tb_rel); (case zC => tb_rel); (case zD => tb_rel); (with_reducible refine' iN ?zA ?zB ?zC ?zD ?_); (case zA => tb_rel); (case zB => tb_rel); (case zC => tb_rel); (case zD => tb_rel); (with_reducible refine' iN ?zA ?zB ?zC ?zD ?_); (case zA => tb_rel); (case zB => tb_rel); (case zC => tb_rel); (case zD => tb_rel); (with_reducible refine' iN ?zA ?zB ?zC ?zD ?_); (case zA => tb_rel); (case zB => tb_rel); (case zC => tb_rel); (case zD => tb_rel); tbr_iter xReturn; tbr_iter wpAny_IfExp; (with_reducible refine' tN ?zA ?zB ?zC ?_); (case zA => tb_rel); (case zB => tb_rel); (case zC => tb_rel); ktn_call 1 ifT; tbr_iter Tuple_; tbr_iter aS; ktn_call 91 args_cons; (with_reducible refine' eNs ?zA ?zB ?zC ?zD ?zE ?zF ?_); (case zA => tb_rel); (case zB => tb_rel); (case zC => tb_rel); (case zD => tb_rel); (case zE => tb_rel); (case zF => tb_rel); intros; ktn_call 91 args_cons; (with_reducible refine' eN ?zA ?zB ?zC ?zD ?zE ?zF ?_); (case zA => tb_rel); (case zB => tb_rel); (case zC => tb_rel); (case zD => tb_rel); (case zE => tb_rel); (case zF => tb_rel); ktn_call 95 eN; ktn_call 91 args_cons; ktn_call 91 Call_; (with_reducible refine' nameB_tuple ?zA ?zB ?zC ?zD ?zE ?zF ?_); (case zA => tb_rel); (case zB => tb_rel); (case zC => k_is); (case zD => tb_rel); (case zE => tb_rel); (case zF => tb_rel); ktn_call 2 callT; (with_reducible refine' aL1 ?zA ?zB ?zC ?_); (case zA => tb_rel); (case zB => tb_rel); (case zC => tb_rel); (with_reducible refine' tupleOfL ?zA ?zB ?zC ?zD ?_); (case zA => tb_rel); (case zB => tb_rel); (case zC => tb_rel); (case zD => tb_rel); intros; tbr_iter args_nil; (with_reducible refine' newTupX ?zA ?zB ?zC ?_); (case zA => tb_rel); (case zB => tb_rel); (case zC => tb_rel); intros; tbr_iter back_ret)
    exact k _ _ _ (by ktr_room) (by tb_rel)
  all_goals (obtain rfl : ts = [] := List.eq_nil_of_length_eq_zero hn)
  · ((with_reducible refine' yX ?zA ?zB ?zC ?zD ?zE ?zF ?zG ?_); (case zA => tb_rel); (case zB => tb_rel); (case zC => tb_rel); (case zD => tb_rel); (case zE => tb_rel); (case zF => tb_rel); (case zG => tb_rel); intros; (with_reducible refine' iN ?zA ?zB ?zC ?zD ?_); (case zA => tb_rel); (case zB => tb_rel); (case zC => tb_rel); (case zD => tb_rel); (with_reducible refine' iN ?zA ?zB ?zC ?zD ?_); (case zA => tb_rel); (case zB => tb_rel); (case zC => tb_rel); (case zD => tb_rel); (with_reducible refine' iN ?zA ?zB ?zC ?zD ?_); (case zA => tb_rel); (case zB => tb_rel); (case zC => tb_rel); (case zD => tb_rel); (with_reducible refine' iN ?zA ?zB ?zC ?zD ?_); (case zA => tb_rel); (case zB => tb_rel); (case zC => tb_rel); (case zD => tb_rel); tbr_iter xReturn; tbr_iter wpAny_IfExp; (with_reducible refine' tN ?zA ?zB ?zC ?_); (case zA => tb_rel); (case zB => tb_rel); (case zC => tb_rel); ktn_call 1 ifF; (with_reducible refine' nL ?zA ?zB ?zC ?_); (case zA => tb_rel); (case zB => tb_rel); (case zC => tb_rel); tbr_iter back_ret); exact k _ _ _ (by ktr_room) (by tb_rel)
  · ((with_reducible refine' yX ?zA ?zB ?zC ?zD ?zE ?zF ?zG ?_); (case zA => tb_rel); (case zB => tb_rel); (case zC => tb_rel); (case zD => tb_rel); (case zE => tb_rel); (case zF => tb_rel); (case zG => tb_rel); intros; (with_reducible refine' iN ?zA ?zB ?zC ?zD ?_); (case zA => tb_rel); (case zB => tb_rel); (case zC => tb_rel); (case zD => tb_rel); (with_reducible refine' iN ?zA ?zB ?zC ?zD ?_); (case zA => tb_rel); (case zB => tb_rel); (case zC => tb_rel); (case zD => tb_rel); (with_reducible refine' iN ?zA ?zB ?zC ?zD ?_); (case zA => tb_rel); (case zB => tb_rel); (case zC => tb_rel); (case zD => tb_rel); (with_reducible refine' iN ?zA ?zB ?zC ?zD ?_); (case zA => tb_rel); (case zB => tb_rel); (case zC => tb_rel); (case zD => tb_rel); tbr_iter xReturn; tbr_iter wpAny_IfExp; (with_reducible refine' tN ?zA ?zB ?zC ?_); (case zA => tb_rel); (case zB => tb_rel); (case zC => tb_rel); ktn_call 1 ifF; (with_reducible refine' nL ?zA ?zB ?zC ?_); (case zA => tb_rel); (case zB => tb_rel); (case zC => tb_rel); tbr_iter back_ret); exact k _ _ _ (by ktr_room) (by tb_rel)
  · ((with_reducible refine' yX ?zA ?zB ?zC ?zD ?zE ?zF ?zG ?_); (case zA => tb_rel); (case zB => tb_rel); (case zC => tb_rel); (case zD => tb_rel); (case zE => tb_rel); (case zF => tb_rel); (case zG => tb_rel); intros; (with_reducible refine' iN ?zA ?zB ?zC ?zD ?_); (case zA => tb_rel); (case zB => tb_rel); (case zC => tb_rel); (case zD => tb_rel); (with_reducible refine' iN ?zA ?zB ?zC ?zD ?_); (case zA => tb_rel); (case zB => tb_rel); (case zC => tb_rel); (case zD => tb_rel); (with_reducible refine' iN ?zA ?zB ?zC ?zD ?_); (case zA => tb_rel); (case zB => tb_rel); (case zC => tb_rel); (case zD => tb_rel); (with_reducible refine' iN ?zA ?zB ?zC ?zD ?_); (case zA => tb_rel); (case zB => tb_rel); (case zC => tb_rel); (case zD => tb_rel); tbr_iter xReturn; tbr_iter wpAny_IfExp; (with_reducible refine' tN ?zA ?zB ?zC ?_); (case zA => tb_rel); (case zB => tb_rel); (case zC => tb_rel); ktn_call 1 ifF; (with_reducible refine' nL ?zA ?zB ?zC ?_); (case zA => tb_rel); (case zB => tb_rel); (case zC => tb_rel); tbr_iter back_ret); exact k _ _ _ (by ktr_room) (by tb_rel)
  · ((with_reducible refine' yX ?zA ?zB ?zC ?zD ?zE ?zF ?zG ?_); (case zA => tb_rel); (case zB => tb_rel); (case zC => tb_rel); (case zD => tb_rel); (case zE => tb_rel); (case zF => tb_rel); (case zG => tb_rel); intros; (with_reducible refine' iN ?zA ?zB ?zC ?zD ?_); (case zA => tb_rel); (case zB => tb_rel); (case zC => tb_rel); (case zD => tb_rel); (with_reducible refine' iN ?zA ?zB ?zC ?zD ?_); (case zA => tb_rel); (case zB => tb_rel); (case zC => tb_rel); (case zD => tb_rel); (with_reducible refine' iN ?zA ?zB ?zC ?zD ?_); (case zA => tb_rel); (case zB => tb_rel); (case zC => tb_rel); (case zD => tb_rel); tbr_iter xIf0; (with_reducible refine' tN ?zA ?zB ?zC ?_); (case zA => tb_rel); (case zB => tb_rel); (case zC => tb_rel); ktn_call 1 ifT; tbr_iter xReturn; tbr_iter Tuple_; tbr_iter aS; ktn_call 91 args_cons; ktn_call 91 Call_; (with_reducible refine' nameB_tuple ?zA ?zB ?zC ?zD ?zE ?zF ?_); (case zA => tb_rel); (case zB => tb_rel); (case zC => k_is); (case zD => tb_rel); (case zE => tb_rel); (case zF => tb_rel); ktn_call 2 callT; (with_reducible refine' aL1 ?zA ?zB ?zC ?_); (case zA => tb_rel); (case zB => tb_rel); (case zC => tb_rel); (with_reducible refine' tupleOfL ?zA ?zB ?zC ?zD ?_); (case zA => tb_rel); (case zB => tb_rel); (case zC => tb_rel); (case zD => tb_rel); intros; tbr_iter args_nil; (with_reducible refine' newTupX ?zA ?zB ?zC ?_); (case zA => tb_rel); (case zB => tb_rel); (case zC => tb_rel); intros; tbr_iter after_ret; tbr_iter back_ret); exact k _ _ _ (by ktr_room) (by tb_rel)
  · ((with_reducible refine' yX ?zA ?zB ?zC ?zD ?zE ?zF ?zG ?_); (case zA => tb_rel); (case zB => tb_rel); (case zC => tb_rel); (case zD => tb_rel); (case zE => tb_rel); (case zF => tb_rel); (case zG => tb_rel); intros; (with_reducible refine' iN ?zA ?zB ?zC ?zD ?_); (case zA => tb_rel); (case zB => tb_rel); (case zC => tb_rel); (case zD => tb_rel); (with_reducible refine' iN ?zA ?zB ?zC ?zD ?_); (case zA => tb_rel); (case zB => tb_rel); (case zC => tb_rel); (case zD => tb_rel); (with_reducible refine' iN ?zA ?zB ?zC ?zD ?_); (case zA => tb_rel); (case zB => tb_rel); (case zC => tb_rel); (case zD => tb_rel); (with_reducible refine' iN ?zA ?zB ?zC ?zD ?_); (case zA => tb_rel); (case zB => tb_rel); (case zC => tb_rel); (case zD => tb_rel); tbr_iter xReturn; tbr_iter wpAny_IfExp; (with_reducible refine' tN ?zA ?zB ?zC ?_); (case zA => tb_rel); (case zB => tb_rel); (case zC => tb_rel); ktn_call 1 ifF; (with_reducible refine' nL ?zA ?zB ?zC ?_); (case zA => tb_rel); (case zB => tb_rel); (case zC => tb_rel); tbr_iter back_ret); exact k _ _ _ (by ktr_room) (by tb_rel)
  · ((with_reducible refine' yX ?zA ?zB ?zC ?zD ?zE ?zF ?zG ?_); (case zA => tb_rel); (case zB => tb_rel); (case zC => tb_rel); (case zD => tb_rel); (case zE => tb_rel); (case zF => tb_rel); (case zG => tb_rel); intros; (with_reducible refine' iN ?zA ?zB ?zC ?zD ?_); (case zA => tb_rel); (case zB => tb_rel); (case zC => tb_rel); (case zD => tb_rel); (with_reducible refine' iN ?zA ?zB ?zC ?zD ?_); (case zA => tb_rel); (case zB => tb_rel); (case zC => tb_rel); (case zD => tb_rel); (with_reducible refine' iN ?zA ?zB ?zC ?zD ?_); (case zA => tb_rel); (case zB => tb_rel); (case zC => tb_rel); (case zD => tb_rel); (with_reducible refine' iN ?zA ?zB ?zC ?zD ?_); (case zA => tb_rel); (case zB => tb_rel); (case zC => tb_rel); (case zD => tb_rel); tbr_iter xReturn; tbr_iter wpAny_IfExp; (with_reducible refine' tN ?zA ?zB ?zC ?_); (case zA => tb_rel); (case zB => tb_rel); (case zC => tb_rel); ktn_call 1 ifT; tbr_iter Tuple_; tbr_iter aS; ktn_call 91 args_cons; (with_reducible refine' eNs ?zA ?zB ?zC ?zD ?zE ?zF ?_); (case zA => tb_rel); (case zB => tb_rel); (case zC => tb_rel); (case zD => tb_rel); (case zE => tb_rel); (case zF => tb_rel); intros; ktn_call 91 args_cons; (with_reducible refine' eN ?zA ?zB ?zC ?zD ?zE ?zF ?_); (case zA => tb_rel); (case zB => tb_rel); (case zC => tb_rel); (case zD => tb_rel); (case zE => tb_rel); (case zF => tb_rel); ktn_call 95 eN; ktn_call 91 args_cons; ktn_call 91 Call_; (with_reducible refine' nameB_tuple ?zA ?zB ?zC ?zD ?zE ?zF ?_); (case zA => tb_rel); (case zB => tb_rel); (case zC => k_is); (case zD => tb_rel); (case zE => tb_rel); (case zF => tb_rel); ktn_call 2 callT; (with_reducible refine' aL1 ?zA ?zB ?zC ?_); (case zA => tb_rel); (case zB => tb_rel); (case zC => tb_rel); (with_reducible refine' tupleOfL ?zA ?zB ?zC ?zD ?_); (case zA => tb_rel); (case zB => tb_rel); (case zC => tb_rel); (case zD => tb_rel); intros; tbr_iter args_nil; (with_reducible refine' newTupX ?zA ?zB ?zC ?_); (case zA => tb_rel); (case zB => tb_rel); (case zC => tb_rel); intros; tbr_iter back_ret); exact k _ _ _ (by ktr_room) (by tb_rel)
  · ((with_reducible refine' yX ?zA ?zB ?zC ?zD ?zE ?zF ?zG ?_); (case zA => tb_rel); (case zB => tb_rel); (case zC => tb_rel); (case zD => tb_rel); (case zE => tb_rel); (case zF => tb_rel); (case zG => tb_rel); intros; (with_reducible refine' iN ?zA ?zB ?zC ?zD ?_); (case zA => tb_rel); (case zB => tb_rel); (case zC => tb_rel); (case zD => tb_rel); (with_reducible refine' iN ?zA ?zB ?zC ?zD ?_); (case zA => tb_rel); (case zB => tb_rel); (case zC => tb_rel); (case zD => tb_rel); (with_reducible refine' iN ?zA ?zB ?zC ?zD ?_); (case zA => tb_rel); (case zB => tb_rel); (case zC => tb_rel); (case zD => tb_rel); (with_reducible refine' iN ?zA ?zB ?zC ?zD ?_); (case zA => tb_rel); (case zB => tb_rel); (case zC => tb_rel); (case zD => tb_rel); tbr_iter xReturn; tbr_iter wpAny_IfExp; (with_reducible refine' tN ?zA ?zB ?zC ?_); (case zA => tb_rel); (case zB => tb_rel); (case zC => tb_rel); ktn_call 1 ifT; tbr_iter Tuple_; tbr_iter aS; ktn_call 91 args_cons; (with_reducible refine' eNs ?zA ?zB ?zC ?zD ?zE ?zF ?_); (case zA => tb_rel); (case zB => tb_rel); (case zC => tb_rel); (case zD => tb_rel); (case zE => tb_rel); (case zF => tb_rel); intros; ktn_call 91 args_cons; (with_reducible refine' eN ?zA ?zB ?zC ?zD ?zE ?zF ?_); (case zA => tb_rel); (case zB => tb_rel); (case zC => tb_rel); (case zD => tb_rel); (case zE => tb_rel); (case zF => tb_rel); ktn_call 95 eN; ktn_call 91 args_cons; ktn_call 91 Call_; (with_reducible refine' nameB_tuple ?zA ?zB ?zC ?zD ?zE ?zF ?_); (case zA => tb_rel); (case zB => tb_rel); (case zC => k_is); (case zD => tb_rel); (case zE => tb_rel); (case zF => tb_rel); ktn_call 2 callT; (with_reducible refine' aL1 ?zA ?zB ?zC ?_); (case zA => tb_rel); (case zB => tb_rel); (case zC => tb_rel); (with_reducible refine' tupleOfL ?zA ?zB ?zC ?zD ?_); (case zA => tb_rel); (case zB => tb_rel); (case zC => tb_rel); (case zD => tb_rel); intros; tbr_iter args_nil; (with_reducible refine' newTupX ?zA ?zB ?zC ?_); (case zA => tb_rel); (case zB => tb_rel); (case zC => tb_rel); intros; tbr_iter back_ret); exact k _ _ _ (by ktr_room) (by tb_rel)
end

section
variable {prog : Program} {w : World} {mg mb : Str → Option Value}
theorem substituted_spec : ∀ (N : Nat) {A : Around} {E : Value → Shared → Prop} {h : Heap} {g : Array GenState} {d : Drawn} {tk : Nat} {os : OsState} {v : Value} {td : Addr} {ou : Option Ty} {t : Ty} {Q : Value → Shared → Prop}, t.dep ≤ N → Cx A (N + 2) → Gd w mg mb h →
    XT h v (enc t) → TabX prog w h td ou → (∀ r h' tk', Step w mg mb [] h h' → XT h' r (enc (sub ou t)) → Q r ⟨h', g, d, tk', os⟩) →
    wpAny (model prog w) A (call (.ref 40) [v, .ref td]) Q E ⟨h, g, d, tk, os⟩ := by
  intro N
  induction N using Nat.strongRecOn with
  | ind N ih =>
  intro A E h g d tk os v td ou t Q hN hA G X T k
  refine' enter [] (fun _ q => nomatch q) (m := upd nom (Str.ofString "told") v) (cm := upd nom (Str.ofString "table") (.ref td)) G hA ?k1 ?k2 ?k3 ?k4 ?k5 ?k6 ?k7 ?k8 ?k9 ?_
  case k1 => k_is
  case k2 => k_is
  case k3 => exact BindsTo.of_eq rfl
  case k4 => rfl
  case k5 => intro _; rfl
  case k6 => intro _; rfl
  case k7 => rfl
  case k8 => rfl
  case k9 => rfl
  intro L h₁ tk₁ E' st F CN hA' NL
  generalize A.deeper _ = A2 at hA' ⊢
  by_cases hp : ∃ p, t = .prm p
  · refine hideG fun gP kP => ?_; obtain ⟨p, rfl⟩ := hp; refine kP ?_; clear kP gP
    (tbr_iter xIf0; (with_reducible refine' tX ?zA ?zB ?zC ?zD ?zE ?zF ?_); (case zA => tb_rel); (case zB => tb_rel); (case zC => tb_rel); (case zD => tb_rel); (case zE => tb_rel); (case zF => tb_rel); ktn_call 1 ifT; tbr_iter xReturn; (with_reducible refine' mGet2 ?zA ?zB ?zC ?_); (case zA => tb_rel); (case zB => tb_rel); (case zC => tb_rel); (with_reducible refine' nameC ?zA ?zB ?zC ?zD ?zE ?zF ?_); (case zA => tb_rel); (case zB => tb_rel); (case zC => tb_rel); (case zD => tb_rel); (case zE => tb_rel); (case zF => tb_rel))
    refine hideG fun gP kP => ?_; obtain ⟨kvs, D, h1, q⟩ := T; refine kP ?_; clear kP gP
    refine ⟨td, kvs, rfl, h1, D.ofE F (by simp), ?_⟩
    ((with_reducible refine' eNs ?zA ?zB ?zC ?zD ?zE ?zF ?_); (case zA => tb_rel); (case zB => tb_rel); (case zC => tb_rel); (case zD => tb_rel); (case zE => tb_rel); (case zF => tb_rel); intros; (with_reducible refine' nL ?zA ?zB ?zC ?_); (case zA => tb_rel); (case zB => tb_rel); (case zC => tb_rel))
    refine ⟨_, _, _, _, rfl, rfl, D.ofE F (by simp), ?_⟩
    (tbr_iter after_ret; tbr_iter back_ret)
    refine k _ _ _ (by ktr_room) ?_
    cases ou with
    | none =>
      subst q
      cases p <;> exact X.up F.st
    | some u =>
      refine hideG fun gP kP => ?_; obtain ⟨y, rfl, xy⟩ := q; refine kP ?_; clear kP gP
      cases p
      · exact X.up F.st
      · exact X.up F.st
      · exact xy.up F.st
  · have hp' : ∀ p, t ≠ .prm p := fun p q => hp ⟨p, q⟩
    have X' : XT h v (.tuple (.str t.kind :: t.rest)) := enc_eq t ▸ X
    (tbr_iter xIf0; (with_reducible refine' tX ?zA ?zB ?zC ?zD ?zE ?zF ?_); (case zA => tb_rel); (case zB => tb_rel); (case zC => tb_rel); (case zD => tb_rel); (case zE => tb_rel); (case zF => tb_rel))
    refine ifF (kind_param hp') ?_
    (tbr_iter xReturn; ktn_call 91 Call_; (with_reducible refine' nameG ?zA ?zB ?zC ?zD ?zE ?zF ?_); (case zA => tb_rel); (case zB => tb_rel); (case zC => k_is); (case zD => tb_rel); (case zE => tb_rel); (case zF => tb_rel); (with_reducible refine' callF ?zA ?zB ?zC ?zD ?_); (case zA => tb_rel); (case zB => k_is); (case zC => tb_rel); (case zD => tb_rel); (with_reducible refine' aL ?zA ?zB ?zC ?_); (case zA => tb_rel); (case zB => tb_rel); (case zC => tb_rel); ktn_call 91 args_cons)
    refine' compT_map F ((parts t).map fun p => enc (sub ou p)) hA' ?c1 ?c2 ?c3 ?c4 ?c5 ?c6 ?c7 ?_
    (case c1 => rfl); (case c2 => rfl); (case c3 => decide); (case c4 => exact fun _ => rfl); (case c5 => decide); (case c6 => rfl); (case c7 => tb_rel)
    (ktn_call 91 Call_; (with_reducible refine' nameG ?zA ?zB ?zC ?zD ?zE ?zF ?_); (case zA => tb_rel); (case zB => tb_rel); (case zC => k_is); (case zD => tb_rel); (case zE => tb_rel); (case zF => tb_rel); (with_reducible refine' callF ?zA ?zB ?zC ?zD ?_); (case zA => tb_rel); (case zB => k_is); (case zC => tb_rel); (case zD => tb_rel); (with_reducible refine' aL1 ?zA ?zB ?zC ?_); (case zA => tb_rel); (case zB => tb_rel); (case zC => tb_rel); (with_reducible refine' And.intro (Fm.G ?zF) ?_; (case zF => assumption)); (with_reducible refine' parts_of_spec (n := 0) ?zA ?zG ?zX ?_); (case zA => exact Cx.le (by assumption) (by omega)); (case zG => exact Fm.G (by assumption)); (case zX => tb_rel); ktn_call 96 rfl)
    rename_i r h₂ tk₂ s₂ x₂ F₂
    refine ⟨h₂, tk₂, (parts t).map enc, rfl, F₂, x₂, by simp, by rw [List.length_map]; cases t <;> exact Nat.le_of_ble_eq_true rfl, ?_, ?_⟩
    · intro i y di ei C m' hS h₃ tk₃ E3 hdi hei xy s₃ F₃
      obtain ⟨p, hp1, rfl⟩ : ∃ p, (parts t)[i]? = some p ∧ enc p = di := by simpa using hdi
      obtain ⟨p', hp2, rfl⟩ : ∃ p', (parts t)[i]? = some p' ∧ enc (sub ou p') = ei := by simpa using hei
      rw [hp1] at hp2
      cases hp2
      have hdp : p.dep < t.dep := dep_parts (List.mem_of_getElem? hp1)
      (ktn_call 91 Call_; (with_reducible refine' nameG ?zA ?zB ?zC ?zD ?zE ?zF ?_); (case zA => tb_rel); (case zB => tb_rel); (case zC => k_is); (case zD => tb_rel); (case zE => tb_rel); (case zF => tb_rel); (with_reducible refine' callF ?zA ?zB ?zC ?zD ?_); (case zA => tb_rel); (case zB => k_is); (case zC => tb_rel); (case zD => tb_rel); (with_reducible refine' aL ?zA ?zB ?zC ?_); (case zA => tb_rel); (case zB => tb_rel); (case zC => tb_rel); ktn_call 91 args_cons; (with_reducible refine' nameC ?zA ?zB ?zC ?zD ?zE ?zF ?_); (case zA => tb_rel); (case zB => tb_rel); (case zC => tb_rel); (case zD => tb_rel); (case zE => tb_rel); (case zF => tb_rel); tbr_iter args_nil; (with_reducible refine' And.intro (Fm.G ?zF) ?_; (case zF => assumption)))
      refine ih p.dep (by omega) (Nat.le_refl _) (hA'.le (by omega)) F₃.G (by tb_rel) ((T.up G (F₂.st.trans s₃) (by simp))) fun r h' tk' st' xr => ⟨h', tk', _, rfl, F₃.up st', xr⟩
    · intro D vs h' tk' st' F' hl xs
      have xs' : XTs h' vs (((parts t).map (sub ou)).map enc) := by rw [List.map_map]; exact xs
      (tbr_iter args_nil; (with_reducible refine' And.intro (Fm.G ?zF) ?_; (case zF => assumption)); (with_reducible refine' rebuilt_spec (n := 0) ?zA ?zG ?zX ?zl ?zx ?zn ?_); (case zA => exact Cx.le (by assumption) (by omega)); (case zG => exact Fm.G (by assumption)); (case zX => tb_rel); (case zl => tb_rel); (case zx => tb_rel); (case zn => first | assumption | simp); ktn_call 96 rfl; tbr_iter back_ret)
      refine k _ _ _ (by ktr_room) ?_
      rw [← rebuild_sub ou t hp']
      tb_rel
end

def ChgOk (prog : Program) (w : World) (mg mb : Str → Option Value) (c : Bool) (f : Addr) (h : Heap) : Prop :=
  FnAt f h ∧ ∀ {A : Around} {E : Value → Shared → Prop} {h' : Heap} {g : Array GenState} {d : Drawn} {tk : Nat} {os : OsState} {v : Value} {r : Bool} {Q : Value → Shared → Prop}, Step w mg mb [] h h' → Cx A 1 → Gd w mg mb h' → (c || r) = true → XT h' v (reg r) →
    (∀ y h'' tk', Step w mg mb [] h' h'' → XT h'' y (reg (!c && r)) → Q y ⟨h'', g, d, tk', os⟩) → wpAny (model prog w) A (call (.ref f) [v]) Q E ⟨h', g, d, tk, os⟩
theorem ChgOk.up {prog : Program} {w : World} {mg mb : Str → Option Value} {c : Bool} {f : Addr} {h h' : Heap} (G : Gd w mg mb h) (st : Step w mg mb [] h h') (x : ChgOk prog w mg mb c f h) : ChgOk prog w mg mb c f h' :=
  ⟨FnAt.up G st x.1 (by simp), fun s => x.2 (st.trans s)⟩
section
variable {prog : Program} {w : World} {mg mb : Str → Option Value}
theorem no_region_spec {A : Around} {E : Value → Shared → Prop} {h : Heap} {g : Array GenState} {d : Drawn} {tk : Nat} {os : OsState} {v : Value} {n : Nat} {Q : Value → Shared → Prop} (hA : Cx A (n + 1)) (G : Gd w mg mb h)
    (k : ∀ h' tk', Step w mg mb [] h h' → Q .none ⟨h', g, d, tk', os⟩) : wpAny (model prog w) A (call (.ref 52) [v]) Q E ⟨h, g, d, tk, os⟩ := by
  refine' enter [] (fun _ q => nomatch q) (m := upd nom (Str.ofString "region") v) (cm := nom) G hA ?k1 ?k2 ?k3 ?k4 ?k5 ?k6 ?k7 ?k8 ?k9 ?_
  case k1 => k_is
  case k2 => k_is
  case k3 => exact BindsTo.of_eq rfl
  case k4 => rfl
  case k5 => intro _; rfl
  case k6 => intro _; rfl
  case k7 => rfl
  case k8 => rfl
  case k9 => rfl
  intro L h₁ tk₁ E' st F CN hA' NL
  generalize A.deeper _ = A2 at hA' ⊢
  (tbr_iter xReturn; tbr_iter cNone; tbr_iter back_ret)
  exact k _ _ (by ktr_room)
theorem no_region_chg {h : Heap} (G : Gd w mg mb h) : ChgOk prog w mg mb true 52 h := by
  refine ⟨?_, fun s hA G' _ X k => no_region_spec (n := 0) hA G' fun h' tk' st => k _ _ _ st .none⟩
  have e : ∃ o, (hd.heap_1 w.params).lookup 52 = some o ∧ ∃ fd, o.data = .func fd := ⟨_, rfl, _, rfl⟩
  refine hideG fun gP kP => ?_; obtain ⟨⟨oc, od, dt, sl⟩, e, fd, q⟩ := e; refine kP ?_; clear kP gP
  cases q
  exact ⟨_, _, _, _, G.X _ _ e⟩
theorem with_regions_spec : ∀ (N : Nat) {A : Around} {E : Value → Shared → Prop} {h : Heap} {g : Array GenState} {d : Drawn} {tk : Nat} {os : OsState} {v : Value} {c : Bool} {f : Addr} {t : Ty} {Q : Value → Shared → Prop}, t.dep ≤ N → Cx A (N + 2) → Gd w mg mb h →
    XT h v (enc t) → regs c t = true → ChgOk prog w mg mb c f h → (∀ r h' tk', Step w mg mb [] h h' → XT h' r (enc (wreg c t)) → Q r ⟨h', g, d, tk', os⟩) →
    wpAny (model prog w) A (call (.ref 45) [v, .ref f]) Q E ⟨h, g, d, tk, os⟩ := by
  intro N
  induction N using Nat.strongRecOn with
  | ind N ih =>
  intro A E h g d tk os v c f t Q hN hA G X hr C k
  refine' enter [] (fun _ q => nomatch q) (m := upd nom (Str.ofString "told") v) (cm := upd nom (Str.ofString "change") (.ref f)) G hA ?k1 ?k2 ?k3 ?k4 ?k5 ?k6 ?k7 ?k8 ?k9 ?_
  case k1 => k_is
  case k2 => k_is
  case k3 => exact BindsTo.of_eq rfl
  case k4 => rfl
  case k5 => intro _; rfl
  case k6 => intro _; rfl
  case k7 => rfl
  case k8 => rfl
  case k9 => rfl
  intro L h₁ tk₁ E' st F CN hA' NL
  generalize A.deeper _ = A2 at hA' ⊢
  have C1 := C.1
  have cls : (∃ r m t1, t = .ref r m t1) ∨ t = .S ∨ t = .L ∨ (∃ t1, t = .E t1) ∨ (whd c t = t ∧ (t.kind == Str.ofString "ref") = false ∧ (t.kind == Str.ofString "adt") = false) := by
    cases t <;> simp [whd, Ty.kind]
    all_goals decide
  have X' : XT h v (.tuple (.str t.kind :: t.rest)) := enc_eq t ▸ X
  rcases cls with ⟨r, m, t1, e⟩ | e | e | ⟨t1, e⟩ | ⟨e, e1, e2⟩
  · have x : enc (whd c t) = .tuple [.str (Str.ofString "ref"), reg (!c && r), .bool m, enc t1] := by rw [e]; rfl
    rw [e] at X
    (tbr_iter xIf; (with_reducible refine' tX ?zA ?zB ?zC ?zD ?zE ?zF ?_); (case zA => tb_rel); (case zB => tb_rel); (case zC => tb_rel); (case zD => tb_rel); (case zE => tb_rel); (case zF => tb_rel); ktn_call 1 ifT; ktn_call 1 xAssign; tbr_iter Tuple_; tbr_iter aS; ktn_call 91 args_cons; ktn_call 91 Call_; (with_reducible refine' nameC ?zA ?zB ?zC ?zD ?zE ?zF ?_); (case zA => tb_rel); (case zB => tb_rel); (case zC => tb_rel); (case zD => tb_rel); (case zE => tb_rel); (case zF => tb_rel); (with_reducible refine' callFn ?zX ?zs ?zp ?_); (case zX => first | assumption | exact FnAt.ofE (by assumption) (by assumption) (by simp)); (case zs => rfl); (case zp => rfl); ktn_call 91 args_cons; (with_reducible refine' eN ?zA ?zB ?zC ?zD ?zE ?zF ?_); (case zA => tb_rel); (case zB => tb_rel); (case zC => tb_rel); (case zD => tb_rel); (case zE => tb_rel); (case zF => tb_rel); ktn_call 95 eN; tbr_iter args_nil; (with_reducible refine' And.intro (FnAt.ofE ?zF ?zx ?zw) ?_; (case zF => assumption); (case zx => assumption); (case zw => simp)))
    refine C.2 (Fm.st (by assumption)) (hA'.le (by omega)) (Fm.G (by assumption)) (by rw [e] at hr; simp only [regs, Bool.and_eq_true] at hr; exact hr.1) (by tb_rel) fun y h'' tk'' st' xy => ?_
    have F' := Fm.up (by assumption) st'
    (ktn_call 91 args_cons; (with_reducible refine' eNb ?zA ?zB ?zC ?zD ?zE ?zF ?_); (case zA => tb_rel); (case zB => tb_rel); (case zC => tb_rel); (case zD => tb_rel); (case zE => tb_rel); (case zF => tb_rel); ktn_call 91 args_cons; (with_reducible refine' eN ?zA ?zB ?zC ?zD ?zE ?zF ?_); (case zA => tb_rel); (case zB => tb_rel); (case zC => tb_rel); (case zD => tb_rel); (case zE => tb_rel); (case zF => tb_rel); ktn_call 95 eN; tbr_iter args_nil; (with_reducible refine' newTupX ?zA ?zB ?zC ?_); (case zA => tb_rel); (case zB => tb_rel); (case zC => tb_rel); intros; ktn_call 2 sL; intros; tbr_iter xNil; tbr_iter after_next; tbr_iter xReturn; ktn_call 91 Call_; (with_reducible refine' nameG ?zA ?zB ?zC ?zD ?zE ?zF ?_); (case zA => tb_rel); (case zB => tb_rel); (case zC => k_is); (case zD => tb_rel); (case zE => tb_rel); (case zF => tb_rel); (with_reducible refine' callF ?zA ?zB ?zC ?zD ?_); (case zA => tb_rel); (case zB => k_is); (case zC => tb_rel); (case zD => tb_rel); (with_reducible refine' aL ?zA ?zB ?zC ?_); (case zA => tb_rel); (case zB => tb_rel); (case zC => tb_rel); ktn_call 91 args_cons)
    rename_i tv h2 s2 F2 X2 h3 s3 F3
    rw [← x] at X2
    have X3 := X2.up s3
    clear X2 s2 F2
    refine' compT_map (by assumption) ((parts t).map fun p => enc (wreg c p)) hA' ?c1 ?c2 ?c3 ?c4 ?c5 ?c6 ?c7 ?_
    (case c1 => rfl); (case c2 => rfl); (case c3 => decide); (case c4 => exact fun _ => rfl); (case c5 => decide); (case c6 => rfl); (case c7 => tb_rel)
    (ktn_call 91 Call_; (with_reducible refine' nameG ?zA ?zB ?zC ?zD ?zE ?zF ?_); (case zA => tb_rel); (case zB => tb_rel); (case zC => k_is); (case zD => tb_rel); (case zE => tb_rel); (case zF => tb_rel); (with_reducible refine' callF ?zA ?zB ?zC ?zD ?_); (case zA => tb_rel); (case zB => k_is); (case zC => tb_rel); (case zD => tb_rel); (with_reducible refine' aL1 ?zA ?zB ?zC ?_); (case zA => tb_rel); (case zB => tb_rel); (case zC => tb_rel); (with_reducible refine' And.intro (Fm.G ?zF) ?_; (case zF => assumption)); (with_reducible refine' parts_of_spec (n := 0) ?zA ?zG ?zX ?_); (case zA => exact Cx.le (by assumption) (by omega)); (case zG => exact Fm.G (by assumption)); (case zX => tb_rel); ktn_call 96 rfl)
    rename_i r₂ h₂ tk₂ s₂ x₂ F₂
    rw [whd_parts] at x₂
    refine ⟨h₂, tk₂, (parts t).map enc, rfl, F₂, x₂, by simp, by rw [List.length_map]; cases t <;> exact Nat.le_of_ble_eq_true rfl, ?_, ?_⟩
    · intro i y di ei C' m' hS h₃ tk₃ E3 hdi hei xy s₃ F₃
      obtain ⟨p, hp1, rfl⟩ : ∃ p, (parts t)[i]? = some p ∧ enc p = di := by simpa using hdi
      obtain ⟨p', hp2, rfl⟩ : ∃ p', (parts t)[i]? = some p' ∧ enc (wreg c p') = ei := by simpa using hei
      rw [hp1] at hp2
      cases hp2
      have hdp : p.dep < t.dep := dep_parts (List.mem_of_getElem? hp1)
      (ktn_call 91 Call_; (with_reducible refine' nameG ?zA ?zB ?zC ?zD ?zE ?zF ?_); (case zA => tb_rel); (case zB => tb_rel); (case zC => k_is); (case zD => tb_rel); (case zE => tb_rel); (case zF => tb_rel); (with_reducible refine' callF ?zA ?zB ?zC ?zD ?_); (case zA => tb_rel); (case zB => k_is); (case zC => tb_rel); (case zD => tb_rel); (with_reducible refine' aL ?zA ?zB ?zC ?_); (case zA => tb_rel); (case zB => tb_rel); (case zC => tb_rel); ktn_call 91 args_cons; (with_reducible refine' nameC ?zA ?zB ?zC ?zD ?zE ?zF ?_); (case zA => tb_rel); (case zB => tb_rel); (case zC => tb_rel); (case zD => tb_rel); (case zE => tb_rel); (case zF => tb_rel); tbr_iter args_nil; (with_reducible refine' And.intro (Fm.G ?zF) ?_; (case zF => assumption)))
      refine ih p.dep (by omega) (Nat.le_refl _) (hA'.le (by omega)) F₃.G (by tb_rel) (regs_parts (List.mem_of_getElem? hp1) hr) (C.up G (F₂.st.trans s₃)) fun r h' tk' st' xr => ⟨h', tk', _, rfl, F₃.up st', xr⟩
    · intro D vs h' tk' st' F' hl xs
      have xs' : XTs h' vs (((parts t).map (wreg c)).map enc) := by rw [List.map_map]; exact xs
      have hn : ((parts t).map (wreg c)).length = (parts (whd c t)).length := by rw [whd_parts, List.length_map]
      clear xs
      (tbr_iter args_nil; (with_reducible refine' And.intro (Fm.G ?zF) ?_; (case zF => assumption)); (with_reducible refine' rebuilt_spec (n := 0) ?zA ?zG ?zX ?zl ?zx ?zn ?_); (case zA => exact Cx.le (by assumption) (by omega)); (case zG => exact Fm.G (by assumption)); (case zX => tb_rel); (case zl => tb_rel); (case zx => tb_rel); (case zn => first | assumption | simp); ktn_call 96 rfl; tbr_iter back_ret)
      refine k _ _ _ (by ktr_room) ?_
      rw [← whd_rebuild]
      tb_rel
  · have x : enc (whd c t) = .tuple [.str (Str.ofString "adt"), .str (Str.ofString "S"), .tuple [], .tuple []] := by rw [e]; rfl
    clear X'
    rw [e] at X
    (tbr_iter xIf; (with_reducible refine' tX ?zA ?zB ?zC ?zD ?zE ?zF ?_); (case zA => tb_rel); (case zB => tb_rel); (case zC => tb_rel); (case zD => tb_rel); (case zE => tb_rel); (case zF => tb_rel); ktn_call 1 ifF; tbr_iter xIf0; (with_reducible refine' tX ?zA ?zB ?zC ?zD ?zE ?zF ?_); (case zA => tb_rel); (case zB => tb_rel); (case zC => tb_rel); (case zD => tb_rel); (case zE => tb_rel); (case zF => tb_rel); ktn_call 1 ifT; ktn_call 1 xAssign; tbr_iter Tuple_; tbr_iter aS; ktn_call 91 args_cons; (with_reducible refine' eNs ?zA ?zB ?zC ?zD ?zE ?zF ?_); (case zA => tb_rel); (case zB => tb_rel); (case zC => tb_rel); (case zD => tb_rel); (case zE => tb_rel); (case zF => tb_rel); intros; ktn_call 91 args_cons; ktn_call 91 Call_; (with_reducible refine' nameB_tuple ?zA ?zB ?zC ?zD ?zE ?zF ?_); (case zA => tb_rel); (case zB => tb_rel); (case zC => k_is); (case zD => tb_rel); (case zE => tb_rel); (case zF => tb_rel); ktn_call 2 callT; ktn_call 91 args_cons)
    refine' compT_map (by assumption) [] hA' ?c1 ?c2 ?c3 ?c4 ?c5 ?c6 ?c7 ?_
    (case c1 => rfl); (case c2 => rfl); (case c3 => decide); (case c4 => exact fun _ => rfl); (case c5 => decide); (case c6 => rfl); (case c7 => tb_rel)
    ((with_reducible refine' eN ?zA ?zB ?zC ?zD ?zE ?zF ?_); (case zA => tb_rel); (case zB => tb_rel); (case zC => tb_rel); (case zD => tb_rel); (case zE => tb_rel); (case zF => tb_rel); ktn_call 95 eN)
    refine ⟨_, _, [], rfl, F, by assumption, rfl, by decide, fun i y di ei C m' hS h₃ tk₃ E3 hdi => by simp at hdi, fun D vs h' tk' st' F' hl xs => ?_⟩
    (tbr_iter args_nil; (with_reducible refine' tupleOfL ?zA ?zB ?zC ?zD ?_); (case zA => tb_rel); (case zB => tb_rel); (case zC => tb_rel); (case zD => tb_rel); intros; ktn_call 91 args_cons; (with_reducible refine' eN ?zA ?zB ?zC ?zD ?zE ?zF ?_); (case zA => tb_rel); (case zB => tb_rel); (case zC => tb_rel); (case zD => tb_rel); (case zE => tb_rel); (case zF => tb_rel); ktn_call 95 eN; tbr_iter args_nil; (with_reducible refine' newTupX ?zA ?zB ?zC ?_); (case zA => tb_rel); (case zB => tb_rel); (case zC => tb_rel); intros; ktn_call 2 sL; intros; tbr_iter xNil; tbr_iter after_next; tbr_iter xNil; tbr_iter after_next; tbr_iter xReturn; ktn_call 91 Call_; (with_reducible refine' nameG ?zA ?zB ?zC ?zD ?zE ?zF ?_); (case zA => tb_rel); (case zB => tb_rel); (case zC => k_is); (case zD => tb_rel); (case zE => tb_rel); (case zF => tb_rel); (with_reducible refine' callF ?zA ?zB ?zC ?zD ?_); (case zA => tb_rel); (case zB => k_is); (case zC => tb_rel); (case zD => tb_rel); (with_reducible refine' aL ?zA ?zB ?zC ?_); (case zA => tb_rel); (case zB => tb_rel); (case zC => tb_rel); ktn_call 91 args_cons)
    rename_i tv h2 s2 F2 X2 h3 s3 F3
    rw [← x] at X2
    have X3 := X2.up s3
    clear X2 s2 F2
    refine' compT_map (by assumption) ((parts t).map fun p => enc (wreg c p)) hA' ?c1 ?c2 ?c3 ?c4 ?c5 ?c6 ?c7 ?_
    (case c1 => rfl); (case c2 => rfl); (case c3 => decide); (case c4 => exact fun _ => rfl); (case c5 => decide); (case c6 => rfl); (case c7 => tb_rel)
    (ktn_call 91 Call_; (with_reducible refine' nameG ?zA ?zB ?zC ?zD ?zE ?zF ?_); (case zA => tb_rel); (case zB => tb_rel); (case zC => k_is); (case zD => tb_rel); (case zE => tb_rel); (case zF => tb_rel); (with_reducible refine' callF ?zA ?zB ?zC ?zD ?_); (case zA => tb_rel); (case zB => k_is); (case zC => tb_rel); (case zD => tb_rel); (with_reducible refine' aL1 ?zA ?zB ?zC ?_); (case zA => tb_rel); (case zB => tb_rel); (case zC => tb_rel); (with_reducible refine' And.intro (Fm.G ?zF) ?_; (case zF => assumption)); (with_reducible refine' parts_of_spec (n := 0) ?zA ?zG ?zX ?_); (case zA => exact Cx.le (by assumption) (by omega)); (case zG => exact Fm.G (by assumption)); (case zX => tb_rel); ktn_call 96 rfl)
    rename_i r₂ h₂ tk₂ s₂ x₂ F₂
    rw [whd_parts] at x₂
    refine ⟨h₂, tk₂, (parts t).map enc, rfl, F₂, x₂, by simp, by rw [List.length_map]; cases t <;> exact Nat.le_of_ble_eq_true rfl, ?_, ?_⟩
    · intro i y di ei C' m' hS h₃ tk₃ E3 hdi hei xy s₃ F₃
      obtain ⟨p, hp1, rfl⟩ : ∃ p, (parts t)[i]? = some p ∧ enc p = di := by simpa using hdi
      obtain ⟨p', hp2, rfl⟩ : ∃ p', (parts t)[i]? = some p' ∧ enc (wreg c p') = ei := by simpa using hei
      rw [hp1] at hp2
      cases hp2
      have hdp : p.dep < t.dep := dep_parts (List.mem_of_getElem? hp1)
      (ktn_call 91 Call_; (with_reducible refine' nameG ?zA ?zB ?zC ?zD ?zE ?zF ?_); (case zA => tb_rel); (case zB => tb_rel); (case zC => k_is); (case zD => tb_rel); (case zE => tb_rel); (case zF => tb_rel); (with_reducible refine' callF ?zA ?zB ?zC ?zD ?_); (case zA => tb_rel); (case zB => k_is); (case zC => tb_rel); (case zD => tb_rel); (with_reducible refine' aL ?zA ?zB ?zC ?_); (case zA => tb_rel); (case zB => tb_rel); (case zC => tb_rel); ktn_call 91 args_cons; (with_reducible refine' nameC ?zA ?zB ?zC ?zD ?zE ?zF ?_); (case zA => tb_rel); (case zB => tb_rel); (case zC => tb_rel); (case zD => tb_rel); (case zE => tb_rel); (case zF => tb_rel); tbr_iter args_nil; (with_reducible refine' And.intro (Fm.G ?zF) ?_; (case zF => assumption)))
      refine ih p.dep (by omega) (Nat.le_refl _) (hA'.le (by omega)) F₃.G (by tb_rel) (regs_parts (List.mem_of_getElem? hp1) hr) (C.up G (F₂.st.trans s₃)) fun r h' tk' st' xr => ⟨h', tk', _, rfl, F₃.up st', xr⟩
    · intro D vs h' tk' st' F' hl xs
      have xs' : XTs h' vs (((parts t).map (wreg c)).map enc) := by rw [List.map_map]; exact xs
      have hn : ((parts t).map (wreg c)).length = (parts (whd c t)).length := by rw [whd_parts, List.length_map]
      clear xs
      (tbr_iter args_nil; (with_reducible refine' And.intro (Fm.G ?zF) ?_; (case zF => assumption)); (with_reducible refine' rebuilt_spec (n := 0) ?zA ?zG ?zX ?zl ?zx ?zn ?_); (case zA => exact Cx.le (by assumption) (by omega)); (case zG => exact Fm.G (by assumption)); (case zX => tb_rel); (case zl => tb_rel); (case zx => tb_rel); (case zn => first | assumption | simp); ktn_call 96 rfl; tbr_iter back_ret)
      refine k _ _ _ (by ktr_room) ?_
      rw [← whd_rebuild]
      tb_rel
  · have x : enc (whd c t) = .tuple [.str (Str.ofString "adt"), .str (Str.ofString "L"), .tuple [], .tuple []] := by rw [e]; rfl
    clear X'
    rw [e] at X
    (tbr_iter xIf; (with_reducible refine' tX ?zA ?zB ?zC ?zD ?zE ?zF ?_); (case zA => tb_rel); (case zB => tb_rel); (case zC => tb_rel); (case zD => tb_rel); (case zE => tb_rel); (case zF => tb_rel); ktn_call 1 ifF; tbr_iter xIf0; (with_reducible refine' tX ?zA ?zB ?zC ?zD ?zE ?zF ?_); (case zA => tb_rel); (case zB => tb_rel); (case zC => tb_rel); (case zD => tb_rel); (case zE => tb_rel); (case zF => tb_rel); ktn_call 1 ifT; ktn_call 1 xAssign; tbr_iter Tuple_; tbr_iter aS; ktn_call 91 args_cons; (with_reducible refine' eNs ?zA ?zB ?zC ?zD ?zE ?zF ?_); (case zA => tb_rel); (case zB => tb_rel); (case zC => tb_rel); (case zD => tb_rel); (case zE => tb_rel); (case zF => tb_rel); intros; ktn_call 91 args_cons; ktn_call 91 Call_; (with_reducible refine' nameB_tuple ?zA ?zB ?zC ?zD ?zE ?zF ?_); (case zA => tb_rel); (case zB => tb_rel); (case zC => k_is); (case zD => tb_rel); (case zE => tb_rel); (case zF => tb_rel); ktn_call 2 callT; ktn_call 91 args_cons)
    refine' compT_map (by assumption) [] hA' ?c1 ?c2 ?c3 ?c4 ?c5 ?c6 ?c7 ?_
    (case c1 => rfl); (case c2 => rfl); (case c3 => decide); (case c4 => exact fun _ => rfl); (case c5 => decide); (case c6 => rfl); (case c7 => tb_rel)
    ((with_reducible refine' eN ?zA ?zB ?zC ?zD ?zE ?zF ?_); (case zA => tb_rel); (case zB => tb_rel); (case zC => tb_rel); (case zD => tb_rel); (case zE => tb_rel); (case zF => tb_rel); ktn_call 95 eN)
    refine ⟨_, _, [], rfl, F, by assumption, rfl, by decide, fun i y di ei C m' hS h₃ tk₃ E3 hdi => by simp at hdi, fun D vs h' tk' st' F' hl xs => ?_⟩
    (tbr_iter args_nil; (with_reducible refine' tupleOfL ?zA ?zB ?zC ?zD ?_); (case zA => tb_rel); (case zB => tb_rel); (case zC => tb_rel); (case zD => tb_rel); intros; ktn_call 91 args_cons; (with_reducible refine' eN ?zA ?zB ?zC ?zD ?zE ?zF ?_); (case zA => tb_rel); (case zB => tb_rel); (case zC => tb_rel); (case zD => tb_rel); (case zE => tb_rel); (case zF => tb_rel); ktn_call 95 eN; tbr_iter args_nil; (with_reducible refine' newTupX ?zA ?zB ?zC ?_); (case zA => tb_rel); (case zB => tb_rel); (case zC => tb_rel); intros; ktn_call 2 sL; intros; tbr_iter xNil; tbr_iter after_next; tbr_iter xNil; tbr_iter after_next; tbr_iter xReturn; ktn_call 91 Call_; (with_reducible refine' nameG ?zA ?zB ?zC ?zD ?zE ?zF ?_); (case zA => tb_rel); (case zB => tb_rel); (case zC => k_is); (case zD => tb_rel); (case zE => tb_rel); (case zF => tb_rel); (with_reducible refine' callF ?zA ?zB ?zC ?zD ?_); (case zA => tb_rel); (case zB => k_is); (case zC => tb_rel); (case zD => tb_rel); (with_reducible refine' aL ?zA ?zB ?zC ?_); (case zA => tb_rel); (case zB => tb_rel); (case zC => tb_rel); ktn_call 91 args_cons)
    rename_i tv h2 s2 F2 X2 h3 s3 F3
    rw [← x] at X2
    have X3 := X2.up s3
    clear X2 s2 F2
    refine' compT_map (by assumption) ((parts t).map fun p => enc (wreg c p)) hA' ?c1 ?c2 ?c3 ?c4 ?c5 ?c6 ?c7 ?_
    (case c1 => rfl); (case c2 => rfl); (case c3 => decide); (case c4 => exact fun _ => rfl); (case c5 => decide); (case c6 => rfl); (case c7 => tb_rel)
    (ktn_call 91 Call_; (with_reducible refine' nameG ?zA ?zB ?zC ?zD ?zE ?zF ?_); (case zA => tb_rel); (case zB => tb_rel); (case zC => k_is); (case zD => tb_rel); (case zE => tb_rel); (case zF => tb_rel); (with_reducible refine' callF ?zA ?zB ?zC ?zD ?_); (case zA => tb_rel); (case zB => k_is); (case zC => tb_rel); (case zD => tb_rel); (with_reducible refine' aL1 ?zA ?zB ?zC ?_); (case zA => tb_rel); (case zB => tb_rel); (case zC => tb_rel); (with_reducible refine' And.intro (Fm.G ?zF) ?_; (case zF => assumption)); (with_reducible refine' parts_of_spec (n := 0) ?zA ?zG ?zX ?_); (case zA => exact Cx.le (by assumption) (by omega)); (case zG => exact Fm.G (by assumption)); (case zX => tb_rel); ktn_call 96 rfl)
    rename_i r₂ h₂ tk₂ s₂ x₂ F₂
    rw [whd_parts] at x₂
    refine ⟨h₂, tk₂, (parts t).map enc, rfl, F₂, x₂, by simp, by rw [List.length_map]; cases t <;> exact Nat.le_of_ble_eq_true rfl, ?_, ?_⟩
    · intro i y di ei C' m' hS h₃ tk₃ E3 hdi hei xy s₃ F₃
      obtain ⟨p, hp1, rfl⟩ : ∃ p, (parts t)[i]? = some p ∧ enc p = di := by simpa using hdi
      obtain ⟨p', hp2, rfl⟩ : ∃ p', (parts t)[i]? = some p' ∧ enc (wreg c p') = ei := by simpa using hei
      rw [hp1] at hp2
      cases hp2
      have hdp : p.dep < t.dep := dep_parts (List.mem_of_getElem? hp1)
      (ktn_call 91 Call_; (with_reducible refine' nameG ?zA ?zB ?zC ?zD ?zE ?zF ?_); (case zA => tb_rel); (case zB => tb_rel); (case zC => k_is); (case zD => tb_rel); (case zE => tb_rel); (case zF => tb_rel); (with_reducible refine' callF ?zA ?zB ?zC ?zD ?_); (case zA => tb_rel); (case zB => k_is); (case zC => tb_rel); (case zD => tb_rel); (with_reducible refine' aL ?zA ?zB ?zC ?_); (case zA => tb_rel); (case zB => tb_rel); (case zC => tb_rel); ktn_call 91 args_cons; (with_reducible refine' nameC ?zA ?zB ?zC ?zD ?zE ?zF ?_); (case zA => tb_rel); (case zB => tb_rel); (case zC => tb_rel); (case zD => tb_rel); (case zE => tb_rel); (case zF => tb_rel); tbr_iter args_nil; (with_reducible refine' And.intro (Fm.G ?zF) ?_; (case zF => assumption)))
      refine ih p.dep (by omega) (Nat.le_refl _) (hA'.le (by omega)) F₃.G (by tb_rel) (regs_parts (List.mem_of_getElem? hp1) hr) (C.up G (F₂.st.trans s₃)) fun r h' tk' st' xr => ⟨h', tk', _, rfl, F₃.up st', xr⟩
    · intro D vs h' tk' st' F' hl xs
      have xs' : XTs h' vs (((parts t).map (wreg c)).map enc) := by rw [List.map_map]; exact xs
      have hn : ((parts t).map (wreg c)).length = (parts (whd c t)).length := by rw [whd_parts, List.length_map]
      clear xs
      (tbr_iter args_nil; (with_reducible refine' And.intro (Fm.G ?zF) ?_; (case zF => assumption)); (with_reducible refine' rebuilt_spec (n := 0) ?zA ?zG ?zX ?zl ?zx ?zn ?_); (case zA => exact Cx.le (by assumption) (by omega)); (case zG => exact Fm.G (by assumption)); (case zX => tb_rel); (case zl => tb_rel); (case zx => tb_rel); (case zn => first | assumption | simp); ktn_call 96 rfl; tbr_iter back_ret)
      refine k _ _ _ (by ktr_room) ?_
      rw [← whd_rebuild]
      tb_rel
  · have x : enc (whd c t) = .tuple [.str (Str.ofString "adt"), .str (Str.ofString "E"), .tuple [], .tuple [enc t1]] := by rw [e]; rfl
    clear X'
    rw [e] at X
    (tbr_iter xIf; (with_reducible refine' tX ?zA ?zB ?zC ?zD ?zE ?zF ?_); (case zA => tb_rel); (case zB => tb_rel); (case zC => tb_rel); (case zD => tb_rel); (case zE => tb_rel); (case zF => tb_rel); ktn_call 1 ifF; tbr_iter xIf0; (with_reducible refine' tX ?zA ?zB ?zC ?zD ?zE ?zF ?_); (case zA => tb_rel); (case zB => tb_rel); (case zC => tb_rel); (case zD => tb_rel); (case zE => tb_rel); (case zF => tb_rel); ktn_call 1 ifT; ktn_call 1 xAssign; tbr_iter Tuple_; tbr_iter aS; ktn_call 91 args_cons; (with_reducible refine' eNs ?zA ?zB ?zC ?zD ?zE ?zF ?_); (case zA => tb_rel); (case zB => tb_rel); (case zC => tb_rel); (case zD => tb_rel); (case zE => tb_rel); (case zF => tb_rel); intros; ktn_call 91 args_cons; ktn_call 91 Call_; (with_reducible refine' nameB_tuple ?zA ?zB ?zC ?zD ?zE ?zF ?_); (case zA => tb_rel); (case zB => tb_rel); (case zC => k_is); (case zD => tb_rel); (case zE => tb_rel); (case zF => tb_rel); ktn_call 2 callT; ktn_call 91 args_cons)
    refine' compT_map (by assumption) [] hA' ?c1 ?c2 ?c3 ?c4 ?c5 ?c6 ?c7 ?_
    (case c1 => rfl); (case c2 => rfl); (case c3 => decide); (case c4 => exact fun _ => rfl); (case c5 => decide); (case c6 => rfl); (case c7 => tb_rel)
    ((with_reducible refine' eN ?zA ?zB ?zC ?zD ?zE ?zF ?_); (case zA => tb_rel); (case zB => tb_rel); (case zC => tb_rel); (case zD => tb_rel); (case zE => tb_rel); (case zF => tb_rel); ktn_call 95 eN)
    refine ⟨_, _, [], rfl, F, by assumption, rfl, by decide, fun i y di ei C m' hS h₃ tk₃ E3 hdi => by simp at hdi, fun D vs h' tk' st' F' hl xs => ?_⟩
    (tbr_iter args_nil; (with_reducible refine' tupleOfL ?zA ?zB ?zC ?zD ?_); (case zA => tb_rel); (case zB => tb_rel); (case zC => tb_rel); (case zD => tb_rel); intros; ktn_call 91 args_cons; (with_reducible refine' eN ?zA ?zB ?zC ?zD ?zE ?zF ?_); (case zA => tb_rel); (case zB => tb_rel); (case zC => tb_rel); (case zD => tb_rel); (case zE => tb_rel); (case zF => tb_rel); ktn_call 95 eN; tbr_iter args_nil; (with_reducible refine' newTupX ?zA ?zB ?zC ?_); (case zA => tb_rel); (case zB => tb_rel); (case zC => tb_rel); intros; ktn_call 2 sL; intros; tbr_iter xNil; tbr_iter after_next; tbr_iter xNil; tbr_iter after_next; tbr_iter xReturn; ktn_call 91 Call_; (with_reducible refine' nameG ?zA ?zB ?zC ?zD ?zE ?zF ?_); (case zA => tb_rel); (case zB => tb_rel); (case zC => k_is); (case zD => tb_rel); (case zE => tb_rel); (case zF => tb_rel); (with_reducible refine' callF ?zA ?zB ?zC ?zD ?_); (case zA => tb_rel); (case zB => k_is); (case zC => tb_rel); (case zD => tb_rel); (with_reducible refine' aL ?zA ?zB ?zC ?_); (case zA => tb_rel); (case zB => tb_rel); (case zC => tb_rel); ktn_call 91 args_cons)
    rename_i tv h2 s2 F2 X2 h3 s3 F3
    rw [← x] at X2
    have X3 := X2.up s3
    clear X2 s2 F2
    refine' compT_map (by assumption) ((parts t).map fun p => enc (wreg c p)) hA' ?c1 ?c2 ?c3 ?c4 ?c5 ?c6 ?c7 ?_
    (case c1 => rfl); (case c2 => rfl); (case c3 => decide); (case c4 => exact fun _ => rfl); (case c5 => decide); (case c6 => rfl); (case c7 => tb_rel)
    (ktn_call 91 Call_; (with_reducible refine' nameG ?zA ?zB ?zC ?zD ?zE ?zF ?_); (case zA => tb_rel); (case zB => tb_rel); (case zC => k_is); (case zD => tb_rel); (case zE => tb_rel); (case zF => tb_rel); (with_reducible refine' callF ?zA ?zB ?zC ?zD ?_); (case zA => tb_rel); (case zB => k_is); (case zC => tb_rel); (case zD => tb_rel); (with_reducible refine' aL1 ?zA ?zB ?zC ?_); (case zA => tb_rel); (case zB => tb_rel); (case zC => tb_rel); (with_reducible refine' And.intro (Fm.G ?zF) ?_; (case zF => assumption)); (with_reducible refine' parts_of_spec (n := 0) ?zA ?zG ?zX ?_); (case zA => exact Cx.le (by assumption) (by omega)); (case zG => exact Fm.G (by assumption)); (case zX => tb_rel); ktn_call 96 rfl)
    rename_i r₂ h₂ tk₂ s₂ x₂ F₂
    rw [whd_parts] at x₂
    refine ⟨h₂, tk₂, (parts t).map enc, rfl, F₂, x₂, by simp, by rw [List.length_map]; cases t <;> exact Nat.le_of_ble_eq_true rfl, ?_, ?_⟩
    · intro i y di ei C' m' hS h₃ tk₃ E3 hdi hei xy s₃ F₃
      obtain ⟨p, hp1, rfl⟩ : ∃ p, (parts t)[i]? = some p ∧ enc p = di := by simpa using hdi
      obtain ⟨p', hp2, rfl⟩ : ∃ p', (parts t)[i]? = some p' ∧ enc (wreg c p') = ei := by simpa using hei
      rw [hp1] at hp2
      cases hp2
      have hdp : p.dep < t.dep := dep_parts (List.mem_of_getElem? hp1)
      (ktn_call 91 Call_; (with_reducible refine' nameG ?zA ?zB ?zC ?zD ?zE ?zF ?_); (case zA => tb_rel); (case zB => tb_rel); (case zC => k_is); (case zD => tb_rel); (case zE => tb_rel); (case zF => tb_rel); (with_reducible refine' callF ?zA ?zB ?zC ?zD ?_); (case zA => tb_rel); (case zB => k_is); (case zC => tb_rel); (case zD => tb_rel); (with_reducible refine' aL ?zA ?zB ?zC ?_); (case zA => tb_rel); (case zB => tb_rel); (case zC => tb_rel); ktn_call 91 args_cons; (with_reducible refine' nameC ?zA ?zB ?zC ?zD ?zE ?zF ?_); (case zA => tb_rel); (case zB => tb_rel); (case zC => tb_rel); (case zD => tb_rel); (case zE => tb_rel); (case zF => tb_rel); tbr_iter args_nil; (with_reducible refine' And.intro (Fm.G ?zF) ?_; (case zF => assumption)))
      refine ih p.dep (by omega) (Nat.le_refl _) (hA'.le (by omega)) F₃.G (by tb_rel) (regs_parts (List.mem_of_getElem? hp1) hr) (C.up G (F₂.st.trans s₃)) fun r h' tk' st' xr => ⟨h', tk', _, rfl, F₃.up st', xr⟩
    · intro D vs h' tk' st' F' hl xs
      have xs' : XTs h' vs (((parts t).map (wreg c)).map enc) := by rw [List.map_map]; exact xs
      have hn : ((parts t).map (wreg c)).length = (parts (whd c t)).length := by rw [whd_parts, List.length_map]
      clear xs
      (tbr_iter args_nil; (with_reducible refine' And.intro (Fm.G ?zF) ?_; (case zF => assumption)); (with_reducible refine' rebuilt_spec (n := 0) ?zA ?zG ?zX ?zl ?zx ?zn ?_); (case zA => exact Cx.le (by assumption) (by omega)); (case zG => exact Fm.G (by assumption)); (case zX => tb_rel); (case zl => tb_rel); (case zx => tb_rel); (case zn => first | assumption | simp); ktn_call 96 rfl; tbr_iter back_ret)
      refine k _ _ _ (by ktr_room) ?_
      rw [← whd_rebuild]
      tb_rel
  · (tbr_iter xIf; (with_reducible refine' tX ?zA ?zB ?zC ?zD ?zE ?zF ?_); (case zA => tb_rel); (case zB => tb_rel); (case zC => tb_rel); (case zD => tb_rel); (case zE => tb_rel); (case zF => tb_rel))
    refine ifF e1 ?_
    (tbr_iter xIf0; (with_reducible refine' tX ?zA ?zB ?zC ?zD ?zE ?zF ?_); (case zA => tb_rel); (case zB => tb_rel); (case zC => tb_rel); (case zD => tb_rel); (case zE => tb_rel); (case zF => tb_rel))
    refine ifF e2 ?_
    (tbr_iter xNil; tbr_iter after_next; tbr_iter xReturn; ktn_call 91 Call_; (with_reducible refine' nameG ?zA ?zB ?zC ?zD ?zE ?zF ?_); (case zA => tb_rel); (case zB => tb_rel); (case zC => k_is); (case zD => tb_rel); (case zE => tb_rel); (case zF => tb_rel); (with_reducible refine' callF ?zA ?zB ?zC ?zD ?_); (case zA => tb_rel); (case zB => k_is); (case zC => tb_rel); (case zD => tb_rel); (with_reducible refine' aL ?zA ?zB ?zC ?_); (case zA => tb_rel); (case zB => tb_rel); (case zC => tb_rel); ktn_call 91 args_cons)
    have X3 := X.up F.st
    rw [← e] at X3
    refine' compT_map (by assumption) ((parts t).map fun p => enc (wreg c p)) hA' ?c1 ?c2 ?c3 ?c4 ?c5 ?c6 ?c7 ?_
    (case c1 => rfl); (case c2 => rfl); (case c3 => decide); (case c4 => exact fun _ => rfl); (case c5 => decide); (case c6 => rfl); (case c7 => tb_rel)
    (ktn_call 91 Call_; (with_reducible refine' nameG ?zA ?zB ?zC ?zD ?zE ?zF ?_); (case zA => tb_rel); (case zB => tb_rel); (case zC => k_is); (case zD => tb_rel); (case zE => tb_rel); (case zF => tb_rel); (with_reducible refine' callF ?zA ?zB ?zC ?zD ?_); (case zA => tb_rel); (case zB => k_is); (case zC => tb_rel); (case zD => tb_rel); (with_reducible refine' aL1 ?zA ?zB ?zC ?_); (case zA => tb_rel); (case zB => tb_rel); (case zC => tb_rel); (with_reducible refine' And.intro (Fm.G ?zF) ?_; (case zF => assumption)); (with_reducible refine' parts_of_spec (n := 0) ?zA ?zG ?zX ?_); (case zA => exact Cx.le (by assumption) (by omega)); (case zG => exact Fm.G (by assumption)); (case zX => tb_rel); ktn_call 96 rfl)
    rename_i r₂ h₂ tk₂ s₂ x₂ F₂
    rw [whd_parts] at x₂
    refine ⟨h₂, tk₂, (parts t).map enc, rfl, F₂, x₂, by simp, by rw [List.length_map]; cases t <;> exact Nat.le_of_ble_eq_true rfl, ?_, ?_⟩
    · intro i y di ei C' m' hS h₃ tk₃ E3 hdi hei xy s₃ F₃
      obtain ⟨p, hp1, rfl⟩ : ∃ p, (parts t)[i]? = some p ∧ enc p = di := by simpa using hdi
      obtain ⟨p', hp2, rfl⟩ : ∃ p', (parts t)[i]? = some p' ∧ enc (wreg c p') = ei := by simpa using hei
      rw [hp1] at hp2
      cases hp2
      have hdp : p.dep < t.dep := dep_parts (List.mem_of_getElem? hp1)
      (ktn_call 91 Call_; (with_reducible refine' nameG ?zA ?zB ?zC ?zD ?zE ?zF ?_); (case zA => tb_rel); (case zB => tb_rel); (case zC => k_is); (case zD => tb_rel); (case zE => tb_rel); (case zF => tb_rel); (with_reducible refine' callF ?zA ?zB ?zC ?zD ?_); (case zA => tb_rel); (case zB => k_is); (case zC => tb_rel); (case zD => tb_rel); (with_reducible refine' aL ?zA ?zB ?zC ?_); (case zA => tb_rel); (case zB => tb_rel); (case zC => tb_rel); ktn_call 91 args_cons; (with_reducible refine' nameC ?zA ?zB ?zC ?zD ?zE ?zF ?_); (case zA => tb_rel); (case zB => tb_rel); (case zC => tb_rel); (case zD => tb_rel); (case zE => tb_rel); (case zF => tb_rel); tbr_iter args_nil; (with_reducible refine' And.intro (Fm.G ?zF) ?_; (case zF => assumption)))
      refine ih p.dep (by omega) (Nat.le_refl _) (hA'.le (by omega)) F₃.G (by tb_rel) (regs_parts (List.mem_of_getElem? hp1) hr) (C.up G (F₂.st.trans s₃)) fun r h' tk' st' xr => ⟨h', tk', _, rfl, F₃.up st', xr⟩
    · intro D vs h' tk' st' F' hl xs
      have xs' : XTs h' vs (((parts t).map (wreg c)).map enc) := by rw [List.map_map]; exact xs
      have hn : ((parts t).map (wreg c)).length = (parts (whd c t)).length := by rw [whd_parts, List.length_map]
      clear xs
      (tbr_iter args_nil; (with_reducible refine' And.intro (Fm.G ?zF) ?_; (case zF => assumption)); (with_reducible refine' rebuilt_spec (n := 0) ?zA ?zG ?zX ?zl ?zx ?zn ?_); (case zA => exact Cx.le (by assumption) (by omega)); (case zG => exact Fm.G (by assumption)); (case zX => tb_rel); (case zl => tb_rel); (case zx => tb_rel); (case zn => first | assumption | simp); ktn_call 96 rfl; tbr_iter back_ret)
      refine k _ _ _ (by ktr_room) ?_
      rw [← whd_rebuild]
      tb_rel
end

section
variable {prog : Program} {w : World} {mg mb : Str → Option Value}
theorem erased_spec {A : Around} {E : Value → Shared → Prop} {h : Heap} {g : Array GenState} {d : Drawn} {tk : Nat} {os : OsState} {v : Value} {t : Ty} {n : Nat} {Q : Value → Shared → Prop} (hA : Cx A (n + 3)) (hn : t.dep ≤ n) (G : Gd w mg mb h) (X : XT h v (enc t))
    (k : ∀ r h' tk', Step w mg mb [] h h' → XT h' r (enc (era t)) → Q r ⟨h', g, d, tk', os⟩) : wpAny (model prog w) A (call (.ref 59) [v]) Q E ⟨h, g, d, tk, os⟩ := by
  refine' enter [] (fun _ q => nomatch q) (m := upd nom (Str.ofString "told") v) (cm := nom) G hA ?k1 ?k2 ?k3 ?k4 ?k5 ?k6 ?k7 ?k8 ?k9 ?_
  case k1 => k_is
  case k2 => k_is
  case k3 => exact BindsTo.of_eq rfl
  case k4 => rfl
  case k5 => intro _; rfl
  case k6 => intro _; rfl
  case k7 => rfl
  case k8 => rfl
  case k9 => rfl
  intro L h₁ tk₁ E' st F CN hA' NL
  generalize A.deeper _ = A2 at hA' ⊢
  (tbr_iter xReturn; ktn_call 91 Call_; (with_reducible refine' nameG ?zA ?zB ?zC ?zD ?zE ?zF ?_); (case zA => tb_rel); (case zB => tb_rel); (case zC => k_is); (case zD => tb_rel); (case zE => tb_rel); (case zF => tb_rel); (with_reducible refine' callF ?zA ?zB ?zC ?zD ?_); (case zA => tb_rel); (case zB => k_is); (case zC => tb_rel); (case zD => tb_rel); (with_reducible refine' aL ?zA ?zB ?zC ?_); (case zA => tb_rel); (case zB => tb_rel); (case zC => tb_rel); ktn_call 91 args_cons; (with_reducible refine' nameG ?zA ?zB ?zC ?zD ?zE ?zF ?_); (case zA => tb_rel); (case zB => tb_rel); (case zC => k_is); (case zD => tb_rel); (case zE => tb_rel); (case zF => tb_rel); tbr_iter args_nil; (with_reducible refine' And.intro (Fm.G ?zF) ?_; (case zF => assumption)))
  refine with_regions_spec n hn hA' F.G (X.up F.st) (regs_true _) (no_region_chg F.G) fun r h' tk' st' x => ?_
  have F' := F.up st'
  (tbr_iter back_ret)
  exact k _ _ _ (by ktr_room) x

def mch : Ty → Ty → Option (Option Ty)
  | .S, .S => some none
  | .E _, .E u => some (some u)
  | _, _ => none
/-- the table's post -/
def MchPost (prog : Program) (w : World) (td : Addr) (p t : Ty) (r : Value) (h' : Heap) : Prop := match mch p t with
  | none => r = .bool false
  | some ou => r = .bool true ∧ TabX prog w h' td ou

theorem matched_prm {A : Around} {E : Value → Shared → Prop} {h : Heap} {g : Array GenState} {d : Drawn} {tk : Nat} {os : OsState} {v u : Value} {td : Addr} {t : Ty} {n : Nat} {Q : Value → Shared → Prop} (hA : Cx A (n + 1)) (G : Gd w mg mb h) (X : XT h v (enc (.prm .T))) (Y : XT h u (enc t)) (D : Dct prog w h td []) (h1 : 241 < td)
    (k : ∀ h' tk', Step w mg mb [td] h h' → Dct prog w h' td [(Str.ofString "T", u)] → Q (.bool true) ⟨h', g, d, tk', os⟩) : wpAny (model prog w) A (call (.ref 66) [v, u, .ref td]) Q E ⟨h, g, d, tk, os⟩ := by
  refine' enter [td] (fun a q => List.mem_singleton.mp q ▸ D.there) (m := upd (upd (upd nom (Str.ofString "pattern") v) (Str.ofString "told") u) (Str.ofString "table") (.ref td)) (cm := nom) G hA ?k1 ?k2 ?k3 ?k4 ?k5 ?k6 ?k7 ?k8 ?k9 ?_
  case k1 => k_is
  case k2 => k_is
  case k3 => exact BindsTo.of_eq rfl
  case k4 => rfl
  case k5 => intro _; rfl
  case k6 => intro _; rfl
  case k7 => rfl
  case k8 => rfl
  case k9 => rfl
  intro L h₁ tk₁ E' st F CN hA' NL
  generalize A.deeper _ = A2 at hA' ⊢
  have D₁ := D.up G st (by simp)
  (tbr_iter xIf0; (with_reducible refine' tX ?zA ?zB ?zC ?zD ?zE ?zF ?_); (case zA => tb_rel); (case zB => tb_rel); (case zC => tb_rel); (case zD => tb_rel); (case zE => tb_rel); (case zF => tb_rel); ktn_call 1 ifT; tbr_iter xIf0; tbr_iter wpAny_isTrue_Compare1; (with_reducible refine' eNs ?zA ?zB ?zC ?zD ?zE ?zF ?_); (case zA => tb_rel); (case zB => tb_rel); (case zC => tb_rel); (case zD => tb_rel); (case zE => tb_rel); (case zF => tb_rel); intros; (with_reducible refine' nL ?zA ?zB ?zC ?_); (case zA => tb_rel); (case zB => tb_rel); (case zC => tb_rel))
  refine inD D₁ h1 ?_
  (tbr_iter wpAny_truthy_bool; ktn_call 1 ifF; ktn_call 1 xAssignSub; (with_reducible refine' nL ?zA ?zB ?zC ?_); (case zA => tb_rel); (case zB => tb_rel); (case zC => tb_rel); (with_reducible refine' nL ?zA ?zB ?zC ?_); (case zA => tb_rel); (case zB => tb_rel); (case zC => tb_rel); (with_reducible refine' eNs ?zA ?zB ?zC ?zD ?zE ?zF ?_); (case zA => tb_rel); (case zB => tb_rel); (case zC => tb_rel); (case zD => tb_rel); (case zE => tb_rel); (case zF => tb_rel); intros)
  refine setD F D₁ h1 (by decide) fun h' st' D' ex => ?_
  have F' := F.upD st' (.inr (by simp)) (fun e => by obtain ⟨o, q⟩ := D.there; rw [e] at q; exact absurd (NL.symm.trans q) (by simp)) (fun n c hc => nomatch hc)
  (tbr_iter rB; tbr_iter after_ret; tbr_iter back_ret)
  exact k _ _ (by ktr_room) D'

theorem matched_spec {A : Around} {E : Value → Shared → Prop} {h : Heap} {g : Array GenState} {d : Drawn} {tk : Nat} {os : OsState} {v u : Value} {td : Addr} {p t : Ty} {n : Nat} {Q : Value → Shared → Prop} (hA : Cx A (n + 2)) (G : Gd w mg mb h) (hp : p = .S ∨ p = .E (.prm .T)) (X : XT h v (enc p)) (Y : XT h u (enc t)) (D : Dct prog w h td []) (h1 : 241 < td)
    (k : ∀ r h' tk', Step w mg mb [td] h h' → MchPost prog w td p t r h' → Q r ⟨h', g, d, tk', os⟩) : wpAny (model prog w) A (call (.ref 66) [v, u, .ref td]) Q E ⟨h, g, d, tk, os⟩ := by
  refine' enter [] (fun _ q => nomatch q) (m := upd (upd (upd nom (Str.ofString "pattern") v) (Str.ofString "told") u) (Str.ofString "table") (.ref td)) (cm := nom) G hA ?k1 ?k2 ?k3 ?k4 ?k5 ?k6 ?k7 ?k8 ?k9 ?_
  case k1 => k_is
  case k2 => k_is
  case k3 => exact BindsTo.of_eq rfl
  case k4 => rfl
  case k5 => intro _; rfl
  case k6 => intro _; rfl
  case k7 => rfl
  case k8 => rfl
  case k9 => rfl
  intro L h₁ tk₁ E' st F CN hA' NL
  generalize A.deeper _ = A2 at hA' ⊢
  have cls : t = .S ∨ t = .L ∨ (∃ t1, t = .E t1) ∨ ((t.kind == Str.ofString "adt") = false ∧ mch p t = none) := by
    cases t <;> simp [Ty.kind, mch]
    all_goals decide
  have X1 := X.up st
  have Y1 := Y.up st
  rcases hp with rfl | rfl
  · rcases cls with rfl | rfl | ⟨t1, rfl⟩ | ⟨e1, e2⟩
    · ((with_reducible refine' iX ?zA ?zB ?zC ?zD ?zE ?zF ?zG ?_); (case zA => tb_rel); (case zB => tb_rel); (case zC => tb_rel); (case zD => tb_rel); (case zE => tb_rel); (case zF => tb_rel); (case zG => tb_rel); tbr_iter xIf0; tbr_iter wpAny_isTrue_BoolOp; tbr_iter wpAny_allTrue_Or_cons; tbr_iter wpAny_isTrue_Compare1; (with_reducible refine' eNs ?zA ?zB ?zC ?zD ?zE ?zF ?_); (case zA => tb_rel); (case zB => tb_rel); (case zC => tb_rel); (case zD => tb_rel); (case zE => tb_rel); (case zF => tb_rel); intros; (with_reducible refine' eNs ?zA ?zB ?zC ?zD ?zE ?zF ?_); (case zA => tb_rel); (case zB => tb_rel); (case zC => tb_rel); (case zD => tb_rel); (case zE => tb_rel); (case zF => tb_rel); intros; tbr_iter ne_str; tbr_iter wpAny_truthy_bool; ktn_call 1 ifF; tbr_iter wpAny_allTrue_Or_cons; tbr_iter wpAny_isTrue_BoolOp; tbr_iter wpAny_allTrue_And_cons; (with_reducible refine' tX ?zA ?zB ?zC ?zD ?zE ?zF ?_); (case zA => tb_rel); (case zB => tb_rel); (case zC => tb_rel); (case zD => tb_rel); (case zE => tb_rel); (case zF => tb_rel); ktn_call 1 ifF; ktn_call 1 ifF; tbr_iter wpAny_allTrue_Or_cons; tbr_iter wpAny_isTrue_Compare1; (with_reducible refine' eNs ?zA ?zB ?zC ?zD ?zE ?zF ?_); (case zA => tb_rel); (case zB => tb_rel); (case zC => tb_rel); (case zD => tb_rel); (case zE => tb_rel); (case zF => tb_rel); intros; tbr_iter Tuple_; tbr_iter aS; tbr_iter aS1; (with_reducible refine' newTupX ?zA ?zB ?zC ?_); (case zA => tb_rel); (case zB => tb_rel); (case zC => tb_rel); intros; (with_reducible refine' inX ?zA ?zc ?zx ?zs ?zd ?ze ?_); (case zA => assumption); (case zc => assumption); (case zx => tb_rel); (case zs => decide +kernel); (case zd => decide +kernel); (case ze => decide +kernel); tbr_iter wpAny_truthy_bool; ktn_call 1 ifF; tbr_iter wpAny_allTrue_Or_nil; ktn_call 1 ifF; tbr_iter xIf0; tbr_iter wpAny_isTrue_BoolOp; tbr_iter wpAny_allTrue_Or_cons; tbr_iter wpAny_isTrue_BoolOp; tbr_iter wpAny_allTrue_And_cons; (with_reducible refine' tX ?zA ?zB ?zC ?zD ?zE ?zF ?_); (case zA => tb_rel); (case zB => tb_rel); (case zC => tb_rel); (case zD => tb_rel); (case zE => tb_rel); (case zF => tb_rel); ktn_call 1 ifF; ktn_call 1 ifF; tbr_iter wpAny_allTrue_Or_cons; tbr_iter wpAny_isTrue_BoolOp; tbr_iter wpAny_allTrue_And_cons; (with_reducible refine' tX ?zA ?zB ?zC ?zD ?zE ?zF ?_); (case zA => tb_rel); (case zB => tb_rel); (case zC => tb_rel); (case zD => tb_rel); (case zE => tb_rel); (case zF => tb_rel); ktn_call 1 ifF; ktn_call 1 ifF; tbr_iter wpAny_allTrue_Or_nil; ktn_call 1 ifF; tbr_iter xIf0; tbr_iter wpAny_isTrue_BoolOp; tbr_iter wpAny_allTrue_And_cons; (with_reducible refine' tX ?zA ?zB ?zC ?zD ?zE ?zF ?_); (case zA => tb_rel); (case zB => tb_rel); (case zC => tb_rel); (case zD => tb_rel); (case zE => tb_rel); (case zF => tb_rel); ktn_call 1 ifT; tbr_iter wpAny_allTrue_And_cons; tbr_iter wpAny_isTrue_Compare1; (with_reducible refine' eNs ?zA ?zB ?zC ?zD ?zE ?zF ?_); (case zA => tb_rel); (case zB => tb_rel); (case zC => tb_rel); (case zD => tb_rel); (case zE => tb_rel); (case zF => tb_rel); intros; (with_reducible refine' eNs ?zA ?zB ?zC ?zD ?zE ?zF ?_); (case zA => tb_rel); (case zB => tb_rel); (case zC => tb_rel); (case zD => tb_rel); (case zE => tb_rel); (case zF => tb_rel); intros; tbr_iter ne_str; tbr_iter wpAny_truthy_bool; ktn_call 1 ifF; ktn_call 1 ifF; ktn_call 2 xAssignSw2; tbr_iter Tuple_; ktn_call 91 args_cons; ktn_call 91 Call_; (with_reducible refine' nameG ?zA ?zB ?zC ?zD ?zE ?zF ?_); (case zA => tb_rel); (case zB => tb_rel); (case zC => k_is); (case zD => tb_rel); (case zE => tb_rel); (case zF => tb_rel); (with_reducible refine' callF ?zA ?zB ?zC ?zD ?_); (case zA => tb_rel); (case zB => k_is); (case zC => tb_rel); (case zD => tb_rel); (with_reducible refine' aL1 ?zA ?zB ?zC ?_); (case zA => tb_rel); (case zB => tb_rel); (case zC => tb_rel); (with_reducible refine' And.intro (Fm.G ?zF) ?_; (case zF => assumption)); (with_reducible refine' parts_of_spec (n := 0) ?zA ?zG ?zX ?_); (case zA => exact Cx.le (by assumption) (by omega)); (case zG => exact Fm.G (by assumption)); (case zX => tb_rel); ktn_call 96 rfl; ktn_call 91 args_cons; ktn_call 91 Call_; (with_reducible refine' nameG ?zA ?zB ?zC ?zD ?zE ?zF ?_); (case zA => tb_rel); (case zB => tb_rel); (case zC => k_is); (case zD => tb_rel); (case zE => tb_rel); (case zF => tb_rel); (with_reducible refine' callF ?zA ?zB ?zC ?zD ?_); (case zA => tb_rel); (case zB => k_is); (case zC => tb_rel); (case zD => tb_rel); (with_reducible refine' aL1 ?zA ?zB ?zC ?_); (case zA => tb_rel); (case zB => tb_rel); (case zC => tb_rel); (with_reducible refine' And.intro (Fm.G ?zF) ?_; (case zF => assumption)); (with_reducible refine' parts_of_spec (n := 0) ?zA ?zG ?zX ?_); (case zA => exact Cx.le (by assumption) (by omega)); (case zG => exact Fm.G (by assumption)); (case zX => tb_rel); ktn_call 96 rfl; tbr_iter args_nil; (with_reducible refine' newTupX ?zA ?zB ?zC ?_); (case zA => tb_rel); (case zB => tb_rel); (case zC => tb_rel); intros; (with_reducible refine' unp2X ?zA ?zB ?zC ?_); (case zA => tb_rel); (case zB => tb_rel); (case zC => tb_rel); intros; ktn_call 2 sL; intros; ktn_call 2 sL; intros; tbr_iter xIf0; tbr_iter wpAny_isTrue_Compare1; ktn_call 91 Call_; (with_reducible refine' nameB_len ?zA ?zB ?zC ?zD ?zE ?zF ?_); (case zA => tb_rel); (case zB => tb_rel); (case zC => k_is); (case zD => tb_rel); (case zE => tb_rel); (case zF => tb_rel); ktn_call 2 callB; (with_reducible refine' aL1 ?zA ?zB ?zC ?_); (case zA => tb_rel); (case zB => tb_rel); (case zC => tb_rel); ktn_call 2 lenT; ktn_call 91 Call_; (with_reducible refine' nameB_len ?zA ?zB ?zC ?zD ?zE ?zF ?_); (case zA => tb_rel); (case zB => tb_rel); (case zC => k_is); (case zD => tb_rel); (case zE => tb_rel); (case zF => tb_rel); ktn_call 2 callB; (with_reducible refine' aL1 ?zA ?zB ?zC ?_); (case zA => tb_rel); (case zB => tb_rel); (case zC => tb_rel); ktn_call 2 lenT; tbr_iter PyProof.Rows.ne_int; tbr_iter wpAny_truthy_bool; ktn_call 1 ifF)
      refine xForZ0 (by assumption) hA' (fun _ => rfl) ?_
      (ktn_call 91 Call_; (with_reducible refine' nameB_zip ?zA ?zB ?zC ?zD ?zE ?zF ?_); (case zA => tb_rel); (case zB => tb_rel); (case zC => k_is); (case zD => tb_rel); (case zE => tb_rel); (case zF => tb_rel); ktn_call 2 callT; (with_reducible refine' aL ?zA ?zB ?zC ?_); (case zA => tb_rel); (case zB => tb_rel); (case zC => tb_rel); (with_reducible refine' aL1 ?zA ?zB ?zC ?_); (case zA => tb_rel); (case zB => tb_rel); (case zC => tb_rel))
      refine callZip0 (by assumption) (by tb_rel) (by tb_rel) fun h₂ z a b i j t1 t2 ex P H nw hT => ?_
      refine ⟨_, _, _, z, a, b, i, j, t1, t2, rfl, rfl, by assumption, ex, P, H, nw, hT, fun h' tk' st' F' => ?_⟩
      (tbr_iter rB; tbr_iter back_ret)
      exact k _ _ _ (Step.nil (by ktr_room)) ⟨rfl, [], D.ofE F' (by simp), h1, rfl⟩
    · ((with_reducible refine' iX ?zA ?zB ?zC ?zD ?zE ?zF ?zG ?_); (case zA => tb_rel); (case zB => tb_rel); (case zC => tb_rel); (case zD => tb_rel); (case zE => tb_rel); (case zF => tb_rel); (case zG => tb_rel); tbr_iter xIf0; tbr_iter wpAny_isTrue_BoolOp; tbr_iter wpAny_allTrue_Or_cons; tbr_iter wpAny_isTrue_Compare1; (with_reducible refine' eNs ?zA ?zB ?zC ?zD ?zE ?zF ?_); (case zA => tb_rel); (case zB => tb_rel); (case zC => tb_rel); (case zD => tb_rel); (case zE => tb_rel); (case zF => tb_rel); intros; (with_reducible refine' eNs ?zA ?zB ?zC ?zD ?zE ?zF ?_); (case zA => tb_rel); (case zB => tb_rel); (case zC => tb_rel); (case zD => tb_rel); (case zE => tb_rel); (case zF => tb_rel); intros; tbr_iter ne_str; tbr_iter wpAny_truthy_bool; ktn_call 1 ifF; tbr_iter wpAny_allTrue_Or_cons; tbr_iter wpAny_isTrue_BoolOp; tbr_iter wpAny_allTrue_And_cons; (with_reducible refine' tX ?zA ?zB ?zC ?zD ?zE ?zF ?_); (case zA => tb_rel); (case zB => tb_rel); (case zC => tb_rel); (case zD => tb_rel); (case zE => tb_rel); (case zF => tb_rel); ktn_call 1 ifF; ktn_call 1 ifF; tbr_iter wpAny_allTrue_Or_cons; tbr_iter wpAny_isTrue_Compare1; (with_reducible refine' eNs ?zA ?zB ?zC ?zD ?zE ?zF ?_); (case zA => tb_rel); (case zB => tb_rel); (case zC => tb_rel); (case zD => tb_rel); (case zE => tb_rel); (case zF => tb_rel); intros; tbr_iter Tuple_; tbr_iter aS; tbr_iter aS1; (with_reducible refine' newTupX ?zA ?zB ?zC ?_); (case zA => tb_rel); (case zB => tb_rel); (case zC => tb_rel); intros; (with_reducible refine' inX ?zA ?zc ?zx ?zs ?zd ?ze ?_); (case zA => assumption); (case zc => assumption); (case zx => tb_rel); (case zs => decide +kernel); (case zd => decide +kernel); (case ze => decide +kernel); tbr_iter wpAny_truthy_bool; ktn_call 1 ifF; tbr_iter wpAny_allTrue_Or_nil; ktn_call 1 ifF; tbr_iter xIf0; tbr_iter wpAny_isTrue_BoolOp; tbr_iter wpAny_allTrue_Or_cons; tbr_iter wpAny_isTrue_BoolOp; tbr_iter wpAny_allTrue_And_cons; (with_reducible refine' tX ?zA ?zB ?zC ?zD ?zE ?zF ?_); (case zA => tb_rel); (case zB => tb_rel); (case zC => tb_rel); (case zD => tb_rel); (case zE => tb_rel); (case zF => tb_rel); ktn_call 1 ifF; ktn_call 1 ifF; tbr_iter wpAny_allTrue_Or_cons; tbr_iter wpAny_isTrue_BoolOp; tbr_iter wpAny_allTrue_And_cons; (with_reducible refine' tX ?zA ?zB ?zC ?zD ?zE ?zF ?_); (case zA => tb_rel); (case zB => tb_rel); (case zC => tb_rel); (case zD => tb_rel); (case zE => tb_rel); (case zF => tb_rel); ktn_call 1 ifF; ktn_call 1 ifF; tbr_iter wpAny_allTrue_Or_nil; ktn_call 1 ifF; tbr_iter xIf0; tbr_iter wpAny_isTrue_BoolOp; tbr_iter wpAny_allTrue_And_cons; (with_reducible refine' tX ?zA ?zB ?zC ?zD ?zE ?zF ?_); (case zA => tb_rel); (case zB => tb_rel); (case zC => tb_rel); (case zD => tb_rel); (case zE => tb_rel); (case zF => tb_rel); ktn_call 1 ifT; tbr_iter wpAny_allTrue_And_cons; tbr_iter wpAny_isTrue_Compare1; (with_reducible refine' eNs ?zA ?zB ?zC ?zD ?zE ?zF ?_); (case zA => tb_rel); (case zB => tb_rel); (case zC => tb_rel); (case zD => tb_rel); (case zE => tb_rel); (case zF => tb_rel); intros; (with_reducible refine' eNs ?zA ?zB ?zC ?zD ?zE ?zF ?_); (case zA => tb_rel); (case zB => tb_rel); (case zC => tb_rel); (case zD => tb_rel); (case zE => tb_rel); (case zF => tb_rel); intros; tbr_iter ne_str; tbr_iter wpAny_truthy_bool; ktn_call 1 ifT; tbr_iter wpAny_allTrue_And_nil; ktn_call 1 ifT; tbr_iter rB; tbr_iter after_ret; tbr_iter back_ret)
      exact k _ _ _ (Step.nil (by ktr_room)) rfl
    · ((with_reducible refine' iX ?zA ?zB ?zC ?zD ?zE ?zF ?zG ?_); (case zA => tb_rel); (case zB => tb_rel); (case zC => tb_rel); (case zD => tb_rel); (case zE => tb_rel); (case zF => tb_rel); (case zG => tb_rel); tbr_iter xIf0; tbr_iter wpAny_isTrue_BoolOp; tbr_iter wpAny_allTrue_Or_cons; tbr_iter wpAny_isTrue_Compare1; (with_reducible refine' eNs ?zA ?zB ?zC ?zD ?zE ?zF ?_); (case zA => tb_rel); (case zB => tb_rel); (case zC => tb_rel); (case zD => tb_rel); (case zE => tb_rel); (case zF => tb_rel); intros; (with_reducible refine' eNs ?zA ?zB ?zC ?zD ?zE ?zF ?_); (case zA => tb_rel); (case zB => tb_rel); (case zC => tb_rel); (case zD => tb_rel); (case zE => tb_rel); (case zF => tb_rel); intros; tbr_iter ne_str; tbr_iter wpAny_truthy_bool; ktn_call 1 ifF; tbr_iter wpAny_allTrue_Or_cons; tbr_iter wpAny_isTrue_BoolOp; tbr_iter wpAny_allTrue_And_cons; (with_reducible refine' tX ?zA ?zB ?zC ?zD ?zE ?zF ?_); (case zA => tb_rel); (case zB => tb_rel); (case zC => tb_rel); (case zD => tb_rel); (case zE => tb_rel); (case zF => tb_rel); ktn_call 1 ifF; ktn_call 1 ifF; tbr_iter wpAny_allTrue_Or_cons; tbr_iter wpAny_isTrue_Compare1; (with_reducible refine' eNs ?zA ?zB ?zC ?zD ?zE ?zF ?_); (case zA => tb_rel); (case zB => tb_rel); (case zC => tb_rel); (case zD => tb_rel); (case zE => tb_rel); (case zF => tb_rel); intros; tbr_iter Tuple_; tbr_iter aS; tbr_iter aS1; (with_reducible refine' newTupX ?zA ?zB ?zC ?_); (case zA => tb_rel); (case zB => tb_rel); (case zC => tb_rel); intros; (with_reducible refine' inX ?zA ?zc ?zx ?zs ?zd ?ze ?_); (case zA => assumption); (case zc => assumption); (case zx => tb_rel); (case zs => decide +kernel); (case zd => decide +kernel); (case ze => decide +kernel); tbr_iter wpAny_truthy_bool; ktn_call 1 ifF; tbr_iter wpAny_allTrue_Or_nil; ktn_call 1 ifF; tbr_iter xIf0; tbr_iter wpAny_isTrue_BoolOp; tbr_iter wpAny_allTrue_Or_cons; tbr_iter wpAny_isTrue_BoolOp; tbr_iter wpAny_allTrue_And_cons; (with_reducible refine' tX ?zA ?zB ?zC ?zD ?zE ?zF ?_); (case zA => tb_rel); (case zB => tb_rel); (case zC => tb_rel); (case zD => tb_rel); (case zE => tb_rel); (case zF => tb_rel); ktn_call 1 ifF; ktn_call 1 ifF; tbr_iter wpAny_allTrue_Or_cons; tbr_iter wpAny_isTrue_BoolOp; tbr_iter wpAny_allTrue_And_cons; (with_reducible refine' tX ?zA ?zB ?zC ?zD ?zE ?zF ?_); (case zA => tb_rel); (case zB => tb_rel); (case zC => tb_rel); (case zD => tb_rel); (case zE => tb_rel); (case zF => tb_rel); ktn_call 1 ifF; ktn_call 1 ifF; tbr_iter wpAny_allTrue_Or_nil; ktn_call 1 ifF; tbr_iter xIf0; tbr_iter wpAny_isTrue_BoolOp; tbr_iter wpAny_allTrue_And_cons; (with_reducible refine' tX ?zA ?zB ?zC ?zD ?zE ?zF ?_); (case zA => tb_rel); (case zB => tb_rel); (case zC => tb_rel); (case zD => tb_rel); (case zE => tb_rel); (case zF => tb_rel); ktn_call 1 ifT; tbr_iter wpAny_allTrue_And_cons; tbr_iter wpAny_isTrue_Compare1; (with_reducible refine' eNs ?zA ?zB ?zC ?zD ?zE ?zF ?_); (case zA => tb_rel); (case zB => tb_rel); (case zC => tb_rel); (case zD => tb_rel); (case zE => tb_rel); (case zF => tb_rel); intros; (with_reducible refine' eNs ?zA ?zB ?zC ?zD ?zE ?zF ?_); (case zA => tb_rel); (case zB => tb_rel); (case zC => tb_rel); (case zD => tb_rel); (case zE => tb_rel); (case zF => tb_rel); intros; tbr_iter ne_str; tbr_iter wpAny_truthy_bool; ktn_call 1 ifT; tbr_iter wpAny_allTrue_And_nil; ktn_call 1 ifT; tbr_iter rB; tbr_iter after_ret; tbr_iter back_ret)
      exact k _ _ _ (Step.nil (by ktr_room)) rfl
    · have Y2 : XT h₁ u (.tuple (.str t.kind :: t.rest)) := enc_eq t ▸ Y1
      have e3 : (Str.ofString "adt" != t.kind) = true := by
        have e4 : (t.kind == Str.ofString "adt") = (Str.ofString "adt" == t.kind) := by rw [Bool.eq_iff_iff]; simp only [beq_iff_eq]; exact eq_comm
        rw [e4] at e1; simp [bne, e1]
      clear Y1
      ((with_reducible refine' iX ?zA ?zB ?zC ?zD ?zE ?zF ?zG ?_); (case zA => tb_rel); (case zB => tb_rel); (case zC => tb_rel); (case zD => tb_rel); (case zE => tb_rel); (case zF => tb_rel); (case zG => tb_rel); tbr_iter xIf0; tbr_iter wpAny_isTrue_BoolOp; tbr_iter wpAny_allTrue_Or_cons; tbr_iter wpAny_isTrue_Compare1; (with_reducible refine' eNs ?zA ?zB ?zC ?zD ?zE ?zF ?_); (case zA => tb_rel); (case zB => tb_rel); (case zC => tb_rel); (case zD => tb_rel); (case zE => tb_rel); (case zF => tb_rel); intros; (with_reducible refine' eNs ?zA ?zB ?zC ?zD ?zE ?zF ?_); (case zA => tb_rel); (case zB => tb_rel); (case zC => tb_rel); (case zD => tb_rel); (case zE => tb_rel); (case zF => tb_rel); intros; tbr_iter ne_str; tbr_iter wpAny_truthy_bool)
      refine ifT e3 ?_
      (ktn_call 1 ifT; tbr_iter rB; tbr_iter after_ret; tbr_iter back_ret)
      exact k _ _ _ (Step.nil (by ktr_room)) (by unfold MchPost; rw [e2])
  · rcases cls with rfl | rfl | ⟨t1, rfl⟩ | ⟨e1, e2⟩
    · ((with_reducible refine' iX ?zA ?zB ?zC ?zD ?zE ?zF ?zG ?_); (case zA => tb_rel); (case zB => tb_rel); (case zC => tb_rel); (case zD => tb_rel); (case zE => tb_rel); (case zF => tb_rel); (case zG => tb_rel); tbr_iter xIf0; tbr_iter wpAny_isTrue_BoolOp; tbr_iter wpAny_allTrue_Or_cons; tbr_iter wpAny_isTrue_Compare1; (with_reducible refine' eNs ?zA ?zB ?zC ?zD ?zE ?zF ?_); (case zA => tb_rel); (case zB => tb_rel); (case zC => tb_rel); (case zD => tb_rel); (case zE => tb_rel); (case zF => tb_rel); intros; (with_reducible refine' eNs ?zA ?zB ?zC ?zD ?zE ?zF ?_); (case zA => tb_rel); (case zB => tb_rel); (case zC => tb_rel); (case zD => tb_rel); (case zE => tb_rel); (case zF => tb_rel); intros; tbr_iter ne_str; tbr_iter wpAny_truthy_bool; ktn_call 1 ifF; tbr_iter wpAny_allTrue_Or_cons; tbr_iter wpAny_isTrue_BoolOp; tbr_iter wpAny_allTrue_And_cons; (with_reducible refine' tX ?zA ?zB ?zC ?zD ?zE ?zF ?_); (case zA => tb_rel); (case zB => tb_rel); (case zC => tb_rel); (case zD => tb_rel); (case zE => tb_rel); (case zF => tb_rel); ktn_call 1 ifF; ktn_call 1 ifF; tbr_iter wpAny_allTrue_Or_cons; tbr_iter wpAny_isTrue_Compare1; (with_reducible refine' eNs ?zA ?zB ?zC ?zD ?zE ?zF ?_); (case zA => tb_rel); (case zB => tb_rel); (case zC => tb_rel); (case zD => tb_rel); (case zE => tb_rel); (case zF => tb_rel); intros; tbr_iter Tuple_; tbr_iter aS; tbr_iter aS1; (with_reducible refine' newTupX ?zA ?zB ?zC ?_); (case zA => tb_rel); (case zB => tb_rel); (case zC => tb_rel); intros; (with_reducible refine' inX ?zA ?zc ?zx ?zs ?zd ?ze ?_); (case zA => assumption); (case zc => assumption); (case zx => tb_rel); (case zs => decide +kernel); (case zd => decide +kernel); (case ze => decide +kernel); tbr_iter wpAny_truthy_bool; ktn_call 1 ifF; tbr_iter wpAny_allTrue_Or_nil; ktn_call 1 ifF; tbr_iter xIf0; tbr_iter wpAny_isTrue_BoolOp; tbr_iter wpAny_allTrue_Or_cons; tbr_iter wpAny_isTrue_BoolOp; tbr_iter wpAny_allTrue_And_cons; (with_reducible refine' tX ?zA ?zB ?zC ?zD ?zE ?zF ?_); (case zA => tb_rel); (case zB => tb_rel); (case zC => tb_rel); (case zD => tb_rel); (case zE => tb_rel); (case zF => tb_rel); ktn_call 1 ifF; ktn_call 1 ifF; tbr_iter wpAny_allTrue_Or_cons; tbr_iter wpAny_isTrue_BoolOp; tbr_iter wpAny_allTrue_And_cons; (with_reducible refine' tX ?zA ?zB ?zC ?zD ?zE ?zF ?_); (case zA => tb_rel); (case zB => tb_rel); (case zC => tb_rel); (case zD => tb_rel); (case zE => tb_rel); (case zF => tb_rel); ktn_call 1 ifF; ktn_call 1 ifF; tbr_iter wpAny_allTrue_Or_nil; ktn_call 1 ifF; tbr_iter xIf0; tbr_iter wpAny_isTrue_BoolOp; tbr_iter wpAny_allTrue_And_cons; (with_reducible refine' tX ?zA ?zB ?zC ?zD ?zE ?zF ?_); (case zA => tb_rel); (case zB => tb_rel); (case zC => tb_rel); (case zD => tb_rel); (case zE => tb_rel); (case zF => tb_rel); ktn_call 1 ifT; tbr_iter wpAny_allTrue_And_cons; tbr_iter wpAny_isTrue_Compare1; (with_reducible refine' eNs ?zA ?zB ?zC ?zD ?zE ?zF ?_); (case zA => tb_rel); (case zB => tb_rel); (case zC => tb_rel); (case zD => tb_rel); (case zE => tb_rel); (case zF => tb_rel); intros; (with_reducible refine' eNs ?zA ?zB ?zC ?zD ?zE ?zF ?_); (case zA => tb_rel); (case zB => tb_rel); (case zC => tb_rel); (case zD => tb_rel); (case zE => tb_rel); (case zF => tb_rel); intros; tbr_iter ne_str; tbr_iter wpAny_truthy_bool; ktn_call 1 ifT; tbr_iter wpAny_allTrue_And_nil; ktn_call 1 ifT; tbr_iter rB; tbr_iter after_ret; tbr_iter back_ret)
      exact k _ _ _ (Step.nil (by ktr_room)) rfl
    · ((with_reducible refine' iX ?zA ?zB ?zC ?zD ?zE ?zF ?zG ?_); (case zA => tb_rel); (case zB => tb_rel); (case zC => tb_rel); (case zD => tb_rel); (case zE => tb_rel); (case zF => tb_rel); (case zG => tb_rel); tbr_iter xIf0; tbr_iter wpAny_isTrue_BoolOp; tbr_iter wpAny_allTrue_Or_cons; tbr_iter wpAny_isTrue_Compare1; (with_reducible refine' eNs ?zA ?zB ?zC ?zD ?zE ?zF ?_); (case zA => tb_rel); (case zB => tb_rel); (case zC => tb_rel); (case zD => tb_rel); (case zE => tb_rel); (case zF => tb_rel); intros; (with_reducible refine' eNs ?zA ?zB ?zC ?zD ?zE ?zF ?_); (case zA => tb_rel); (case zB => tb_rel); (case zC => tb_rel); (case zD => tb_rel); (case zE => tb_rel); (case zF => tb_rel); intros; tbr_iter ne_str; tbr_iter wpAny_truthy_bool; ktn_call 1 ifF; tbr_iter wpAny_allTrue_Or_cons; tbr_iter wpAny_isTrue_BoolOp; tbr_iter wpAny_allTrue_And_cons; (with_reducible refine' tX ?zA ?zB ?zC ?zD ?zE ?zF ?_); (case zA => tb_rel); (case zB => tb_rel); (case zC => tb_rel); (case zD => tb_rel); (case zE => tb_rel); (case zF => tb_rel); ktn_call 1 ifF; ktn_call 1 ifF; tbr_iter wpAny_allTrue_Or_cons; tbr_iter wpAny_isTrue_Compare1; (with_reducible refine' eNs ?zA ?zB ?zC ?zD ?zE ?zF ?_); (case zA => tb_rel); (case zB => tb_rel); (case zC => tb_rel); (case zD => tb_rel); (case zE => tb_rel); (case zF => tb_rel); intros; tbr_iter Tuple_; tbr_iter aS; tbr_iter aS1; (with_reducible refine' newTupX ?zA ?zB ?zC ?_); (case zA => tb_rel); (case zB => tb_rel); (case zC => tb_rel); intros; (with_reducible refine' inX ?zA ?zc ?zx ?zs ?zd ?ze ?_); (case zA => assumption); (case zc => assumption); (case zx => tb_rel); (case zs => decide +kernel); (case zd => decide +kernel); (case ze => decide +kernel); tbr_iter wpAny_truthy_bool; ktn_call 1 ifF; tbr_iter wpAny_allTrue_Or_nil; ktn_call 1 ifF; tbr_iter xIf0; tbr_iter wpAny_isTrue_BoolOp; tbr_iter wpAny_allTrue_Or_cons; tbr_iter wpAny_isTrue_BoolOp; tbr_iter wpAny_allTrue_And_cons; (with_reducible refine' tX ?zA ?zB ?zC ?zD ?zE ?zF ?_); (case zA => tb_rel); (case zB => tb_rel); (case zC => tb_rel); (case zD => tb_rel); (case zE => tb_rel); (case zF => tb_rel); ktn_call 1 ifF; ktn_call 1 ifF; tbr_iter wpAny_allTrue_Or_cons; tbr_iter wpAny_isTrue_BoolOp; tbr_iter wpAny_allTrue_And_cons; (with_reducible refine' tX ?zA ?zB ?zC ?zD ?zE ?zF ?_); (case zA => tb_rel); (case zB => tb_rel); (case zC => tb_rel); (case zD => tb_rel); (case zE => tb_rel); (case zF => tb_rel); ktn_call 1 ifF; ktn_call 1 ifF; tbr_iter wpAny_allTrue_Or_nil; ktn_call 1 ifF; tbr_iter xIf0; tbr_iter wpAny_isTrue_BoolOp; tbr_iter wpAny_allTrue_And_cons; (with_reducible refine' tX ?zA ?zB ?zC ?zD ?zE ?zF ?_); (case zA => tb_rel); (case zB => tb_rel); (case zC => tb_rel); (case zD => tb_rel); (case zE => tb_rel); (case zF => tb_rel); ktn_call 1 ifT; tbr_iter wpAny_allTrue_And_cons; tbr_iter wpAny_isTrue_Compare1; (with_reducible refine' eNs ?zA ?zB ?zC ?zD ?zE ?zF ?_); (case zA => tb_rel); (case zB => tb_rel); (case zC => tb_rel); (case zD => tb_rel); (case zE => tb_rel); (case zF => tb_rel); intros; (with_reducible refine' eNs ?zA ?zB ?zC ?zD ?zE ?zF ?_); (case zA => tb_rel); (case zB => tb_rel); (case zC => tb_rel); (case zD => tb_rel); (case zE => tb_rel); (case zF => tb_rel); intros; tbr_iter ne_str; tbr_iter wpAny_truthy_bool; ktn_call 1 ifT; tbr_iter wpAny_allTrue_And_nil; ktn_call 1 ifT; tbr_iter rB; tbr_iter after_ret; tbr_iter back_ret)
      exact k _ _ _ (Step.nil (by ktr_room)) rfl
    · ((with_reducible refine' iX ?zA ?zB ?zC ?zD ?zE ?zF ?zG ?_); (case zA => tb_rel); (case zB => tb_rel); (case zC => tb_rel); (case zD => tb_rel); (case zE => tb_rel); (case zF => tb_rel); (case zG => tb_rel); tbr_iter xIf0; tbr_iter wpAny_isTrue_BoolOp; tbr_iter wpAny_allTrue_Or_cons; tbr_iter wpAny_isTrue_Compare1; (with_reducible refine' eNs ?zA ?zB ?zC ?zD ?zE ?zF ?_); (case zA => tb_rel); (case zB => tb_rel); (case zC => tb_rel); (case zD => tb_rel); (case zE => tb_rel); (case zF => tb_rel); intros; (with_reducible refine' eNs ?zA ?zB ?zC ?zD ?zE ?zF ?_); (case zA => tb_rel); (case zB => tb_rel); (case zC => tb_rel); (case zD => tb_rel); (case zE => tb_rel); (case zF => tb_rel); intros; tbr_iter ne_str; tbr_iter wpAny_truthy_bool; ktn_call 1 ifF; tbr_iter wpAny_allTrue_Or_cons; tbr_iter wpAny_isTrue_BoolOp; tbr_iter wpAny_allTrue_And_cons; (with_reducible refine' tX ?zA ?zB ?zC ?zD ?zE ?zF ?_); (case zA => tb_rel); (case zB => tb_rel); (case zC => tb_rel); (case zD => tb_rel); (case zE => tb_rel); (case zF => tb_rel); ktn_call 1 ifF; ktn_call 1 ifF; tbr_iter wpAny_allTrue_Or_cons; tbr_iter wpAny_isTrue_Compare1; (with_reducible refine' eNs ?zA ?zB ?zC ?zD ?zE ?zF ?_); (case zA => tb_rel); (case zB => tb_rel); (case zC => tb_rel); (case zD => tb_rel); (case zE => tb_rel); (case zF => tb_rel); intros; tbr_iter Tuple_; tbr_iter aS; tbr_iter aS1; (with_reducible refine' newTupX ?zA ?zB ?zC ?_); (case zA => tb_rel); (case zB => tb_rel); (case zC => tb_rel); intros; (with_reducible refine' inX ?zA ?zc ?zx ?zs ?zd ?ze ?_); (case zA => assumption); (case zc => assumption); (case zx => tb_rel); (case zs => decide +kernel); (case zd => decide +kernel); (case ze => decide +kernel); tbr_iter wpAny_truthy_bool; ktn_call 1 ifF; tbr_iter wpAny_allTrue_Or_nil; ktn_call 1 ifF; tbr_iter xIf0; tbr_iter wpAny_isTrue_BoolOp; tbr_iter wpAny_allTrue_Or_cons; tbr_iter wpAny_isTrue_BoolOp; tbr_iter wpAny_allTrue_And_cons; (with_reducible refine' tX ?zA ?zB ?zC ?zD ?zE ?zF ?_); (case zA => tb_rel); (case zB => tb_rel); (case zC => tb_rel); (case zD => tb_rel); (case zE => tb_rel); (case zF => tb_rel); ktn_call 1 ifF; ktn_call 1 ifF; tbr_iter wpAny_allTrue_Or_cons; tbr_iter wpAny_isTrue_BoolOp; tbr_iter wpAny_allTrue_And_cons; (with_reducible refine' tX ?zA ?zB ?zC ?zD ?zE ?zF ?_); (case zA => tb_rel); (case zB => tb_rel); (case zC => tb_rel); (case zD => tb_rel); (case zE => tb_rel); (case zF => tb_rel); ktn_call 1 ifF; ktn_call 1 ifF; tbr_iter wpAny_allTrue_Or_nil; ktn_call 1 ifF; tbr_iter xIf0; tbr_iter wpAny_isTrue_BoolOp; tbr_iter wpAny_allTrue_And_cons; (with_reducible refine' tX ?zA ?zB ?zC ?zD ?zE ?zF ?_); (case zA => tb_rel); (case zB => tb_rel); (case zC => tb_rel); (case zD => tb_rel); (case zE => tb_rel); (case zF => tb_rel); ktn_call 1 ifT; tbr_iter wpAny_allTrue_And_cons; tbr_iter wpAny_isTrue_Compare1; (with_reducible refine' eNs ?zA ?zB ?zC ?zD ?zE ?zF ?_); (case zA => tb_rel); (case zB => tb_rel); (case zC => tb_rel); (case zD => tb_rel); (case zE => tb_rel); (case zF => tb_rel); intros; (with_reducible refine' eNs ?zA ?zB ?zC ?zD ?zE ?zF ?_); (case zA => tb_rel); (case zB => tb_rel); (case zC => tb_rel); (case zD => tb_rel); (case zE => tb_rel); (case zF => tb_rel); intros; tbr_iter ne_str; tbr_iter wpAny_truthy_bool; ktn_call 1 ifF; ktn_call 1 ifF; ktn_call 2 xAssignSw2; tbr_iter Tuple_; ktn_call 91 args_cons; ktn_call 91 Call_; (with_reducible refine' nameG ?zA ?zB ?zC ?zD ?zE ?zF ?_); (case zA => tb_rel); (case zB => tb_rel); (case zC => k_is); (case zD => tb_rel); (case zE => tb_rel); (case zF => tb_rel); (with_reducible refine' callF ?zA ?zB ?zC ?zD ?_); (case zA => tb_rel); (case zB => k_is); (case zC => tb_rel); (case zD => tb_rel); (with_reducible refine' aL1 ?zA ?zB ?zC ?_); (case zA => tb_rel); (case zB => tb_rel); (case zC => tb_rel); (with_reducible refine' And.intro (Fm.G ?zF) ?_; (case zF => assumption)); (with_reducible refine' parts_of_spec (n := 0) ?zA ?zG ?zX ?_); (case zA => exact Cx.le (by assumption) (by omega)); (case zG => exact Fm.G (by assumption)); (case zX => tb_rel); ktn_call 96 rfl; ktn_call 91 args_cons; ktn_call 91 Call_; (with_reducible refine' nameG ?zA ?zB ?zC ?zD ?zE ?zF ?_); (case zA => tb_rel); (case zB => tb_rel); (case zC => k_is); (case zD => tb_rel); (case zE => tb_rel); (case zF => tb_rel); (with_reducible refine' callF ?zA ?zB ?zC ?zD ?_); (case zA => tb_rel); (case zB => k_is); (case zC => tb_rel); (case zD => tb_rel); (with_reducible refine' aL1 ?zA ?zB ?zC ?_); (case zA => tb_rel); (case zB => tb_rel); (case zC => tb_rel); (with_reducible refine' And.intro (Fm.G ?zF) ?_; (case zF => assumption)); (with_reducible refine' parts_of_spec (n := 0) ?zA ?zG ?zX ?_); (case zA => exact Cx.le (by assumption) (by omega)); (case zG => exact Fm.G (by assumption)); (case zX => tb_rel); ktn_call 96 rfl; tbr_iter args_nil; (with_reducible refine' newTupX ?zA ?zB ?zC ?_); (case zA => tb_rel); (case zB => tb_rel); (case zC => tb_rel); intros; (with_reducible refine' unp2X ?zA ?zB ?zC ?_); (case zA => tb_rel); (case zB => tb_rel); (case zC => tb_rel); intros; ktn_call 2 sL; intros; ktn_call 2 sL; intros; tbr_iter xIf0; tbr_iter wpAny_isTrue_Compare1; ktn_call 91 Call_; (with_reducible refine' nameB_len ?zA ?zB ?zC ?zD ?zE ?zF ?_); (case zA => tb_rel); (case zB => tb_rel); (case zC => k_is); (case zD => tb_rel); (case zE => tb_rel); (case zF => tb_rel); ktn_call 2 callB; (with_reducible refine' aL1 ?zA ?zB ?zC ?_); (case zA => tb_rel); (case zB => tb_rel); (case zC => tb_rel); ktn_call 2 lenT; ktn_call 91 Call_; (with_reducible refine' nameB_len ?zA ?zB ?zC ?zD ?zE ?zF ?_); (case zA => tb_rel); (case zB => tb_rel); (case zC => k_is); (case zD => tb_rel); (case zE => tb_rel); (case zF => tb_rel); ktn_call 2 callB; (with_reducible refine' aL1 ?zA ?zB ?zC ?_); (case zA => tb_rel); (case zB => tb_rel); (case zC => tb_rel); ktn_call 2 lenT; tbr_iter PyProof.Rows.ne_int; tbr_iter wpAny_truthy_bool; ktn_call 1 ifF)
      refine' xForZ1 (wr := [td]) ?hF [Str.ofString "one", Str.ofString "other"] [td] hA' ?hs ?_
      case hF => exact Fm.wide (by assumption)
      case hs => exact fun _ => rfl
      (ktn_call 91 Call_; (with_reducible refine' nameB_zip ?zA ?zB ?zC ?zD ?zE ?zF ?_); (case zA => tb_rel); (case zB => tb_rel); (case zC => k_is); (case zD => tb_rel); (case zE => tb_rel); (case zF => tb_rel); ktn_call 2 callT; (with_reducible refine' aL ?zA ?zB ?zC ?_); (case zA => tb_rel); (case zB => tb_rel); (case zC => tb_rel); (with_reducible refine' aL1 ?zA ?zB ?zC ?_); (case zA => tb_rel); (case zB => tb_rel); (case zC => tb_rel))
      refine callZip1 (by assumption) (by tb_rel) (by tb_rel) fun h₂ z a b i j t1 t2 y1 y2 hv ex P H nw ge hT1 hT2 xy1 xy2 => ?_
      rename_i hb _ F₁
      have D₁ := D.ofE F₁ (by simp)
      refine ⟨hb, h₂, _, z, a, b, i, j, t1, t2, y1, y2, rfl, rfl, Fm.wide F₁, ex, P, H, nw, ge, hT1, hT2, ?_, ?_, fun h => Dct prog w h td [(Str.ofString "T", y2)], ?_, ?_, ?_⟩
      · intro a ha
        rw [List.mem_singleton.mp ha]
        exact ⟨D₁.there, .head _⟩
      · exact fun q => tup_ne_dct D₁ hT1 (List.mem_singleton.mp q)
      · exact fun ha hb hk hd => hd.at fun o e => hk td o D₁.there e
      · intro h₃ tk₃ E₂ st₃ Fo F₃
        (ktn_call 2 sL; intros; ktn_call 2 sL; intros; tbr_iter xIf0; tbr_iter wpAny_isTrue_Not; ktn_call 91 isTrue_plain; ktn_call 91 Call_; (with_reducible refine' nameG ?zA ?zB ?zC ?zD ?zE ?zF ?_); (case zA => tb_rel); (case zB => tb_rel); (case zC => k_is); (case zD => tb_rel); (case zE => tb_rel); (case zF => tb_rel); (with_reducible refine' callF ?zA ?zB ?zC ?zD ?_); (case zA => tb_rel); (case zB => k_is); (case zC => tb_rel); (case zD => tb_rel); (with_reducible refine' aL ?zA ?zB ?zC ?_); (case zA => tb_rel); (case zB => tb_rel); (case zC => tb_rel); (with_reducible refine' aL ?zA ?zB ?zC ?_); (case zA => tb_rel); (case zB => tb_rel); (case zC => tb_rel); (with_reducible refine' aL1 ?zA ?zB ?zC ?_); (case zA => tb_rel); (case zB => tb_rel); (case zC => tb_rel); (with_reducible refine' And.intro (Fm.G ?zF) ?_; (case zF => assumption)))
        rename_i ha sa Fa hc sc Fc
        have ne : td ≠ L := fun e => by obtain ⟨o, q⟩ := D.there; rw [e] at q; exact absurd (NL.symm.trans q) (by simp)
        have nel : td ∉ [L] := fun q => ne (List.mem_singleton.mp q)
        have D₃ := (D₁.up F₁.G st₃ (by simp)).up F₃.G sa nel
        refine matched_prm (n := n) hA' Fc.G (xy1.up (st₃.nil.trans (wr := [L]) (sa.trans sc))) (xy2.up (st₃.nil.trans (wr := [L]) (sa.trans sc))) (D₃.up Fa.G sc nel) h1 fun h' tk' st' D' => ?_
        have F' := Fc.upD st' (.inr (by simp)) ne (fun n c hc => nomatch hc)
        (tbr_iter wpAny_truthy_bool; ktn_call 1 ifF; tbr_iter xNil; tbr_iter turn_next)
        exact ⟨_, _, _, rfl, F', by tb_rel, D'⟩
      · intro u₂ h' tk' hD ht F'
        (tbr_iter rB; tbr_iter back_ret)
        exact k _ _ _ (by ktr_room) ⟨rfl, [(Str.ofString "T", y2)], hD, h1, y2, rfl, reads_tk ht xy2 rfl⟩
    · have Y2 : XT h₁ u (.tuple (.str t.kind :: t.rest)) := enc_eq t ▸ Y1
      have e3 : (Str.ofString "adt" != t.kind) = true := by
        have e4 : (t.kind == Str.ofString "adt") = (Str.ofString "adt" == t.kind) := by rw [Bool.eq_iff_iff]; simp only [beq_iff_eq]; exact eq_comm
        rw [e4] at e1; simp [bne, e1]
      clear Y1
      ((with_reducible refine' iX ?zA ?zB ?zC ?zD ?zE ?zF ?zG ?_); (case zA => tb_rel); (case zB => tb_rel); (case zC => tb_rel); (case zD => tb_rel); (case zE => tb_rel); (case zF => tb_rel); (case zG => tb_rel); tbr_iter xIf0; tbr_iter wpAny_isTrue_BoolOp; tbr_iter wpAny_allTrue_Or_cons; tbr_iter wpAny_isTrue_Compare1; (with_reducible refine' eNs ?zA ?zB ?zC ?zD ?zE ?zF ?_); (case zA => tb_rel); (case zB => tb_rel); (case zC => tb_rel); (case zD => tb_rel); (case zE => tb_rel); (case zF => tb_rel); intros; (with_reducible refine' eNs ?zA ?zB ?zC ?zD ?zE ?zF ?_); (case zA => tb_rel); (case zB => tb_rel); (case zC => tb_rel); (case zD => tb_rel); (case zE => tb_rel); (case zF => tb_rel); intros; tbr_iter ne_str; tbr_iter wpAny_truthy_bool)
      refine ifT e3 ?_
      (ktn_call 1 ifT; tbr_iter rB; tbr_iter after_ret; tbr_iter back_ret)
      exact k _ _ _ (Step.nil (by ktr_room)) (by unfold MchPost; rw [e2])
end

/-- the bounds' dict: X: Clone, Copy; Y: none or Clone -/
inductive BoundsIs (prog : Program) (w : World) (h : Heap) (bv : Value) (yb : Bool) : Prop where
  | mk (bd : Addr) (vx vy : Value) : bv = .ref bd →
    241 < bd →
    Dct prog w h bd [(Str.ofString "X", vx), (Str.ofString "Y", vy)] →
    XT h vx (.tuple [sty "Clone", sty "Copy"]) →
    XT h vy (.tuple (if yb then [sty "Clone"] else [])) → BoundsIs prog w h bv yb
theorem BoundsIs.up {prog : Program} {w : World} {mg mb : Str → Option Value} {h h' : Heap} {bv : Value} {yb : Bool} (G : Gd w mg mb h) (st : Step w mg mb [] h h') (x : BoundsIs prog w h bv yb) : BoundsIs prog w h' bv yb :=
  let ⟨bd, vx, vy, e, l, D, x1, x2⟩ := x
  ⟨bd, vx, vy, e, l, D.up G st (by simp), x1.up st, x2.up st⟩
def isC (W : WD) : Ty → Bool
  | .int _ | .bool | .never | .unit => true
  | .ref _ m _ => !m
  | .pair a b => isC W a && isC W b
  | .arr t => isC W t
  | .prm p => p == .X
  | .S => W.rows.any fun r => r.cp && !r.e
  | .E t => W.rows.any fun r => r.cp && (r.e && (!r.ask || isC W t))
  | .box _ | .L => false
theorem isC_era (W : WD) (t : Ty) : isC W (era t) = isC W t := by induction t <;> simp_all [isC, wreg]
/-- what impl_bounds tells -/
def bndOk (W : WD) (i : ImpD) (ou : Option Ty) : Bool := match ou with
  | none => true
  | some u => !(i.e && i.ask) || isC W u
def rowC (W : WD) (t : Ty) (r : ImpD) : Bool := r.cp && match mch r.self (era t) with | none => false | some ou => bndOk W r ou
theorem isC_adt {W : WD} {t : Ty} (h : t.kind = Str.ofString "adt") : isC W t = W.rows.any (rowC W t) := by
  cases t <;> first | (exfalso; simp only [Ty.kind] at h; revert h; decide) | skip
  · show W.rows.any _ = _
    congr 1; funext r
    obtain ⟨cp, e, ask⟩ := r
    cases e <;> simp [rowC, ImpD.self, mch, wreg, bndOk]
  · show false = _
    symm; rw [List.any_eq_false]
    intro r _
    obtain ⟨cp, e, ask⟩ := r
    cases e <;> simp [rowC, ImpD.self, mch, wreg]
  · rename_i u
    show W.rows.any _ = _
    congr 1; funext r
    obtain ⟨cp, e, ask⟩ := r
    cases e <;> simp [rowC, ImpD.self, mch, wreg, bndOk, isC_era]
theorem isC_parts {W : WD} {t : Ty} (h : t.kind = Str.ofString "tuple" ∨ t.kind = Str.ofString "array") : PyData.eqvAll (((parts t).filter fun p => !isC W p).map enc) [] = isC W t := by
  cases t <;> first | (exfalso; simp only [Ty.kind] at h; revert h; decide) | skip
  · rfl
  · rename_i a b
    simp only [parts, isC, List.filter_cons]
    cases isC W a <;> cases isC W b <;> simp [PyData.eqvAll]
  · rename_i a
    simp only [parts, isC, List.filter_cons]
    cases isC W a <;> simp [PyData.eqvAll]
theorem kinds (t : Ty) : t.kind = Str.ofString "adt" ∨ t.kind = Str.ofString "tuple" ∨ t.kind = Str.ofString "array" ∨ (t.kind ≠ Str.ofString "adt" ∧ t.kind ≠ Str.ofString "tuple" ∧ t.kind ≠ Str.ofString "array") := by
  cases t <;> simp [Ty.kind] <;> decide
theorem mch_e {r : ImpD} {t : Ty} {ou : Option Ty} (h : mch r.self t = some ou) (he : r.e = true) : ∃ u, t = .E u ∧ ou = some u := by
  unfold ImpD.self at h
  rw [if_pos he] at h
  cases t <;> simp [mch] at h
  exact ⟨_, rfl, h.symm⟩
theorem encs_shaped (ts : List Ty) (h : ∀ t ∈ ts, t.dep ≤ 30) : SeqAt.shaped (.list (ts.map enc)) = true := by
  have := encs_shape ts h
  unfold SeqAt.shaped
  have h1 : (PyData.list (ts.map enc)).canLay0 = PyData.canLayAll0 (ts.map enc) := by simp only [PyData.canLay0]
  have h2 : (PyData.list (ts.map enc)).depth = PyData.depthAll (ts.map enc) + 1 := by simp only [PyData.depth]
  rw [h1, h2, this.1, Bool.true_and, decide_eq_true_eq]
  omega
def hasD (W : WD) (t : Ty) : Bool := W.rows.any fun r => !r.cp && (mch r.self (era t)).isSome
theorem parts_le (t : Ty) : (parts t).length ≤ 2 := by cases t <;> simp [parts]
theorem parts_sz (t : Ty) : (parts t).length ≤ sizeLine := Nat.le_trans (parts_le t) (Nat.le_of_ble_eq_true rfl)
theorem bndTup {h : Heap} {vx vy zv : Value} {yb : Bool} {p : Pn} (bx : XT h vx (.tuple [sty "Clone", sty "Copy"])) (by_ : XT h vy (.tuple (if yb then [sty "Clone"] else []))) (zr : XT h zv (.tuple [])) :
    ∃ ds, XT h ((valueAt [(Str.ofString "X", vx), (Str.ofString "Y", vy)] p.str).getD zv) (.tuple ds) ∧ PyData.canLayAll0 ds = true ∧ (ds.any fun y => PyData.eqv y (sty "Copy")) = (p == .X) := by
  cases p
  · exact ⟨_, bx, by decide +kernel, by decide +kernel⟩
  · exact ⟨_, by_, by cases yb <;> decide +kernel, by cases yb <;> decide +kernel⟩
  · exact ⟨_, zr, rfl, rfl⟩

/-- t is an adt of the name nm with the arguments us, its parameters are ps -/
def AdtN (t : Ty) (nm : Str) (ps us : List PyData) : Prop :=
  enc t = .tuple [sty "adt", .str nm, .tuple [], .tuple us] ∧ ((ps = [] ∧ us = [] ∧ (t = .S ∨ t = .L)) ∨ ∃ u, t = .E u ∧ ps = [sty "T"] ∧ us = [enc u])
theorem WorldIs.adt {prog : Program} {w : World} {h : Heap} {x : Value} {W : WD} {t : Ty} (I : WorldIs prog w h x W) (hk : t.kind = Str.ofString "adt") :
    ∃ a dx mo ad kvs av nm ps us, x = .ref a ∧ Ins h a dx 172 mo 8 ∧ mo (Str.ofString "adts") = some (.ref ad) ∧ 241 < ad ∧ Dct prog w h ad kvs ∧ valueAt kvs nm = some av ∧ AdtIs h av ps (W.vars t) ∧ AdtN t nm ps us := by
  obtain ⟨a, dx, mo, ad, il, aS, aE, aL, rv, rfl, WI1, e1, e2, la, WD', s1, s2, s3, WL, WR⟩ := I
  cases t <;> first | (exfalso; simp only [Ty.kind] at hk; revert hk; decide) | skip
  · exact ⟨a, dx, mo, ad, _, aS, Str.ofString "S", [], [], rfl, WI1, e1, la, WD', rfl, s1, rfl, .inl ⟨rfl, rfl, .inl rfl⟩⟩
  · exact ⟨a, dx, mo, ad, _, aL, Str.ofString "L", [], [], rfl, WI1, e1, la, WD', rfl, s3, rfl, .inl ⟨rfl, rfl, .inr rfl⟩⟩
  · exact ⟨a, dx, mo, ad, _, aE, Str.ofString "E", _, _, rfl, WI1, e1, la, WD', rfl, s2, rfl, .inr ⟨_, rfl, rfl, rfl⟩⟩
theorem rest_tuple {t : Ty} (hk : t.kind = Str.ofString "tuple") : t.rest = [.tuple ((parts t).map enc)] := by
  cases t <;> first | (exfalso; simp only [Ty.kind] at hk; revert hk; decide) | rfl
theorem rows_get {fs : List Ty} {i : Nat} {e : PyData} (h : (rowsOf fs)[i]? = some e) : ∃ f, fs[i]? = some f ∧ e = .tuple [.str (Str.ofString (toString i)), enc f] := by
  unfold rowsOf at h
  rw [List.getElem?_mapIdx] at h
  cases hf : fs[i]? with
  | none => rw [hf] at h; cases h
  | some f => rw [hf] at h; cases h; exact ⟨f, rfl, rfl⟩
theorem rows_len (fs : List Ty) : (rowsOf fs).length = fs.length := by simp [rowsOf]
/-- what fields_of tells of the variant k -/
def Ty.arg : Ty → Option Ty
  | .E u => some u
  | _ => none
def fieldsOf (W : WD) (t : Ty) (k : Nat) : List Ty :=
  if t.kind = Str.ofString "tuple" then parts t else ((W.vars t)[k]?.getD []).map (sub t.arg)
theorem fo1 {W : WD} {t : Ty} {k : Nat} (hk : t.kind = Str.ofString "array") : fieldsOf W t k = [] := by
  unfold fieldsOf; rw [if_neg (by rw [hk]; decide)]
  cases t <;> first | (exfalso; simp only [Ty.kind] at hk; revert hk; decide) | rfl
theorem fo2 {W : WD} {t : Ty} {k : Nat} (hk : t.kind ≠ Str.ofString "adt" ∧ t.kind ≠ Str.ofString "tuple" ∧ t.kind ≠ Str.ofString "array") : fieldsOf W t k = [] := by
  unfold fieldsOf; rw [if_neg hk.2.1]
  cases t <;> first | (exfalso; simp only [Ty.kind] at hk; revert hk; decide) | rfl
theorem vars_lt (W : WD) (t : Ty) : (W.vars t).length < 3 := by cases t <;> simp [WD.vars]

def plains : List Ty := [.int true, .bool, .ref true false (.pair .bool (.int false)), .ref true true .unit, .box .bool, .unit, .never]
def isBox : Ty → Bool
  | .box _ => true
  | _ => false
/-- W's own fields are plain -/
structure WOk (W : WD) : Prop where
  S : ∀ f ∈ W.S, f ∈ plains
  E : ∀ f ∈ W.E, f ∈ plains
  s3 : W.S.length ≤ 3
  e2 : W.E.length ≤ 2
/-- needs_drop's answer -/
def nd (W : WD) : Ty → Bool
  | .box _ | .prm _ | .L => true
  | .pair a b => nd W a || nd W b
  | .arr t => nd W t
  | .S => hasD W .S || W.S.any isBox
  | .E t => hasD W (.E t) || (nd W t || W.E.any isBox)
  | _ => false
def sz (W : WD) : Ty → Nat
  | .pair a b => 1 + (sz W a + sz W b)
  | .arr t => 1 + sz W t
  | .S => 1 + W.S.length
  | .E t => 1 + (sz W t + W.E.length)
  | .L => 2
  | _ => 1
def szs (W : WD) (l : List Ty) : Nat := (l.map (sz W)).sum
theorem sz_pos (W : WD) (t : Ty) : 1 ≤ sz W t := by cases t <;> simp [sz] <;> omega
theorem szs_app (W : WD) (a b : List Ty) : szs W (a ++ b) = szs W a + szs W b := by simp [szs]
theorem sz_le {W : WD} (ok : WOk W) (t : Ty) : sz W t + 1 ≤ 5 * 2 ^ t.dep := by
  have e := ok.e2
  have s := ok.s3
  induction t with
  | pair a b iha ihb =>
    simp only [sz, Ty.dep]
    have h1 : 2 ^ a.dep ≤ 2 ^ (max a.dep b.dep) := Nat.pow_le_pow_right (by decide) (Nat.le_max_left ..)
    have h2 : 2 ^ b.dep ≤ 2 ^ (max a.dep b.dep) := Nat.pow_le_pow_right (by decide) (Nat.le_max_right ..)
    rw [Nat.pow_succ]; omega
  | arr t ih => simp only [sz, Ty.dep]; rw [Nat.pow_succ]; omega
  | E t ih => simp only [sz, Ty.dep]; rw [Nat.pow_succ]; have := Nat.one_le_two_pow (n := t.dep); omega
  | S => simp only [sz, Ty.dep]; omega
  | L => simp [sz, Ty.dep]
  | box t ih => simp only [sz]; have := Nat.one_le_two_pow (n := (Ty.box t).dep); omega
  | ref r m t ih => simp only [sz]; have := Nat.one_le_two_pow (n := (Ty.ref r m t).dep); omega
  | _ => simp [sz, Ty.dep]
theorem plain_nd {W : WD} {f : Ty} (h : f ∈ plains) : nd W f = isBox f ∧ sz W f = 1 ∧ (∀ ou, sub ou f = f) ∧ f.dep ≤ 2 ∧ regs false f = true := by
  simp only [plains, List.mem_cons, List.not_mem_nil, or_false] at h
  rcases h with rfl | rfl | rfl | rfl | rfl | rfl | rfl <;> exact ⟨rfl, rfl, fun _ => rfl, by decide, rfl⟩
theorem plains_sub {l : List Ty} (h : ∀ f ∈ l, f ∈ plains) (ou : Option Ty) : l.map (sub ou) = l := by
  induction l with
  | nil => rfl
  | cons a r ih => simp [(plain_nd (W := ⟨[], [], []⟩) (h a (.head _))).2.2.1 ou, ih fun f hf => h f (.tail _ hf)]
theorem plains_szs {W : WD} {l : List Ty} (h : ∀ f ∈ l, f ∈ plains) : szs W l = l.length := by
  induction l with
  | nil => rfl
  | cons a r ih =>
    have := ih fun f hf => h f (.tail _ hf)
    simp only [szs, List.map_cons, List.sum_cons, List.length_cons] at this ⊢
    rw [(plain_nd (h a (.head _))).2.1, this]; omega
theorem plains_any {W : WD} {l : List Ty} (h : ∀ f ∈ l, f ∈ plains) : l.any (nd W) = l.any isBox := by
  induction l with
  | nil => rfl
  | cons a r ih => simp [(plain_nd (W := W) (h a (.head _))).1, ih fun f hf => h f (.tail _ hf)]
/-- all fields of t -/
def flds (W : WD) (t : Ty) (n : Nat) : List Ty := (List.range n).flatMap (fieldsOf W t)
theorem flds_succ (W : WD) (t : Ty) (n : Nat) : flds W t (n + 1) = flds W t n ++ fieldsOf W t n := by simp [flds, List.range_succ]
theorem flds_all {W : WD} (ok : WOk W) {t : Ty} (hk : t.kind = Str.ofString "adt") : (flds W t (W.vars t).length).any (nd W) = (match t with | .S => W.S.any isBox | .E u => nd W u || W.E.any isBox | _ => true) ∧
    szs W (flds W t (W.vars t).length) + 1 ≤ sz W t ∧ ∀ f ∈ flds W t (W.vars t).length, f.dep ≤ max 2 t.dep := by
  cases t <;> first | (exfalso; simp only [Ty.kind] at hk; revert hk; decide) | skip
  · have e : flds W .S (W.vars .S).length = W.S := by
      show flds W .S 1 = _
      rw [flds_succ]
      show [] ++ (W.S.map (sub none)) = W.S
      rw [plains_sub ok.S]; rfl
    rw [e]
    refine ⟨plains_any ok.S, by rw [plains_szs ok.S]; simp [sz]; omega, fun f hf => by have := (plain_nd (W := W) (ok.S f hf)).2.2.2.1; omega⟩
  · have e : flds W .L (W.vars .L).length = [.box .L] := rfl
    rw [e]
    exact ⟨rfl, by simp [szs, sz], by simp [Ty.dep]⟩
  · rename_i u
    have e : flds W (.E u) (W.vars (.E u)).length = u :: W.E := by
      show flds W (.E u) 2 = _
      rw [flds_succ, flds_succ]
      show ([] ++ [u]) ++ (W.E.map (sub (some u))) = _
      rw [plains_sub ok.E]; rfl
    rw [e]
    refine ⟨by simp [plains_any ok.E], ?_, ?_⟩
    · have := plains_szs (W := W) ok.E
      simp only [szs, List.map_cons, List.sum_cons] at this ⊢
      simp only [sz]; omega
    · intro f hf
      rcases List.mem_cons.mp hf with rfl | hf
      · simp only [Ty.dep]; omega
      · have := (plain_nd (W := W) (ok.E f hf)).2.2.2.1; omega
theorem nd_adt {W : WD} (ok : WOk W) {t : Ty} (hk : t.kind = Str.ofString "adt") : nd W t = (hasD W t || (flds W t (W.vars t).length).any (nd W)) := by
  rw [(flds_all ok hk).1]
  cases t <;> first | (exfalso; simp only [Ty.kind] at hk; revert hk; decide) | skip
  · rfl
  · simp [nd]
  · rfl

/-- the walk's state: what is left, what was seen -/
structure NInv (W : WD) (t0 : Ty) (l seen : List Ty) : Prop where
  snd : ∀ u ∈ l, nd W u = true → nd W t0 = true
  cpl : nd W t0 = true → ∃ u ∈ l, nd W u = true
  sn : ∀ s ∈ seen, nd W s = true → ∃ u ∈ l, nd W u = true ∧ sz W u < sz W s
  dep : ∀ u ∈ l, u.dep ≤ 10
  deps : ∀ u ∈ seen, u.dep ≤ 10
  size : szs W l + seen.length ≤ 400
theorem NInv.init {W : WD} {t : Ty} (h : t.dep ≤ 10) (hs : sz W t ≤ 400) : NInv W t [t] [] :=
  ⟨fun u hu h => by rw [List.mem_singleton.mp hu] at h; exact h, fun h => ⟨t, .head _, h⟩, fun _ h => (nomatch h), fun u hu => by rw [List.mem_singleton.mp hu]; exact h, fun _ h => (nomatch h), by simp [szs]; exact hs⟩
theorem NInv.len {W : WD} {t0 : Ty} {l seen : List Ty} (I : NInv W t0 l seen) : l.length + seen.length ≤ 400 := by
  have : ∀ l : List Ty, l.length ≤ szs W l := fun l => by
    induction l with
    | nil => exact Nat.le_refl _
    | cons a r ih => have := sz_pos W a; simp only [szs, List.map_cons, List.sum_cons, List.length_cons] at ih ⊢; omega
  have := this l; have := I.size; omega
/-- one is taken, what it holds is put -/
theorem NInv.put {W : WD} {t0 x : Ty} {l seen us : List Ty} (I : NInv W t0 (l ++ [x]) seen) (hn : nd W x = us.any (nd W)) (hz : szs W us + 1 ≤ sz W x) (hd : ∀ u ∈ us, u.dep ≤ 10) : NInv W t0 (l ++ us) seen := by
  have lt : ∀ u ∈ us, sz W u < sz W x := fun u hu => by
    have : ∀ us : List Ty, u ∈ us → sz W u ≤ szs W us := fun us => by
      induction us with
      | nil => intro h; cases h
      | cons a r ih =>
        intro h
        simp only [szs, List.map_cons, List.sum_cons] at ih ⊢
        rcases List.mem_cons.mp h with rfl | h
        · omega
        · have := ih h; omega
    have := this us hu; omega
  have rep : ∀ n, (∃ u ∈ l ++ [x], nd W u = true ∧ sz W u < n) → ∃ u ∈ l ++ us, nd W u = true ∧ sz W u < n := by
    rintro n ⟨u, hu, h1, h2⟩
    rcases List.mem_append.mp hu with hu | hu
    · exact ⟨u, List.mem_append_left _ hu, h1, h2⟩
    · rw [List.mem_singleton.mp hu] at h1 h2
      rw [hn, List.any_eq_true] at h1
      obtain ⟨v, hv, h1⟩ := h1
      exact ⟨v, List.mem_append_right _ hv, h1, Nat.lt_trans (lt v hv) h2⟩
  refine ⟨?_, ?_, fun s hs h => rep _ (I.sn s hs h), ?_, I.deps, ?_⟩
  · intro u hu h
    rcases List.mem_append.mp hu with hu | hu
    · exact I.snd u (List.mem_append_left _ hu) h
    · exact I.snd x (List.mem_append_right _ (.head _)) (by rw [hn, List.any_eq_true]; exact ⟨u, hu, h⟩)
  · intro h
    obtain ⟨u, hu, h1⟩ := I.cpl h
    obtain ⟨v, hv, h2, _⟩ := rep (sz W u + 1) ⟨u, hu, h1, Nat.lt_succ_self _⟩
    exact ⟨v, hv, h2⟩
  · intro u hu
    rcases List.mem_append.mp hu with hu | hu
    · exact I.dep u (List.mem_append_left _ hu)
    · exact hd u hu
  · have := I.size
    rw [szs_app] at this ⊢
    have e : szs W [x] = sz W x := by simp [szs]
    omega
theorem NInv.old {W : WD} {t0 x : Ty} {l seen : List Ty} (I : NInv W t0 (l ++ [x]) seen) (hx : x ∈ seen) : NInv W t0 l seen := by
  have rep : ∀ n, (∃ u ∈ l ++ [x], nd W u = true ∧ sz W u < n) → ∃ u ∈ l, nd W u = true ∧ sz W u < n := by
    rintro n ⟨u, hu, h1, h2⟩
    rcases List.mem_append.mp hu with hu | hu
    · exact ⟨u, hu, h1, h2⟩
    · rw [List.mem_singleton.mp hu] at h1 h2
      obtain ⟨v, hv, h3, h4⟩ := I.sn x hx h1
      rcases List.mem_append.mp hv with hv | hv
      · exact ⟨v, hv, h3, Nat.lt_trans h4 h2⟩
      · rw [List.mem_singleton.mp hv] at h4; exact absurd h4 (Nat.lt_irrefl _)
  refine ⟨fun u hu => I.snd u (List.mem_append_left _ hu), ?_, fun s hs h => rep _ (I.sn s hs h), fun u hu => I.dep u (List.mem_append_left _ hu), I.deps, ?_⟩
  · intro h
    obtain ⟨u, hu, h1⟩ := I.cpl h
    obtain ⟨v, hv, h2, _⟩ := rep (sz W u + 1) ⟨u, hu, h1, Nat.lt_succ_self _⟩
    exact ⟨v, hv, h2⟩
  · have := I.size
    rw [szs_app] at this; omega
theorem NInv.new {W : WD} {t0 x : Ty} {l seen us : List Ty} (I : NInv W t0 (l ++ [x]) seen) (hn : nd W x = us.any (nd W)) (hz : szs W us + 1 ≤ sz W x) (hd : ∀ u ∈ us, u.dep ≤ 10) : NInv W t0 (l ++ us) (seen ++ [x]) := by
  have J := I.put hn hz hd
  refine ⟨J.snd, J.cpl, ?_, J.dep, ?_, ?_⟩
  · intro s hs h
    rcases List.mem_append.mp hs with hs | hs
    · exact J.sn s hs h
    · rw [List.mem_singleton.mp hs] at h ⊢
      rw [hn, List.any_eq_true] at h
      obtain ⟨v, hv, h1⟩ := h
      refine ⟨v, List.mem_append_right _ hv, h1, ?_⟩
      have : ∀ us : List Ty, v ∈ us → sz W v ≤ szs W us := fun us => by
        induction us with
        | nil => intro h; cases h
        | cons a r ih =>
          intro h
          simp only [szs, List.map_cons, List.sum_cons] at ih ⊢
          rcases List.mem_cons.mp h with rfl | h
          · omega
          · have := ih h; omega
      have := this us hv; omega
  · intro u hu
    rcases List.mem_append.mp hu with hu | hu
    · exact I.deps u hu
    · rw [List.mem_singleton.mp hu]; exact I.dep x (List.mem_append_right _ (.head _))
  · have := I.size
    rw [szs_app] at this ⊢
    have e : szs W [x] = sz W x := by simp [szs]
    simp only [List.length_append, List.length_singleton]; omega
theorem NInv.end {W : WD} {t0 : Ty} {seen : List Ty} (I : NInv W t0 [] seen) : nd W t0 = false := by
  cases h : nd W t0 with
  | false => rfl
  | true => obtain ⟨u, hu, _⟩ := I.cpl h; cases hu
theorem eqv_ts {x y : Str} {xs ys : List PyData} (h : PyData.eqv (.tuple (.str x :: xs)) (.tuple (.str y :: ys)) = true) : x = y ∧ PyData.eqvAll xs ys = true := by
  simp only [PyData.eqv, PyData.eqvAll, Bool.and_eq_true, beq_iff_eq] at h; exact h
theorem eqv_enc : ∀ {a b : Ty}, PyData.eqv (enc a) (enc b) = true → a = b := by
  intro a
  induction a <;> intro b h <;> rw [enc_eq, enc_eq b] at h <;> obtain ⟨hk, hr⟩ := eqv_ts h <;> clear h <;> cases b <;> first | (exfalso; simp only [Ty.kind] at hk; revert hk; decide) | (clear hk; simp only [Ty.rest, PyData.eqvAll, PyData.eqv, Bool.and_eq_true, Bool.true_and, Bool.and_true, Bool.false_and, Bool.and_false, Bool.false_eq_true] at hr)
  case int.int b c => cases b <;> cases c <;> first | rfl | (exfalso; revert hr; decide)
  case pair.pair ia ib c d => rw [ia hr.1, ib hr.2]
  case ref.ref r m t ih r' m' t' =>
    have e1 : r = r' := by
      have := hr.1
      cases r <;> cases r' <;> first | rfl | (exfalso; simp [reg, PyData.eqv] at this)
    rw [e1, beq_iff_eq.mp hr.2.1, ih hr.2.2]
  case box.box ih _ => rw [ih hr]
  case arr.arr ih _ => rw [ih hr.1]
  case prm.prm p q => cases p <;> cases q <;> first | rfl | (exfalso; revert hr; decide)
  case E.E ih _ => rw [ih hr.2]
  all_goals first | rfl | (exfalso; revert hr; decide)
theorem vars_ok {W : WD} (ok : WOk W) {t : Ty} {k : Nat} {fs : List Ty} (h : (W.vars t)[k]? = some fs) : fs.length ≤ 3 ∧ k < 2 ∧ ∀ f ∈ fs, f.dep ≤ 10 ∧ regs false f = true := by
  have pl : ∀ {l : List Ty}, (∀ f ∈ l, f ∈ plains) → ∀ f ∈ l, f.dep ≤ 10 ∧ regs false f = true := fun hl f hf => by
    have := (plain_nd (W := W) (hl f hf)).2.2.2; exact ⟨by omega, this.2⟩
  cases t <;> simp only [WD.vars, List.getElem?_nil] at h <;> first | (cases h; done) | skip
  · match k, h with
    | 0, h => cases h; exact ⟨ok.s3, by decide, pl ok.S⟩
    | k + 1, h => simp at h
  · match k, h with
    | 0, h => cases h; exact ⟨by decide, by decide, fun _ q => nomatch q⟩
    | 1, h => cases h; exact ⟨by decide, by decide, by decide⟩
    | k + 2, h => simp at h
  · match k, h with
    | 0, h => cases h; exact ⟨by decide, by decide, by decide⟩
    | 1, h => cases h; exact ⟨Nat.le_succ_of_le ok.e2, by decide, pl ok.E⟩
    | k + 2, h => simp at h
theorem nd_kind {W : WD} {x : Ty} (h : x.kind = Str.ofString "box" ∨ x.kind = Str.ofString "param") : nd W x = true := by
  cases x <;> first | rfl | (exfalso; simp only [Ty.kind] at h; revert h; decide)
theorem nd_parts {W : WD} {x : Ty} (h : x.kind = Str.ofString "tuple" ∨ x.kind = Str.ofString "array") : nd W x = (parts x).any (nd W) ∧ szs W (parts x) + 1 ≤ sz W x := by
  cases x <;> first | (exfalso; simp only [Ty.kind] at h; revert h; decide) | skip
  · exact ⟨rfl, by simp [parts, szs, sz]⟩
  · exact ⟨by simp [nd, parts], by simp [parts, szs, sz]; omega⟩
  · exact ⟨by simp [nd, parts], by simp [parts, szs, sz]; omega⟩
theorem nd_none {W : WD} {x : Ty} (h : x.kind = Str.ofString "int" ∨ x.kind = Str.ofString "bool" ∨ x.kind = Str.ofString "never" ∨ x.kind = Str.ofString "ref") : nd W x = ([] : List Ty).any (nd W) := by
  cases x <;> first | rfl | (exfalso; simp only [Ty.kind] at h; revert h; decide)
theorem NInv.drop {W : WD} {t0 x : Ty} {l seen : List Ty} (I : NInv W t0 (l ++ [x]) seen) (h : x.kind = Str.ofString "int" ∨ x.kind = Str.ofString "bool" ∨ x.kind = Str.ofString "never" ∨ x.kind = Str.ofString "ref") : NInv W t0 l seen := by
  have := I.put (nd_none h) (by simp [szs]; exact sz_pos W x) (fun _ q => nomatch q)
  simpa using this
theorem szs_lt {W : WD} {x : Ty} (l us : List Ty) (h : szs W us + 1 ≤ sz W x) : szs W (l ++ us) < szs W (l ++ [x]) := by
  rw [szs_app, szs_app]
  have e : szs W [x] = sz W x := by simp [szs]
  omega
theorem szs_lt0 {W : WD} {x : Ty} (l : List Ty) : szs W l < szs W (l ++ [x]) := by
  rw [szs_app]
  have e : szs W [x] = sz W x := by simp [szs]
  have := sz_pos W x
  omega

/-- what the law drew -/
structure OD where
  S : List Ty
  E : List Ty
  cS : Bool
  cE : Bool
  dS : Bool
  dE : Bool
  ask : Bool
  yb : Bool
def OD.rows (o : OD) : List ImpD := (if o.cS then [⟨true, false, o.ask⟩] else []) ++ (if o.cE then [⟨true, true, o.ask⟩] else []) ++ (if o.dS then [⟨false, false, false⟩] else []) ++ (if o.dE then [⟨false, true, false⟩] else [])
def OD.W (o : OD) : WD := ⟨o.S, o.E, o.rows⟩
def names (a b : Bool) : List PyData := (if a then [sty "S"] else []) ++ (if b then [sty "E"] else [])
inductive OwnIs (prog : Program) (w : World) (h : Heap) (ov : Value) (o : OD) : Prop where
  | mk (od fl el cl dl : Addr) (bd : Value) (fv ev cv dv : List Value) : ov = .ref od →
    241 < od →
    Dct prog w h od [(Str.ofString "S", .ref fl), (Str.ofString "E", .ref el), (Str.ofString "copied", .ref cl), (Str.ofString "dropped", .ref dl), (Str.ofString "asks", .bool o.ask), (Str.ofString "bounds", bd)] →
    h.IsList fl fv.toArray →
    XTs h fv (o.S.map enc) →
    h.IsList el ev.toArray →
    XTs h ev (o.E.map enc) →
    h.IsList cl cv.toArray →
    XTs h cv (names o.cS o.cE) →
    h.IsList dl dv.toArray →
    XTs h dv (names o.dS o.dE) →
    BoundsIs prog w h bd o.yb → OwnIs prog w h ov o
theorem OwnIs.up {prog : Program} {w : World} {mg mb : Str → Option Value} {h h' : Heap} {ov : Value} {o : OD} (G : Gd w mg mb h) (st : Step w mg mb [] h h') (x : OwnIs prog w h ov o) : OwnIs prog w h' ov o :=
  let ⟨od, fl, el, cl, dl, bd, fv, ev, cv, dv, e, l, D, l1, x1, l2, x2, l3, x3, l4, x4, B⟩ := x
  ⟨od, fl, el, cl, dl, bd, fv, ev, cv, dv, e, l, D.up G st (by simp), IsList.up G st l1 (by simp), x1.up st, IsList.up G st l2 (by simp), x2.up st, IsList.up G st l3 (by simp), x3.up st, IsList.up G st l4 (by simp), x4.up st, B.up G st⟩
/-- names up to i -/
def nmOf (i : Nat) : PyData := if i = 0 then sty "S" else sty "E"
def nm (i : Nat) (c : Nat → Bool) : List PyData := ((List.range i).filter c).map nmOf
theorem nm_succ (i : Nat) (c : Nat → Bool) (b : Bool) : nm (i + 1) (fun j => if j = i then b else c j) = nm i c ++ (if b then [nmOf i] else []) := by
  unfold nm
  rw [List.range_succ, List.filter_append, List.map_append]
  congr 1
  · congr 1
    apply List.filter_congr
    intro j hj
    have := List.mem_range.mp hj
    rw [if_neg (by omega)]
  · cases b <;> simp
theorem nm_two (c : Nat → Bool) : nm 2 c = names (c 0) (c 1) := by
  unfold nm names
  have e : List.range 2 = [0, 1] := rfl
  rw [e]
  cases h0 : c 0 <;> cases h1 : c 1 <;> simp [h0, h1, nmOf]
theorem os_plain {os' : List (Option PyData)} (hR : ∀ (i : Nat) (o : Option PyData), os'[i]? = some o → ∃ f ∈ plains, o = some (enc f)) : ∃ fs : List Ty, fs.length = os'.length ∧ (∀ f ∈ fs, f ∈ plains) ∧ os'.filterMap id = fs.map enc := by
  induction os' with
  | nil => exact ⟨[], rfl, (fun _ q => nomatch q), rfl⟩
  | cons o r ih =>
    obtain ⟨f, hf, rfl⟩ := hR 0 o rfl
    obtain ⟨fs, e1, e2, e3⟩ := ih fun i o h => hR (i + 1) o (by simpa using h)
    refine ⟨f :: fs, by simp [e1], fun x hx => ?_, by simpa using e3⟩
    rcases List.mem_cons.mp hx with rfl | hx
    · exact hf
    · exact e2 x hx
theorem nm_len (i : Nat) (c : Nat → Bool) : (nm i c).length ≤ i := by
  unfold nm
  rw [List.length_map]
  exact Nat.le_trans (List.length_filter_le _ _) (by simp)
theorem nm_put {h : Heap} {i : Nat} {c : Nat → Bool} {cv : List Value} {b : Bool} {x : Str} {t : Tok} (xc : XTs h cv (nm i c)) (e : nmOf i = .str x) : XTs h (cv ++ if b then [.str x t] else []) (nm (i + 1) fun j => if j = i then b else c j) := by
  rw [nm_succ, e]
  refine XTs.app xc ?_
  cases b with
  | true => exact XTs.cons (Reads.str _ _) XTs.nil
  | false => exact XTs.nil

section
variable (X : List Addr) (h : Heap)
inductive ImpIsX (x : Value) (i : ImpD) : Prop where
  | mk (a dx : Addr) (mo : Str → Option Value) (tv sv : Value) (pl : Addr) (vs : List Value) : x = .ref a →
    Ins h a dx 143 mo 8 →
    mo (Str.ofString "trait") = some tv →
    XT h tv (if i.cp then sty "Copy" else sty "Drop") →
    mo (Str.ofString "self_type") = some sv →
    XT h sv (enc i.self) →
    mo (Str.ofString "params") = some (.ref pl) →
    h.IsList pl (vs : List Value).toArray →
    XTs h vs i.params →
    a ∉ X →
    dx ∉ X →
    pl ∉ X → ImpIsX x i
inductive VarIsX (v : Value) (fs : List Ty) : Prop where
  | mk (t : Addr) (a b : Value) (l : Addr) (rs : List Value) : v = .ref t →
    IsTup h t #[a, b, .ref l] →
    h.IsList l (rs : List Value).toArray →
    XTs h rs (rowsOf fs) →
    l ∉ X → VarIsX v fs
def VarsAreX : List Value → List (List Ty) → Prop
  | [], [] => True
  | v :: vs, f :: fs => VarIsX X h v f ∧ VarsAreX vs fs
  | _, _ => False
inductive AdtIsX (x : Value) (ps : List PyData) (vars : List (List Ty)) : Prop where
  | mk (a dx : Addr) (mo : Str → Option Value) (rv pv : Value) (vl : Addr) (vv : List Value) : x = .ref a →
    Ins h a dx 121 mo 7 →
    mo (Str.ofString "regions") = some rv →
    XT h rv (.tuple []) →
    mo (Str.ofString "params") = some pv →
    XT h pv (.tuple ps) →
    mo (Str.ofString "variants") = some (.ref vl) →
    h.IsList vl (vv : List Value).toArray →
    VarsAreX X h vv vars →
    a ∉ X →
    dx ∉ X →
    vl ∉ X → AdtIsX x ps vars
def ImpsAreX : List Value → List ImpD → Prop
  | [], [] => True
  | v :: vs, i :: is => ImpIsX X h v i ∧ ImpsAreX vs is
  | _, _ => False
end
section
variable {prog : Program} {w : World} {mg mb : Str → Option Value} {h h' : Heap} {X L : List Addr}
theorem off_of {a : Addr} (hL : ∀ b ∈ L, b ∈ X) (ha : a ∉ X) : a ∉ L := fun q => ha (hL _ q)
theorem ImpIsX.up (G : Gd w mg mb h) (st : Step w mg mb L h h') (hL : ∀ b ∈ L, b ∈ X) {x : Value} {i : ImpD} (I : ImpIsX X h x i) : ImpIsX X h' x i :=
  let ⟨a, dx, mo, tv, sv, pl, vs, e, i1, e1, x1, e2, x2, e3, l, x3, a1, a2, a3⟩ := I
  ⟨a, dx, mo, tv, sv, pl, vs, e, i1.up st (off_of hL a1) (off_of hL a2), e1, x1.up st, e2, x2.up st, e3, IsList.up G st l (off_of hL a3), x3.up st, a1, a2, a3⟩
theorem VarIsX.up (G : Gd w mg mb h) (st : Step w mg mb L h h') (hL : ∀ b ∈ L, b ∈ X) {x : Value} {f : List Ty} (I : VarIsX X h x f) : VarIsX X h' x f :=
  let ⟨t, a, b, l, rs, e, t1, l1, x1, a1⟩ := I
  ⟨t, a, b, l, rs, e, IsTup.up st t1, IsList.up G st l1 (off_of hL a1), x1.up st, a1⟩
theorem VarsAreX.up (G : Gd w mg mb h) (st : Step w mg mb L h h') (hL : ∀ b ∈ L, b ∈ X) : ∀ {vs : List Value} {fs : List (List Ty)}, VarsAreX X h vs fs → VarsAreX X h' vs fs
  | [], [], _ => trivial
  | [], _ :: _, I => I.elim
  | _ :: _, [], I => I.elim
  | v :: vs, f :: fs, I => ⟨VarIsX.up G st hL I.1, VarsAreX.up G st hL I.2⟩
theorem ImpsAreX.up (G : Gd w mg mb h) (st : Step w mg mb L h h') (hL : ∀ b ∈ L, b ∈ X) : ∀ {vs : List Value} {is : List ImpD}, ImpsAreX X h vs is → ImpsAreX X h' vs is
  | [], [], _ => trivial
  | [], _ :: _, I => I.elim
  | _ :: _, [], I => I.elim
  | v :: vs, i :: is, I => ⟨ImpIsX.up G st hL I.1, ImpsAreX.up G st hL I.2⟩
theorem AdtIsX.up (G : Gd w mg mb h) (st : Step w mg mb L h h') (hL : ∀ b ∈ L, b ∈ X) {x : Value} {ps : List PyData} {vars : List (List Ty)} (I : AdtIsX X h x ps vars) : AdtIsX X h' x ps vars :=
  let ⟨a, dx, mo, rv, pv, vl, vv, e, i1, e1, x1, e2, x2, e3, l, v, a1, a2, a3⟩ := I
  ⟨a, dx, mo, rv, pv, vl, vv, e, i1.up st (off_of hL a1) (off_of hL a2), e1, x1.up st, e2, x2.up st, e3, IsList.up G st l (off_of hL a3), v.up G st hL, a1, a2, a3⟩
theorem VarsAreX.is : ∀ {vs : List Value} {fs : List (List Ty)}, VarsAreX X h vs fs → VarsAre h vs fs
  | [], [], _ => trivial
  | [], _ :: _, I => I.elim
  | _ :: _, [], I => I.elim
  | v :: vs, f :: fs, I => ⟨let ⟨t, a, b, l, rs, e, t1, l1, x1, _⟩ := I.1; ⟨t, a, b, l, rs, e, t1, l1, x1⟩, VarsAreX.is I.2⟩
theorem ImpsAreX.is : ∀ {vs : List Value} {is : List ImpD}, ImpsAreX X h vs is → ImpsAre h vs is
  | [], [], _ => trivial
  | [], _ :: _, I => I.elim
  | _ :: _, [], I => I.elim
  | v :: vs, i :: is, I => ⟨let ⟨a, dx, mo, tv, sv, pl, vs, e, i1, e1, x1, e2, x2, e3, l, x3, _, _, _⟩ := I.1; ⟨a, dx, mo, tv, sv, pl, vs, e, i1, e1, x1, e2, x2, e3, l, x3⟩, ImpsAreX.is I.2⟩
theorem AdtIsX.is {x : Value} {ps : List PyData} {vars : List (List Ty)} (I : AdtIsX X h x ps vars) : AdtIs h x ps vars :=
  let ⟨a, dx, mo, rv, pv, vl, vv, e, i1, e1, x1, e2, x2, e3, l, v, _, _, _⟩ := I
  ⟨a, dx, mo, rv, pv, vl, vv, e, i1, e1, x1, e2, x2, e3, l, v.is⟩
theorem ImpsAreX.snoc : ∀ {vs : List Value} {is : List ImpD} {v : Value} {i : ImpD}, ImpsAreX X h vs is → ImpIsX X h v i → ImpsAreX X h (vs ++ [v]) (is ++ [i])
  | [], [], _, _, _, x => ⟨x, trivial⟩
  | [], _ :: _, _, _, I, _ => I.elim
  | _ :: _, [], _, _, I, _ => I.elim
  | v :: vs, i :: is, _, _, I, x => ⟨I.1, ImpsAreX.snoc I.2 x⟩
theorem ImpsAreX.len {vs : List Value} {is : List ImpD} (I : ImpsAreX X h vs is) : vs.length = is.length := I.is.len
end
/-- the rows of a trait, by the names -/
def flags (a b : Bool) : List Bool := (if a then [false] else []) ++ (if b then [true] else [])
def impOf (cp ask e : Bool) : ImpD := ⟨cp, e, cp && ask⟩
theorem names_flags (a b : Bool) : names a b = (flags a b).map fun e => if e then sty "E" else sty "S" := by cases a <;> cases b <;> rfl
theorem rows_flags (o : OD) : o.rows = (flags o.cS o.cE).map (impOf true o.ask) ++ (flags o.dS o.dE).map (impOf false o.ask) := by
  obtain ⟨S, E, cS, cE, dS, dE, ask, yb⟩ := o
  cases cS <;> cases cE <;> cases dS <;> cases dE <;> rfl
theorem flags_len (a b : Bool) : (flags a b).length ≤ 2 := by cases a <;> cases b <;> decide
theorem take_snoc {α : Type} {l : List α} {j : Nat} {x : α} (h : l[j]? = some x) : l.take (j + 1) = l.take j ++ [x] := by
  rw [List.take_add_one, h]; rfl

/-- lists of rows, apart from X -/
def RowsAre (X : List Addr) (h : Heap) : List Value → List (List Ty) → Prop
  | [], [] => True
  | v :: vs, f :: fs => (∃ l rs, v = .ref l ∧ h.IsList l (rs : List Value).toArray ∧ XTs h rs (rowsOf f) ∧ l ∉ X) ∧ RowsAre X h vs fs
  | _, _ => False
section
variable {w : World} {mg mb : Str → Option Value} {h h' : Heap} {X L : List Addr}
theorem RowsAre.up (G : Gd w mg mb h) (st : Step w mg mb L h h') (hL : ∀ b ∈ L, b ∈ X) : ∀ {vs : List Value} {fs : List (List Ty)}, RowsAre X h vs fs → RowsAre X h' vs fs
  | [], [], _ => trivial
  | [], _ :: _, I => I.elim
  | _ :: _, [], I => I.elim
  | v :: vs, f :: fs, I => ⟨let ⟨l, rs, e, l1, x1, n⟩ := I.1; ⟨l, rs, e, IsList.up G st l1 (off_of hL n), x1.up st, n⟩, RowsAre.up G st hL I.2⟩
theorem RowsAre.snoc : ∀ {vs : List Value} {fs : List (List Ty)} {l : Addr} {rs : List Value} {f : List Ty}, RowsAre X h vs fs → h.IsList l rs.toArray → XTs h rs (rowsOf f) → l ∉ X → RowsAre X h (vs ++ [.ref l]) (fs ++ [f])
  | [], [], l, rs, f, _, a, b, c => ⟨⟨l, rs, rfl, a, b, c⟩, trivial⟩
  | [], _ :: _, _, _, _, I, _, _, _ => I.elim
  | _ :: _, [], _, _, _, I, _, _, _ => I.elim
  | v :: vs, f :: fs, _, _, _, I, a, b, c => ⟨I.1, RowsAre.snoc I.2 a b c⟩
theorem RowsAre.mono {X' : List Addr} (hX : ∀ a ∈ X', a ∈ X) : ∀ {vs : List Value} {fs : List (List Ty)}, RowsAre X h vs fs → RowsAre X' h vs fs
  | [], [], _ => trivial
  | [], _ :: _, I => I.elim
  | _ :: _, [], I => I.elim
  | v :: vs, f :: fs, I => ⟨let ⟨l, rs, e, l1, x1, n⟩ := I.1; ⟨l, rs, e, l1, x1, fun q => n (hX _ q)⟩, RowsAre.mono hX I.2⟩
theorem new_off {X : List Addr} {a : Addr} (hX : ∀ b ∈ X, ∃ o, h.get? b = some o) (ha : h.get? a = none) : a ∉ X := fun q => by
  obtain ⟨o, e⟩ := hX a q
  rw [ha] at e; cases e
theorem there_up {X : List Addr} (G : Gd w mg mb h) (st : Step w mg mb [] h h') (hX : ∀ b ∈ X, b ≠ 87 ∧ ∃ o, h.get? b = some o) : ∀ b ∈ X, b ≠ 87 ∧ ∃ o, h'.get? b = some o := fun b q => by
  obtain ⟨h1, o, e⟩ := hX b q
  exact ⟨h1, o, st.keep b o h1 (fun q => nomatch q) e⟩
theorem new87 (G : Gd w mg mb h) {a : Addr} (e : h.get? a = none) : a ≠ 87 := by
  rintro rfl
  rcases G.tab with q | ⟨_, _, _, q, _⟩ <;> (rw [q] at e; cases e)
theorem RowsAre.two {ys : List Value} {f0 f1 : List Ty} (R : RowsAre X h ys [f0, f1]) : ∃ r0 r1, ∃ rs0 rs1 : List Value, ys = [.ref r0, .ref r1] ∧ h.IsList r0 rs0.toArray ∧ XTs h rs0 (rowsOf f0) ∧ r0 ∉ X ∧ h.IsList r1 rs1.toArray ∧ XTs h rs1 (rowsOf f1) ∧ r1 ∉ X := by
  cases ys with
  | nil => exact R.elim
  | cons a ys =>
    obtain ⟨⟨r0, rs0, rfl, a0, b0, c0⟩, R⟩ := R
    cases ys with
    | nil => exact R.elim
    | cons b ys =>
      obtain ⟨⟨r1, rs1, rfl, a1, b1, c1⟩, R⟩ := R
      cases ys with
      | nil => exact ⟨r0, r1, rs0, rs1, rfl, a0, b0, c0, a1, b1, c1⟩
      | cons _ _ => exact R.elim
end
section
variable {prog : Program} {w : World} {mg mb : Str → Option Value} {hE h : Heap} {env : Env} {m cm : Str → Option Value} {wr : List Addr}
theorem there3 (F : Fm w mg mb wr hE env m cm h) {ad il : Addr} {kvs : List (Str × Value)} {its : Array Value} (D : Dct prog w h ad kvs) (P : h.PlainList il its) (la : 241 < ad) (li : 241 < il) : ∀ b ∈ [env.locals, ad, il], b ≠ 87 ∧ ∃ o, h.get? b = some o := by
  intro b hb
  simp only [List.mem_cons, List.not_mem_nil, or_false] at hb
  rcases hb with rfl | rfl | rfl
  · obtain ⟨o, _, _, e, _⟩ := F.ns
    exact ⟨ne87 F.lo, o, e⟩
  · exact ⟨ne87 la, D.there⟩
  · obtain ⟨n, e⟩ := P
    exact ⟨ne87 li, _, e⟩
end
section
variable {prog : Program} {w : World} {mg mb : Str → Option Value} {h h' : Heap} {X L : List Addr}
theorem Ins.its {x dx C : Addr} {mo : Str → Option Value} {k : Nat} (st : Step w mg mb L h h') (I : Ins h x dx C mo k) (hL : ∀ a ∈ L, ∃ o, h.get? a = some o ∧ Itr o) : Ins h' x dx C mo k := by
  refine I.up st (fun q => ?_) fun q => ?_
  · obtain ⟨o, e, ⟨T, hc, hT⟩, _⟩ := hL _ q
    rw [I.ox] at e; cases e; cases hc
  · obtain ⟨o, e, ⟨T, hc, hT⟩, _⟩ := hL _ q
    obtain ⟨es, n, e2, _⟩ := I.od
    rw [e2] at e; cases e; cases hc; revert hT; decide
theorem IsList.its (G : Gd w mg mb h) (st : Step w mg mb L h h') {l : Addr} {its : Array Value} (x : h.IsList l its) (hL : ∀ a ∈ L, ∃ o, h.get? a = some o ∧ Itr o) : h'.IsList l its := by
  refine IsList.up G st x fun q => ?_
  obtain ⟨o, e, ⟨T, hc, hT⟩, _⟩ := hL _ q
  obtain ⟨o2, e2, hc2, _⟩ := x
  rw [e] at e2; cases e2; rw [hc] at hc2; cases hc2; revert hT; decide
theorem ImpIsX.its (G : Gd w mg mb h) (st : Step w mg mb L h h') (hL : ∀ a ∈ L, ∃ o, h.get? a = some o ∧ Itr o) {x : Value} {i : ImpD} (I : ImpIsX X h x i) : ImpIsX X h' x i :=
  let ⟨a, dx, mo, tv, sv, pl, vs, e, i1, e1, x1, e2, x2, e3, l, x3, a1, a2, a3⟩ := I
  ⟨a, dx, mo, tv, sv, pl, vs, e, i1.its st hL, e1, x1.up st, e2, x2.up st, e3, IsList.its G st l hL, x3.up st, a1, a2, a3⟩
theorem ImpsAreX.its (G : Gd w mg mb h) (st : Step w mg mb L h h') (hL : ∀ a ∈ L, ∃ o, h.get? a = some o ∧ Itr o) : ∀ {vs : List Value} {is : List ImpD}, ImpsAreX X h vs is → ImpsAreX X h' vs is
  | [], [], _ => trivial
  | [], _ :: _, I => I.elim
  | _ :: _, [], I => I.elim
  | v :: vs, i :: is, I => ⟨ImpIsX.its G st hL I.1, ImpsAreX.its G st hL I.2⟩
end
/-- the rows behind i traits -/
def rws (o : OD) (i : Nat) : List ImpD := (if 0 < i then (flags o.cS o.cE).map (impOf true o.ask) else []) ++ (if 1 < i then (flags o.dS o.dE).map (impOf false o.ask) else [])
theorem rws_two (o : OD) : rws o 2 = o.rows := by rw [rows_flags]; rfl
theorem rws_one (o : OD) : rws o 1 = rws o 0 ++ (flags o.cS o.cE).map (impOf true o.ask) := by simp [rws]
theorem rws_two' (o : OD) : rws o 2 = rws o 1 ++ (flags o.dS o.dE).map (impOf false o.ask) := by simp [rws]
theorem rws_len (o : OD) (i : Nat) : (rws o i).length ≤ 4 := by
  have := flags_len o.cS o.cE
  have := flags_len o.dS o.dE
  unfold rws
  rw [List.length_append]
  split <;> split <;> simp <;> omega
theorem names_get {h : Heap} {a b : Bool} {vs : List Value} {j : Nat} {v : Value} (x : XTs h vs (names a b)) (e : vs[j]? = some v) : ∃ f t, (flags a b)[j]? = some f ∧ v = .str (if f then Str.ofString "E" else Str.ofString "S") t := by
  rw [names_flags] at x
  have hj : j < (flags a b).length := by have := (List.getElem?_eq_some_iff.mp e).1; rw [x.len, List.length_map] at this; exact this
  obtain ⟨v', hv, xv⟩ := x.at (j := j) (dj := if (flags a b)[j]'hj then sty "E" else sty "S") (by rw [List.getElem?_map, List.getElem?_eq_getElem hj]; rfl)
  rw [e] at hv; cases hv
  refine ⟨(flags a b)[j]'hj, ?_⟩
  cases hf : (flags a b)[j]'hj with
  | true => rw [hf] at xv; obtain ⟨t, rfl⟩ := XT.str_inv (x := Str.ofString "E") xv; exact ⟨t, by rw [List.getElem?_eq_getElem hj, hf], rfl⟩
  | false => rw [hf] at xv; obtain ⟨t, rfl⟩ := XT.str_inv (x := Str.ofString "S") xv; exact ⟨t, by rw [List.getElem?_eq_getElem hj, hf], rfl⟩

theorem isC_S (o : OD) : isC o.W .S = o.cS := by
  obtain ⟨S, E, cS, cE, dS, dE, ask, yb⟩ := o
  cases cS <;> cases cE <;> cases dS <;> cases dE <;> rfl
theorem isC_E (o : OD) (t : Ty) : isC o.W (.E t) = (o.cE && (!o.ask || isC o.W t)) := by
  show (o.W.rows.any fun r => r.cp && (r.e && (!r.ask || isC o.W t))) = _
  generalize isC o.W t = b
  obtain ⟨S, E, cS, cE, dS, dE, ask, yb⟩ := o
  cases cS <;> cases cE <;> cases dS <;> cases dE <;> simp [OD.W, OD.rows]
theorem hasD_S (o : OD) : hasD o.W .S = o.dS := by
  obtain ⟨S, E, cS, cE, dS, dE, ask, yb⟩ := o
  cases cS <;> cases cE <;> cases dS <;> cases dE <;> rfl
theorem hasD_E (o : OD) (t : Ty) : hasD o.W (.E t) = o.dE := by
  have e : ∀ r : ImpD, (mch r.self (era (.E t))).isSome = r.e := fun r => by
    obtain ⟨cp, e, ask⟩ := r
    cases e <;> simp [ImpD.self, mch, wreg]
  unfold hasD
  simp only [e]
  obtain ⟨S, E, cS, cE, dS, dE, ask, yb⟩ := o
  cases cS <;> cases cE <;> cases dS <;> cases dE <;> simp [OD.W, OD.rows]
theorem names_S (a b : Bool) : ((names a b).any fun y => PyData.eqv y (sty "S")) = a := by cases a <;> cases b <;> decide +kernel
theorem names_E (a b : Bool) : ((names a b).any fun y => PyData.eqv y (sty "E")) = b := by cases a <;> cases b <;> decide +kernel
theorem names_L (a b : Bool) : ((names a b).any fun y => PyData.eqv y (sty "L")) = false := by cases a <;> cases b <;> decide +kernel
theorem names_lay (a b : Bool) : PyData.canLayAll0 (names a b) = true := by cases a <;> cases b <;> decide +kernel
/-- how deep the law's walk of drops goes -/
def rk : Ty → Nat
  | .pair a b => max (rk a) (rk b) + 1
  | .arr t => rk t + 1
  | .S => 1
  | .E t => rk t + 1
  | _ => 0
theorem plain_rk {f : Ty} (h : f ∈ plains) : rk f = 0 := by
  simp only [plains, List.mem_cons, List.not_mem_nil, or_false] at h
  rcases h with rfl | rfl | rfl | rfl | rfl | rfl | rfl <;> rfl
theorem rk_le (t : Ty) : rk t ≤ t.dep + 1 := by
  induction t <;> simp_all [rk, Ty.dep] <;> omega
theorem nd_S (o : OD) : nd o.W .S = (o.dS || o.S.any isBox) := by show (hasD o.W .S || _) = _; rw [hasD_S]; rfl
theorem nd_E (o : OD) (t : Ty) : nd o.W (.E t) = (o.dE || (nd o.W t || o.E.any isBox)) := by show (hasD o.W (.E t) || _) = _; rw [hasD_E]; rfl
theorem eqv_L {t : Ty} : PyData.eqv (enc t) (enc .L) = decide (t = .L) := by
  by_cases h : t = .L
  · subst h; rw [decide_eq_true rfl]; decide +kernel
  · rw [decide_eq_false h]
    cases e : PyData.eqv (enc t) (enc .L) with
    | false => rfl
    | true => exact absurd (eqv_enc e) h
theorem isC_tup {W : WD} {t : Ty} (h : t.kind = Str.ofString "tuple") : isC W t = (parts t).all (isC W) := by
  cases t <;> first | (exfalso; simp only [Ty.kind] at h; revert h; decide) | skip
  · rfl
  · simp [isC, parts]
theorem nd_tup {W : WD} {t : Ty} (h : t.kind = Str.ofString "tuple") : nd W t = (parts t).any (nd W) := by
  cases t <;> first | (exfalso; simp only [Ty.kind] at h; revert h; decide) | skip
  · rfl
  · simp [nd, parts]
theorem rk_parts {t p : Ty} (h : p ∈ parts t) (hk : t.kind = Str.ofString "tuple") : rk p < rk t := by
  cases t <;> first | (exfalso; simp only [Ty.kind] at hk; revert hk; decide) | skip
  · cases h
  · simp [parts] at h
    rcases h with rfl | rfl <;> simp only [rk] <;> omega
theorem str_lay {i : Nat} (h : i < 10) : (PyData.str (Str.ofString (toString i))).canLay0 = true :=
  (by decide +kernel : ∀ i : Nat, i < 10 → (PyData.str (Str.ofString (toString i))).canLay0 = true) i h
theorem canLayAll_iff (l : List PyData) : PyData.canLayAll0 l = true ↔ ∀ x ∈ l, x.canLay0 = true := by
  induction l with
  | nil => simp [PyData.canLayAll0]
  | cons a r ih => simp [PyData.canLayAll0, ih]
theorem depthAll_le {l : List PyData} {n : Nat} (h : ∀ x ∈ l, x.depth < n) (h0 : 0 < n) : PyData.depthAll l ≤ n := by
  induction l with
  | nil => simp [PyData.depthAll]
  | cons a r ih =>
    have h1 := h a (.head _)
    have h2 := ih fun x hx => h x (.tail _ hx)
    simp only [PyData.depthAll]; omega
theorem rows_mem {fs : List Ty} {e : PyData} (h : e ∈ rowsOf fs) : ∃ i f, i < fs.length ∧ f ∈ fs ∧ e = .tuple [.str (Str.ofString (toString i)), enc f] := by
  obtain ⟨i, hi⟩ := List.mem_iff_getElem?.mp h
  obtain ⟨f, hf, rfl⟩ := rows_get hi
  exact ⟨i, f, (List.getElem?_eq_some_iff.mp hf).1, List.mem_of_getElem? hf, rfl⟩
theorem rows_lay {fs : List Ty} (hl : fs.length ≤ 10) : PyData.canLayAll0 (rowsOf fs) = true := by
  rw [canLayAll_iff]
  intro x hx
  obtain ⟨i, f, hi, _, rfl⟩ := rows_mem hx
  have h1 := str_lay (i := i) (by omega)
  have h2 := (enc_shape f).1
  simp only [PyData.canLay0, PyData.canLayAll0] at h1 h2 ⊢
  simp only [h1, h2, Bool.and_self]
theorem rows_shaped {fs : List Ty} (hl : fs.length ≤ 10) (hd : ∀ f ∈ fs, f.dep ≤ 12) : SeqAt.shaped (.list (rowsOf fs)) = true := by
  unfold SeqAt.shaped
  have h1 : (PyData.list (rowsOf fs)).canLay0 = PyData.canLayAll0 (rowsOf fs) := by simp only [PyData.canLay0]
  have h2 : (PyData.list (rowsOf fs)).depth = PyData.depthAll (rowsOf fs) + 1 := by simp only [PyData.depth]
  have h3 : PyData.depthAll (rowsOf fs) ≤ 40 := depthAll_le (fun x hx => by
    obtain ⟨i, f, hi, hf, rfl⟩ := rows_mem hx
    have h4 := (enc_shape f).2
    have h5 := hd f hf
    simp only [PyData.depth, PyData.depthAll]; omega) (by decide)
  rw [h1, h2, rows_lay hl, Bool.true_and, decide_eq_true_eq]
  omega

/-- an address that the law's own names, cells, draws write: no object of its world -/
def nmo (m : Str → Option Value) : Prop := m (Str.ofString "S") = none ∧ m (Str.ofString "X") = none ∧ m (Str.ofString "adts") = none ∧ m (Str.ofString "regions") = none ∧ m (Str.ofString "trait") = none
def Safe (h : Heap) (a : Addr) : Prop := (∃ m, h.Ns a m ∧ nmo m) ∨ (∃ o v, h.get? a = some o ∧ o.data = .cell v) ∨ SrcAt h a ∨ h.get? a = none ∨ ∃ o, h.get? a = some o ∧ Itr o
def HdOk (vs : List Value) : Prop := ∀ v r, vs = v :: r → ∀ i t, v ≠ .int i t
theorem hd_xts {h : Heap} {vs : List Value} {ds : List PyData} (x : XTs h vs ds) (hd : ∀ d r, ds = d :: r → ∀ i, d ≠ .int i) : HdOk vs := by
  rintro v r rfl i t rfl
  cases ds with
  | nil => cases x.inv0
  | cons d ds =>
    obtain ⟨v', vs', e, x', _⟩ := x.inv
    cases e
    cases x'
    exact hd _ _ rfl _ rfl
theorem hd_enc {h : Heap} {vs : List Value} {ts : List Ty} (x : XTs h vs (ts.map enc)) : HdOk vs := hd_xts x fun d r e i => by
  cases ts with
  | nil => cases e
  | cons t ts => cases e; rw [enc_eq]; exact fun q => nomatch q
theorem hd_names {h : Heap} {vs : List Value} {a b : Bool} (x : XTs h vs (names a b)) : HdOk vs := hd_xts x fun d r e i => by
  cases a <;> cases b <;> cases e <;> exact fun q => nomatch q
theorem hd_rows {h : Heap} {vs : List Value} {fs : List Ty} (x : XTs h vs (rowsOf fs)) : HdOk vs := hd_xts x fun d r e i => by
  have : d ∈ rowsOf fs := by rw [e]; exact .head _
  obtain ⟨_, _, _, _, rfl⟩ := rows_mem this
  exact fun q => nomatch q
theorem hd_params {h : Heap} {vs : List Value} {i : ImpD} (x : XTs h vs i.params) : HdOk vs := hd_xts x fun d r e i' => by
  unfold ImpD.params at e
  split at e <;> cases e
  exact fun q => nomatch q
theorem nsFind_some {es : Array DictEntry} {x : Str} {e : DictEntry} (he : e ∈ es.toList) (hk : e.key.isStr x = true) : nsFind es x ≠ none := by
  unfold nsFind findBy
  intro q
  rw [Option.map_eq_none_iff, ← Array.find?_toList, List.find?_eq_none] at q
  exact q e he hk
section
variable {prog : Program} {w : World} {mg mb : Str → Option Value} {h h' : Heap} {L : List Addr} {a b : Addr}
theorem dct_safe {x : Str} {v : Value} {kvs : List (Str × Value)} (D : Dct prog w h a ((x, v) :: kvs)) (hx : x = Str.ofString "S" ∨ x = Str.ofString "X") (S : Safe h b) : a ≠ b := by
  rintro rfl
  obtain ⟨o, es, ep, e, hc, hd, _, hp, _⟩ := D
  rcases S with ⟨m, ⟨o', es', ep', e', hd', _, hf⟩, hm⟩ | ⟨o', v', e', hd'⟩ | ⟨_, _, _, _, _, o', e', hc', _⟩ | e' | ⟨o', e', ⟨T, hT, hm⟩, _⟩
  · rw [e] at e'; cases e'
    rw [hd] at hd'; cases hd'
    cases hes : es.toList with
    | nil => rw [hes] at hp; cases hp
    | cons en r =>
      rw [hes] at hp
      cases hp with
      | cons h1 h2 h3 =>
        have hk : en.key.isStr x = true := by
          have h1' : Value.isStrOf x en.key = true := h1
          revert h1'
          cases en.key <;> simp [Value.isStrOf, Value.isStr]
        have := nsFind_some (es := es) (x := x) (by rw [hes]; exact .head _) hk
        rw [hf] at this
        rcases hx with rfl | rfl
        · exact this hm.1
        · exact this hm.2.1
  · rw [e] at e'; cases e'; rw [hd] at hd'; cases hd'
  · rw [e] at e'; cases e'; exact absurd (hc.1.symm.trans hc') (by decide)
  · rw [e] at e'; cases e'
  · rw [e] at e'; cases e'; rw [hc.1] at hT; cases hT; revert hm; decide
theorem ins_safe {x dx C : Addr} {mo : Str → Option Value} {k : Nat} {name : Str} {v : Value} (I : Ins h x dx C mo k) (hv : mo name = some v) (hx : name = Str.ofString "adts" ∨ name = Str.ofString "regions" ∨ name = Str.ofString "trait") (S : Safe h b) : x ≠ b ∧ dx ≠ b := by
  obtain ⟨es, n, e2, hg, _⟩ := I.od
  constructor
  · rintro rfl
    have e := I.ox
    rcases S with ⟨m, ⟨o', es', ep', e', hd', _, hf⟩, hm⟩ | ⟨o', v', e', hd'⟩ | ⟨_, _, _, _, _, o', e', hc', _⟩ | e' | ⟨o', e', ⟨T, hT, hm⟩, _⟩ <;> rw [e] at e' <;> cases e'
    · cases hd'
    · cases hd'
    · cases hc'
    · cases hT
  · rintro rfl
    rcases S with ⟨m, ⟨o', es', ep', e', hd', _, hf⟩, hm⟩ | ⟨o', v', e', hd'⟩ | ⟨_, _, _, _, _, o', e', hc', _⟩ | e' | ⟨o', e', ⟨T, hT, hm⟩, _⟩ <;> rw [e2] at e' <;> cases e'
    · cases hd'
      have h1 := hg name
      rw [hv] at h1
      unfold getL at h1
      split at h1
      · rename_i en he
        have := nsFind_some (es := es.toArray) (x := name) (by simpa using List.mem_of_find?_eq_some he) (by have q := List.find?_some he; simpa using q)
        rw [hf] at this
        rcases hx with rfl | rfl | rfl
        · exact this hm.2.2.1
        · exact this hm.2.2.2.1
        · exact this hm.2.2.2.2
      · split at h1 <;> cases h1
    · cases hd'
    · exact absurd (show Value.type "dict" = Value.type "list" from hc') (by decide)
    · cases hT; revert hm; decide
theorem list_safe {l : Addr} {vs : List Value} (x : h.IsList l vs.toArray) (hd : HdOk vs) (S : Safe h b) : l ≠ b := by
  rintro rfl
  obtain ⟨o, e, hc, n, hq⟩ := x
  rcases S with ⟨m, ⟨o', es', ep', e', hd', _, hf⟩, hm⟩ | ⟨o', v', e', hd'⟩ | ⟨_, x1, x2, t1, t2, o', e', hc', n', hq'⟩ | e' | ⟨o', e', ⟨T, hT, hm⟩, _⟩ <;> rw [e] at e' <;> cases e'
  · rw [hq] at hd'; cases hd'
  · rw [hq] at hd'; cases hd'
  · rw [hq] at hq'
    injection hq' with h1 _
    have h2 : vs = [.int x1 t1, .int x2 t2] := by simpa using h1
    exact hd _ _ h2 _ _ rfl
  · rw [hc] at hT; cases hT; revert hm; decide
variable (G : Gd w mg mb h) (st : Step w mg mb L h h') (hL : ∀ a ∈ L, Safe h a)
include G st hL
theorem Dct.upS {x : Str} {v : Value} {kvs : List (Str × Value)} (D : Dct prog w h a ((x, v) :: kvs)) (hx : x = Str.ofString "S" ∨ x = Str.ofString "X") : Dct prog w h' a ((x, v) :: kvs) := D.up G st fun q => dct_safe D hx (hL _ q) rfl
theorem Ins.upS {x dx C : Addr} {mo : Str → Option Value} {k : Nat} {name : Str} {v : Value} (I : Ins h x dx C mo k) (hv : mo name = some v) (hx : name = Str.ofString "adts" ∨ name = Str.ofString "regions" ∨ name = Str.ofString "trait") : Ins h' x dx C mo k :=
  I.up st (fun q => (ins_safe I hv hx (hL _ q)).1 rfl) fun q => (ins_safe I hv hx (hL _ q)).2 rfl
theorem IsList.upS {l : Addr} {vs : List Value} (x : h.IsList l vs.toArray) (hd : HdOk vs) : h'.IsList l vs.toArray := IsList.up G st x fun q => list_safe x hd (hL _ q) rfl
theorem BoundsIs.upS {bv : Value} {yb : Bool} (x : BoundsIs prog w h bv yb) : BoundsIs prog w h' bv yb :=
  let ⟨bd, vx, vy, e, l, D, x1, x2⟩ := x
  ⟨bd, vx, vy, e, l, Dct.upS G st hL D (.inr rfl), x1.up st, x2.up st⟩
theorem OwnIs.upS {ov : Value} {o : OD} (x : OwnIs prog w h ov o) : OwnIs prog w h' ov o :=
  let ⟨od, fl, el, cl, dl, bd, fv, ev, cv, dv, e, l, D, l1, x1, l2, x2, l3, x3, l4, x4, B⟩ := x
  ⟨od, fl, el, cl, dl, bd, fv, ev, cv, dv, e, l, Dct.upS G st hL D (.inl rfl), IsList.upS G st hL l1 (hd_enc x1), x1.up st, IsList.upS G st hL l2 (hd_enc x2), x2.up st, IsList.upS G st hL l3 (hd_names x3), x3.up st, IsList.upS G st hL l4 (hd_names x4), x4.up st, BoundsIs.upS G st hL B⟩
theorem ImpIs.upS {x : Value} {i : ImpD} (I : ImpIs h x i) : ImpIs h' x i :=
  let ⟨a, dx, mo, tv, sv, pl, vs, e, i1, e1, x1, e2, x2, e3, l, x3⟩ := I
  ⟨a, dx, mo, tv, sv, pl, vs, e, Ins.upS G st hL i1 e1 (.inr (.inr rfl)), e1, x1.up st, e2, x2.up st, e3, IsList.upS G st hL l (hd_params x3), x3.up st⟩
theorem VarIs.upS {x : Value} {f : List Ty} (I : VarIs h x f) : VarIs h' x f :=
  let ⟨t, a, b, l, rs, e, t1, l1, x1⟩ := I
  ⟨t, a, b, l, rs, e, IsTup.up st t1, IsList.upS G st hL l1 (hd_rows x1), x1.up st⟩
theorem VarsAre.upS : ∀ {vs : List Value} {fs : List (List Ty)}, VarsAre h vs fs → VarsAre h' vs fs
  | [], [], _ => trivial
  | [], _ :: _, I => I.elim
  | _ :: _, [], I => I.elim
  | v :: vs, f :: fs, I => ⟨VarIs.upS G st hL I.1, VarsAre.upS I.2⟩
theorem ImpsAre.upS : ∀ {vs : List Value} {is : List ImpD}, ImpsAre h vs is → ImpsAre h' vs is
  | [], [], _ => trivial
  | [], _ :: _, I => I.elim
  | _ :: _, [], I => I.elim
  | v :: vs, i :: is, I => ⟨ImpIs.upS G st hL I.1, ImpsAre.upS I.2⟩
end
theorem hd_vars {h : Heap} {vs : List Value} {fs : List (List Ty)} (V : VarsAre h vs fs) : HdOk vs := by
  rintro v r rfl i t rfl
  cases fs with
  | nil => exact V.elim
  | cons f fs => obtain ⟨⟨_, _, _, _, _, e, _⟩, _⟩ := V; cases e
theorem hd_imps {h : Heap} {vs : List Value} {is : List ImpD} (V : ImpsAre h vs is) : HdOk vs := by
  rintro v r rfl i t rfl
  cases is with
  | nil => exact V.elim
  | cons f fs => obtain ⟨⟨_, _, _, _, _, _, _, e, _⟩, _⟩ := V; cases e
section
variable {prog : Program} {w : World} {mg mb : Str → Option Value} {h h' : Heap} {L : List Addr} {a b : Addr}
variable (G : Gd w mg mb h) (st : Step w mg mb L h h') (hL : ∀ a ∈ L, Safe h a)
include G st hL
theorem AdtIs.upS {x : Value} {ps : List PyData} {vars : List (List Ty)} (I : AdtIs h x ps vars) : AdtIs h' x ps vars :=
  let ⟨a, dx, mo, rv, pv, vl, vv, e, i1, e1, x1, e2, x2, e3, l, v⟩ := I
  ⟨a, dx, mo, rv, pv, vl, vv, e, Ins.upS G st hL i1 e1 (.inr (.inl rfl)), e1, x1.up st, e2, x2.up st, e3, IsList.upS G st hL l (hd_vars v), VarsAre.upS G st hL v⟩
theorem WorldIs.upS {x : Value} {W : WD} (I : WorldIs prog w h x W) : WorldIs prog w h' x W :=
  let ⟨a, dx, mo, ad, il, aS, aE, aL, rv, e, i1, e1, e2, la, D, s1, s2, s3, l, r⟩ := I
  ⟨a, dx, mo, ad, il, aS, aE, aL, rv, e, Ins.upS G st hL i1 e1 (.inl rfl), e1, e2, la, Dct.upS G st hL D (.inl rfl), AdtIs.upS G st hL s1, AdtIs.upS G st hL s2, AdtIs.upS G st hL s3, IsList.upS G st hL l (hd_imps r), ImpsAre.upS G st hL r⟩
end

section
variable (prog : Program) (w : World) (mg mb : Str → Option Value) (A : Around) (hE : Heap) (env : Env) (m cm : Str → Option Value) (wr : List Addr) (g : Array GenState) (d : Drawn) (os : OsState)
inductive DFilH (elt test : Expr) (x : Str) (scope : Scope) (cl : List (Str × Addr)) (Q : Value → Shared → Prop) (b : Str → Bool) (xv : Value) (s₁ : Shared) : Prop where
  | mk h₁ tk₁ t (kvs : List (Str × Value)) : xv = .ref t →
    s₁ = ⟨h₁, g, d, tk₁, os⟩ →
    Fm w mg mb wr hE env m cm h₁ →
    Dct prog w h₁ t kvs →
    241 < t →
    kvs.length ≤ sizeLine →
    (∀ key y u C (m' : Str → Option Value) h₂ h₃ tk₃ E', (key, y) ∈ kvs → Step w mg mb [] h₁ h₃ → Fm w mg mb [C] h₂ (compEnvC scope cl C env) (upd m' x (.str key u)) cm h₃ → wpAny (model prog w) A (isTrue test (compEnvC scope cl C env) (eval test (compEnvC scope cl C env))) (fun ok s₄ => ok = b key ∧ ∃ h₄ tk₄, s₄ = ⟨h₄, g, d, tk₄, os⟩ ∧ Step w mg mb [] h₃ h₄ ∧ (b key = true → ∀ (F₄ : Fm w mg mb [C] h₂ (compEnvC scope cl C env) (upd m' x (.str key u)) cm h₄) E'', wpAny (model prog w) A (eval elt (compEnvC scope cl C env)) (fun y s₅ => ∃ h₅ tk₅, s₅ = ⟨h₅, g, d, tk₅, os⟩ ∧ Step w mg mb [] h₄ h₅ ∧ XT h₅ y (.str key)) E'' s₄)) E' ⟨h₃, g, d, tk₃, os⟩) →
    (∀ D vs h' tk', Step w mg mb [] h₁ h' → Fm w mg mb wr hE env m cm h' → h'.IsList D vs.toArray → XTs h' vs (((kvs.map (·.1)).filter b).map .str) → Q (.ref D) ⟨h', g, d, tk', os⟩) → DFilH  elt test x scope cl Q b xv s₁
end
section
variable {prog : Program} {w : World} {mg mb : Str → Option Value} {A : Around} {E : Value → Shared → Prop} {hE h hS : Heap} {env : Env} {m cm : Str → Option Value} {wr wr₀ : List Addr}
  {g : Array GenState} {d : Drawn} {tk : Nat} {os : OsState}
theorem comp_dict {elt target iter : Expr} {ifs : List Expr} {scope : Scope} {cl : List (Str × Addr)} {pos : Pos} {t : Addr} {kvs : List (Str × Value)} {n : Nat} {Q : Value → Shared → Prop}
    (F : Fm w mg mb wr₀ hE env m cm h) (hA : Cx A n) (hT : Dct prog w h t kvs) (ht : 241 < t) (hsz : kvs.length ≤ sizeLine)
    (hcell : ∀ y ∈ scope.names, y.2 ≠ .cell) (hkind : scope.kind = .function) (hcl : ∀ p ∈ cl, env.cells.lookup p.1 = some p.2)
    (k : CompAt prog w mg mb A elt target ifs (fun C => compEnvC scope cl C env) cm g d os [] kvs.length (fun i v h₃ => ∃ x y u, kvs[i]? = some (x, y) ∧ v = .str x u) Q h) :
    wpAny (model prog w) A (pyIter (.ref t)) (fun it s₂ => wpAny (model prog w) A (newList []) (fun acc s₃ => wpAny (model prog w) A (newFunctionEnv scope env.globals cl [] env.qual none .none (some env)) (fun cenv s₄ =>
      codeAny (model prog w) A (.compStart (.ListComp elt [⟨target, iter, ifs, 0⟩] scope pos) 0 it acc { cenv with scope := relabel scope env }) (compPost (model prog w) A E none Q acc cenv.locals) s₄) E s₃) E s₂) E ⟨h, g, d, tk, os⟩ := by
  obtain ⟨ep, hD⟩ := hT.dictAt
  have hlt : t < h.objs.size := hD.lt_size
  refine wpAny_pyIter_dict (s := ⟨h, g, d, tk, os⟩) (knd := strKind prog w) (Dct.low F.G ht) hD ?_
  have sz : (242 : Nat) ≤ h.objs.size := F.G.sz
  have newI : (h.push { cls := .type "dict_keyiterator", data := .fields #[.ref t, .int 0 0, .int kvs.length 0, .int ep 0] }).get? h.objs.size = some { cls := .type "dict_keyiterator", data := .fields #[.ref t, .int 0 0, .int kvs.length 0, .int ep 0] } := Heap.get?_push_size _ rfl
  have W := Walks.dictKeys (prog := prog) (w := w) (knd := strKind prog w) (A := A) hA.hh h.objs.size t (Nat.ne_of_lt hlt) kvs ep
  obtain ⟨R, K, K0, hK, turn, fin⟩ := k
  refine comp_at (wr := []) (F.up (.push _)) (KTurns.ofWalks (target := target) W fun i v s Q E st hQ => letGo_keyiter st.1 hQ) (fun s Q E st q => W.self 0 s Q E st q) hsz (Ext.push _ _) (fun b q => by rw [List.mem_singleton.mp q]; exact Heap.get?_none_of_le (Nat.le_refl _))
    hcell hkind hcl ⟨⟨_, newI, rfl, rfl⟩, hD.push _⟩ ?_ ?_ ?_ (fun _ q => nomatch q) ?_
    ⟨R, K, K0, hK, fun i v C m₃ h₃ tk₃ E' hi hP hk st hC F₃ hl => turn i v C m₃ h₃ tk₃ E' hi ?_ hk st hC F₃ hl, fin⟩
  · intro b hb
    rcases List.mem_cons.mp hb with rfl | hb
    · exact ⟨_, newI⟩
    · rw [List.mem_singleton.mp hb]
      obtain ⟨o, e⟩ := hT.there
      exact ⟨o, Heap.get?_push_of_some _ e⟩
  · intro b hb
    refine ⟨?_, fun q => nomatch q⟩
    rcases List.mem_cons.mp hb with rfl | hb
    · exact Nat.ne_of_gt (Nat.lt_of_lt_of_le (by decide) sz)
    · rw [List.mem_singleton.mp hb]; exact ne87 ht
  · intro i h' st b hb
    rw [List.mem_singleton.mp hb]
    obtain ⟨o, e, hc, hd⟩ := st.1
    exact ⟨Nat.lt_of_lt_of_le (by decide) sz, o, e, ⟨_, hc, by simp⟩, _, hd, by simp⟩
  · intro n c hc
    exact ⟨fun q => by have := new_ne_cell F (Heap.get?_none_of_le (Nat.le_refl _)) n c hc; exact this (List.mem_singleton.mp q), fun q => nomatch q⟩
  · obtain ⟨x, y, e, hx⟩ := hP
    obtain ⟨u, rfl⟩ := Value.isStrOf_shape hx
    exact ⟨x, y, u, e, rfl⟩
theorem compD_filter {elt iter test : Expr} {x : Str} {px : Pos} {scope : Scope} {cl : List (Str × Addr)} {pos : Pos} {Q : Value → Shared → Prop} (_F : Fm w mg mb wr hE env m cm hS) (b : Str → Bool) {n : Nat} (hA : Cx A n)
    (hclos : closureFor scope env = pure cl) (hkind : scope.kind = .function) (hnames : ∀ x ∈ scope.names, x.2 = .local → scope.names.lookup x.1 = some .local) (hs : ∀ x, foldedSetIterable iter env x = pure x)
    (hcell : ∀ y ∈ scope.names, y.2 ≠ .cell) (hx : scope.names.lookup x = some .local) (hcl : ∀ p ∈ cl, env.cells.lookup p.1 = some p.2)
    (k : wpAny (model prog w) A (eval iter env) (fun xv s₁ => DFilH prog w mg mb A hE env m cm wr g d os elt test x scope cl Q b xv s₁) E ⟨hS, g, d, tk, os⟩) :
    wpAny (model prog w) A (eval (.ListComp elt [⟨.Name x px, iter, [test], 0⟩] scope pos) env) Q E ⟨hS, g, d, tk, os⟩ := by
  refine compE hclos hkind hnames hs (wpAny_mono k (fun xv s₁ hk => ?_) fun _ _ e => e)
  obtain ⟨h₁, tk₁, t, kvs, rfl, rfl, F, X, ht, hsz, helt, hfin⟩ := hk
  refine comp_dict F hA X ht hsz hcell hkind hcl
    ⟨fun i o => ∃ key, (kvs.map (·.1))[i]? = some key ∧ o = if b key = true then some (.str key) else none, fun _ => True, trivial, fun _ _ _ _ _ _ => trivial, ?_, ?_⟩
  · rintro i v C m₃ h₃ tk₃ E' hi ⟨key, y, u, hki, rfl⟩ _ st hC F₃ hl
    have hkey : (kvs.map (·.1))[i]? = some key := by rw [List.getElem?_map, hki]; rfl
    refine wpAny_assign_Name (stL F₃ (lookup_relabel_local hx) (by simp [compEnvC, relabel, hkind]) fun h' st' F' => ?_)
    have st'' : Step w mg mb [C] h₃ h' := hl ▸ st'
    refine wpAny_tests_one (wpAny_mono (helt key y u C m₃ h₃ h' _ E' (List.mem_of_getElem? hki) (st.off st'' hC) F') (fun ok s₄ q => ?_) fun _ _ x => x)
    obtain ⟨rfl, h₄, tk₄, rfl, st₄, q⟩ := q
    cases hb : b key with
    | false => exact ⟨h₄, tk₄, _, rfl, F'.up st₄, ⟨key, hkey, by simp [hb]⟩, trivial⟩
    | true =>
      simp only [if_true]
      refine wpAny_mono (q hb (F'.up st₄) _) (fun y s₅ q => ?_) fun _ _ x => x
      obtain ⟨h₅, tk₅, rfl, st₅, xy⟩ := q
      exact ⟨h₅, tk₅, _, _, rfl, (F'.up st₄).up st₅, xy, ⟨key, hkey, by simp [hb]⟩, trivial⟩
  · intro D ys os' h' tk' hl hR _ st hD h1 hL xs'
    exact hfin D ys h' tk' st (F.up st) hL (os_filter (hl.trans (by simp)) hR ▸ xs')
end
section
variable {w : World} {mg mb : Str → Option Value} {hE h : Heap} {env : Env} {m cm : Str → Option Value} {wr : List Addr}
theorem safeL (F : Fm w mg mb wr hE env m cm h) (hm : nmo m) : ∀ a ∈ [env.locals], Safe h a := fun a q => by
  rw [List.mem_singleton.mp q]; exact .inl ⟨m, F.ns, hm⟩
theorem safeC (F : Fm w mg mb wr hE env m cm h) {n : Str} {c : Addr} (hc : env.cells.lookup n = some c) : ∀ a ∈ [c], Safe h a := fun a q => by
  rw [List.mem_singleton.mp q]
  obtain ⟨o, e, hd⟩ := F.cell n c hc
  exact .inr (.inl ⟨o, _, e, hd⟩)
theorem safeS {l : Addr} (S : SrcAt h l) : ∀ a ∈ [l], Safe h a := fun a q => by rw [List.mem_singleton.mp q]; exact .inr (.inr (.inl S))
end
theorem os_of {P : Ty → Prop} {os' : List (Option PyData)} (hR : ∀ (i : Nat) (o : Option PyData), os'[i]? = some o → ∃ f, P f ∧ o = some (enc f)) : ∃ fs : List Ty, fs.length = os'.length ∧ (∀ f ∈ fs, P f) ∧ os'.filterMap id = fs.map enc := by
  induction os' with
  | nil => exact ⟨[], rfl, (fun _ q => nomatch q), rfl⟩
  | cons o r ih =>
    obtain ⟨f, hf, rfl⟩ := hR 0 o rfl
    obtain ⟨fs, e1, e2, e3⟩ := ih fun i o h => hR (i + 1) o (by simpa using h)
    refine ⟨f :: fs, by simp [e1], fun x hx => ?_, by simpa using e3⟩
    rcases List.mem_cons.mp hx with rfl | hx
    · exact hf
    · exact e2 x hx
theorem drops_eq (a b : Bool) : PyData.eqvAll ((([Str.ofString "S", Str.ofString "E"] : List Str).filter fun y => if y = Str.ofString "S" then a else b).map .str) (names a b) = true := by
  cases a <;> cases b <;> decide +kernel
theorem names_shaped (a b : Bool) : SeqAt.shaped (.list (names a b)) = true := by cases a <;> cases b <;> decide +kernel
theorem drops_shaped (a b : Bool) : SeqAt.shaped (.list ((([Str.ofString "S", Str.ofString "E"] : List Str).filter fun y => if y = Str.ofString "S" then a else b).map .str)) = true := by cases a <;> cases b <;> decide +kernel

section
variable {prog : Program} {w : World} {mg mb : Str → Option Value}
theorem implrow_init {A : Around} {R : Result → Shared → Prop} {h : Heap} {g : Array GenState} {d : Drawn} {tk : Nat} {os : OsState} {x dx : Addr} {v1 v2 v3 v4 v5 v6 v7 : Value} {n : Nat} (hA : Cx A (n + 1)) (G : Gd w mg mb h) (I : Ins h x dx 143 (fun _ => none) 0)
    (k : ∀ h' tk' mo, Step w mg mb [dx] h h' → Ins h' x dx 143 mo 8 → mo (Str.ofString "params") = some v3 → mo (Str.ofString "trait") = some v4 → mo (Str.ofString "self_type") = some v6 → R (.ok (.ret .none)) ⟨h', g, d, tk', os⟩) :
    codeAny (model prog w) A (.call (.ref 140) ⟨.ref x :: [v1, v2, v3, v4, v5, v6, v7], []⟩) R ⟨h, g, d, tk, os⟩ := by
  refine' enterC [dx] (fun a q => List.mem_singleton.mp q ▸ (let ⟨es, n, e, _⟩ := I.od; ⟨_, e⟩)) (m := upd (upd (upd (upd (upd (upd (upd (upd (upd nom (Str.ofString "self") (.ref x)) (Str.ofString "number") (v1)) (Str.ofString "regions") (v2)) (Str.ofString "params") (v3)) (Str.ofString "trait") (v4)) (Str.ofString "trait_args") (v5)) (Str.ofString "self_type") (v6)) (Str.ofString "methods") (v7)) (Str.ofString "spot") (.int 0 360)) (cm := nom) G hA ?k1 ?k2 ?k3 ?k4 ?k5 ?k6 ?k7 ?k8 ?k9 ?_
  case k1 => k_is
  case k2 => k_is
  case k3 => exact binds_K G.X rfl (by k_is) rfl rfl rfl
  case k4 => rfl
  case k5 => intro _; rfl
  case k6 => intro _; rfl
  case k7 => rfl
  case k8 => rfl
  case k9 => rfl
  intro L h₁ tk₁ E' st F CN hA' NL
  generalize A.deeper _ = A2 at hA' ⊢
  have I₁ := I.up0 st
  have ne : dx ≠ L := fun e => by obtain ⟨es, n, q, _⟩ := I.od; rw [e, NL] at q; cases q
  (ktn_call 1 xAssignAttr; (with_reducible refine' nL ?zA ?zB ?zC ?_); (case zA => tb_rel); (case zB => tb_rel); (case zC => tb_rel); (with_reducible refine' nL ?zA ?zB ?zC ?_); (case zA => tb_rel); (case zB => tb_rel); (case zC => tb_rel); (with_reducible refine' setI ?zG ?zI ?zk ?z1 ?z2 ?z3 ?z4 ?_); (case zG => exact Fm.G (by assumption)); (case zI => first | assumption | exact Ins.up0 (by assumption) (by assumption)); (case zk => decide); (case z1 => k_is); (case z2 => k_is); (case z3 => k_is); (case z4 => k_is); ktn_call 93 (.inr (by simp)); ktn_call 1 xAssignAttr; (with_reducible refine' nL ?zA ?zB ?zC ?_); (case zA => tb_rel); (case zB => tb_rel); (case zC => tb_rel); (with_reducible refine' nL ?zA ?zB ?zC ?_); (case zA => tb_rel); (case zB => tb_rel); (case zC => tb_rel); (with_reducible refine' setI ?zG ?zI ?zk ?z1 ?z2 ?z3 ?z4 ?_); (case zG => exact Fm.G (by assumption)); (case zI => first | assumption | exact Ins.up0 (by assumption) (by assumption)); (case zk => decide); (case z1 => k_is); (case z2 => k_is); (case z3 => k_is); (case z4 => k_is); ktn_call 93 (.inr (by simp)); ktn_call 1 xAssignAttr; (with_reducible refine' nL ?zA ?zB ?zC ?_); (case zA => tb_rel); (case zB => tb_rel); (case zC => tb_rel); (with_reducible refine' nL ?zA ?zB ?zC ?_); (case zA => tb_rel); (case zB => tb_rel); (case zC => tb_rel); (with_reducible refine' setI ?zG ?zI ?zk ?z1 ?z2 ?z3 ?z4 ?_); (case zG => exact Fm.G (by assumption)); (case zI => first | assumption | exact Ins.up0 (by assumption) (by assumption)); (case zk => decide); (case z1 => k_is); (case z2 => k_is); (case z3 => k_is); (case z4 => k_is); ktn_call 93 (.inr (by simp)); ktn_call 1 xAssignAttr; (with_reducible refine' nL ?zA ?zB ?zC ?_); (case zA => tb_rel); (case zB => tb_rel); (case zC => tb_rel); (with_reducible refine' nL ?zA ?zB ?zC ?_); (case zA => tb_rel); (case zB => tb_rel); (case zC => tb_rel); (with_reducible refine' setI ?zG ?zI ?zk ?z1 ?z2 ?z3 ?z4 ?_); (case zG => exact Fm.G (by assumption)); (case zI => first | assumption | exact Ins.up0 (by assumption) (by assumption)); (case zk => decide); (case z1 => k_is); (case z2 => k_is); (case z3 => k_is); (case z4 => k_is); ktn_call 93 (.inr (by simp)); ktn_call 1 xAssignAttr; (with_reducible refine' nL ?zA ?zB ?zC ?_); (case zA => tb_rel); (case zB => tb_rel); (case zC => tb_rel); (with_reducible refine' nL ?zA ?zB ?zC ?_); (case zA => tb_rel); (case zB => tb_rel); (case zC => tb_rel); (with_reducible refine' setI ?zG ?zI ?zk ?z1 ?z2 ?z3 ?z4 ?_); (case zG => exact Fm.G (by assumption)); (case zI => first | assumption | exact Ins.up0 (by assumption) (by assumption)); (case zk => decide); (case z1 => k_is); (case z2 => k_is); (case z3 => k_is); (case z4 => k_is); ktn_call 93 (.inr (by simp)); ktn_call 1 xAssignAttr; (with_reducible refine' nL ?zA ?zB ?zC ?_); (case zA => tb_rel); (case zB => tb_rel); (case zC => tb_rel); (with_reducible refine' nL ?zA ?zB ?zC ?_); (case zA => tb_rel); (case zB => tb_rel); (case zC => tb_rel); (with_reducible refine' setI ?zG ?zI ?zk ?z1 ?z2 ?z3 ?z4 ?_); (case zG => exact Fm.G (by assumption)); (case zI => first | assumption | exact Ins.up0 (by assumption) (by assumption)); (case zk => decide); (case z1 => k_is); (case z2 => k_is); (case z3 => k_is); (case z4 => k_is); ktn_call 93 (.inr (by simp)); ktn_call 1 xAssignAttr; (with_reducible refine' nL ?zA ?zB ?zC ?_); (case zA => tb_rel); (case zB => tb_rel); (case zC => tb_rel); (with_reducible refine' nL ?zA ?zB ?zC ?_); (case zA => tb_rel); (case zB => tb_rel); (case zC => tb_rel); (with_reducible refine' setI ?zG ?zI ?zk ?z1 ?z2 ?z3 ?z4 ?_); (case zG => exact Fm.G (by assumption)); (case zI => first | assumption | exact Ins.up0 (by assumption) (by assumption)); (case zk => decide); (case z1 => k_is); (case z2 => k_is); (case z3 => k_is); (case z4 => k_is); ktn_call 93 (.inr (by simp)); ktn_call 1 xAssignAttr; (with_reducible refine' nL ?zA ?zB ?zC ?_); (case zA => tb_rel); (case zB => tb_rel); (case zC => tb_rel); (with_reducible refine' nL ?zA ?zB ?zC ?_); (case zA => tb_rel); (case zB => tb_rel); (case zC => tb_rel); (with_reducible refine' setI ?zG ?zI ?zk ?z1 ?z2 ?z3 ?z4 ?_); (case zG => exact Fm.G (by assumption)); (case zI => first | assumption | exact Ins.up0 (by assumption) (by assumption)); (case zk => decide); (case z1 => k_is); (case z2 => k_is); (case z3 => k_is); (case z4 => k_is); ktn_call 93 (.inr (by simp)); tbr_iter xNil)
  exact k _ _ _ (by ktr_room) (by assumption) rfl rfl rfl

theorem adt_init {A : Around} {R : Result → Shared → Prop} {h : Heap} {g : Array GenState} {d : Drawn} {tk : Nat} {os : OsState} {x dx : Addr} {v1 v2 v3 v4 v5 : Value} {n : Nat} (hA : Cx A (n + 1)) (G : Gd w mg mb h) (I : Ins h x dx 121 (fun _ => none) 0)
    (k : ∀ h' tk' mo, Step w mg mb [dx] h h' → Ins h' x dx 121 mo 7 → mo (Str.ofString "regions") = some v2 → mo (Str.ofString "params") = some v3 → mo (Str.ofString "variants") = some v4 → R (.ok (.ret .none)) ⟨h', g, d, tk', os⟩) :
    codeAny (model prog w) A (.call (.ref 118) ⟨.ref x :: [v1, v2, v3, v4, v5], []⟩) R ⟨h, g, d, tk, os⟩ := by
  refine' enterC [dx] (fun a q => List.mem_singleton.mp q ▸ (let ⟨es, n, e, _⟩ := I.od; ⟨_, e⟩)) (m := upd (upd (upd (upd (upd (upd (upd (upd nom (Str.ofString "self") (.ref x)) (Str.ofString "path") (v1)) (Str.ofString "regions") (v2)) (Str.ofString "params") (v3)) (Str.ofString "variants") (v4)) (Str.ofString "is_enum") (v5)) (Str.ofString "module") (.str (Str.ofString "") 318)) (Str.ofString "publics") (.ref 110)) (cm := nom) G hA ?k1 ?k2 ?k3 ?k4 ?k5 ?k6 ?k7 ?k8 ?k9 ?_
  case k1 => k_is
  case k2 => k_is
  case k3 => exact binds_K G.X rfl (by k_is) rfl rfl rfl
  case k4 => rfl
  case k5 => intro _; rfl
  case k6 => intro _; rfl
  case k7 => rfl
  case k8 => rfl
  case k9 => rfl
  intro L h₁ tk₁ E' st F CN hA' NL
  generalize A.deeper _ = A2 at hA' ⊢
  have I₁ := I.up0 st
  have ne : dx ≠ L := fun e => by obtain ⟨es, n, q, _⟩ := I.od; rw [e, NL] at q; cases q
  (ktn_call 1 xAssignAttr; (with_reducible refine' nL ?zA ?zB ?zC ?_); (case zA => tb_rel); (case zB => tb_rel); (case zC => tb_rel); (with_reducible refine' nL ?zA ?zB ?zC ?_); (case zA => tb_rel); (case zB => tb_rel); (case zC => tb_rel); (with_reducible refine' setI ?zG ?zI ?zk ?z1 ?z2 ?z3 ?z4 ?_); (case zG => exact Fm.G (by assumption)); (case zI => first | assumption | exact Ins.up0 (by assumption) (by assumption)); (case zk => decide); (case z1 => k_is); (case z2 => k_is); (case z3 => k_is); (case z4 => k_is); ktn_call 93 (.inr (by simp)); ktn_call 1 xAssignAttr; (with_reducible refine' nL ?zA ?zB ?zC ?_); (case zA => tb_rel); (case zB => tb_rel); (case zC => tb_rel); (with_reducible refine' nL ?zA ?zB ?zC ?_); (case zA => tb_rel); (case zB => tb_rel); (case zC => tb_rel); (with_reducible refine' setI ?zG ?zI ?zk ?z1 ?z2 ?z3 ?z4 ?_); (case zG => exact Fm.G (by assumption)); (case zI => first | assumption | exact Ins.up0 (by assumption) (by assumption)); (case zk => decide); (case z1 => k_is); (case z2 => k_is); (case z3 => k_is); (case z4 => k_is); ktn_call 93 (.inr (by simp)); ktn_call 1 xAssignAttr; (with_reducible refine' nL ?zA ?zB ?zC ?_); (case zA => tb_rel); (case zB => tb_rel); (case zC => tb_rel); (with_reducible refine' nL ?zA ?zB ?zC ?_); (case zA => tb_rel); (case zB => tb_rel); (case zC => tb_rel); (with_reducible refine' setI ?zG ?zI ?zk ?z1 ?z2 ?z3 ?z4 ?_); (case zG => exact Fm.G (by assumption)); (case zI => first | assumption | exact Ins.up0 (by assumption) (by assumption)); (case zk => decide); (case z1 => k_is); (case z2 => k_is); (case z3 => k_is); (case z4 => k_is); ktn_call 93 (.inr (by simp)); ktn_call 1 xAssignAttr; (with_reducible refine' nL ?zA ?zB ?zC ?_); (case zA => tb_rel); (case zB => tb_rel); (case zC => tb_rel); (with_reducible refine' nL ?zA ?zB ?zC ?_); (case zA => tb_rel); (case zB => tb_rel); (case zC => tb_rel); (with_reducible refine' setI ?zG ?zI ?zk ?z1 ?z2 ?z3 ?z4 ?_); (case zG => exact Fm.G (by assumption)); (case zI => first | assumption | exact Ins.up0 (by assumption) (by assumption)); (case zk => decide); (case z1 => k_is); (case z2 => k_is); (case z3 => k_is); (case z4 => k_is); ktn_call 93 (.inr (by simp)); ktn_call 1 xAssignAttr; (with_reducible refine' nL ?zA ?zB ?zC ?_); (case zA => tb_rel); (case zB => tb_rel); (case zC => tb_rel); (with_reducible refine' nL ?zA ?zB ?zC ?_); (case zA => tb_rel); (case zB => tb_rel); (case zC => tb_rel); (with_reducible refine' setI ?zG ?zI ?zk ?z1 ?z2 ?z3 ?z4 ?_); (case zG => exact Fm.G (by assumption)); (case zI => first | assumption | exact Ins.up0 (by assumption) (by assumption)); (case zk => decide); (case z1 => k_is); (case z2 => k_is); (case z3 => k_is); (case z4 => k_is); ktn_call 93 (.inr (by simp)); ktn_call 1 xAssignAttr; (with_reducible refine' nL ?zA ?zB ?zC ?_); (case zA => tb_rel); (case zB => tb_rel); (case zC => tb_rel); (with_reducible refine' nL ?zA ?zB ?zC ?_); (case zA => tb_rel); (case zB => tb_rel); (case zC => tb_rel); (with_reducible refine' setI ?zG ?zI ?zk ?z1 ?z2 ?z3 ?z4 ?_); (case zG => exact Fm.G (by assumption)); (case zI => first | assumption | exact Ins.up0 (by assumption) (by assumption)); (case zk => decide); (case z1 => k_is); (case z2 => k_is); (case z3 => k_is); (case z4 => k_is); ktn_call 93 (.inr (by simp)); ktn_call 1 xAssignAttr; (with_reducible refine' nL ?zA ?zB ?zC ?_); (case zA => tb_rel); (case zB => tb_rel); (case zC => tb_rel); (with_reducible refine' nL ?zA ?zB ?zC ?_); (case zA => tb_rel); (case zB => tb_rel); (case zC => tb_rel); (with_reducible refine' setI ?zG ?zI ?zk ?z1 ?z2 ?z3 ?z4 ?_); (case zG => exact Fm.G (by assumption)); (case zI => first | assumption | exact Ins.up0 (by assumption) (by assumption)); (case zk => decide); (case z1 => k_is); (case z2 => k_is); (case z3 => k_is); (case z4 => k_is); ktn_call 93 (.inr (by simp)); tbr_iter xNil)
  exact k _ _ _ (by ktr_room) (by assumption) rfl rfl rfl

end

section
variable {prog : Program} {w : World} {mg mb : Str → Option Value}
theorem world_init {A : Around} {R : Result → Shared → Prop} {h : Heap} {g : Array GenState} {d : Drawn} {tk : Nat} {os : OsState} {x dx : Addr} {n : Nat} (hA : Cx A (n + 1)) (G : Gd w mg mb h) (I : Ins h x dx 172 (fun _ => none) 0)
    (k : ∀ h' tk' mo ad il, Step w mg mb [dx] h h' → Ins h' x dx 172 mo 8 → mo (Str.ofString "adts") = some (.ref ad) → mo (Str.ofString "impls") = some (.ref il) → Dct prog w h' ad [] → h'.PlainList il #[] → 241 < ad → 241 < il → h.get? ad = none → h.get? il = none → R (.ok (.ret .none)) ⟨h', g, d, tk', os⟩) :
    codeAny (model prog w) A (.call (.ref 162) ⟨.ref x :: [], []⟩) R ⟨h, g, d, tk, os⟩ := by
  refine' enterC [dx] (fun a q => List.mem_singleton.mp q ▸ (let ⟨es, n, e, _⟩ := I.od; ⟨_, e⟩)) (m := upd (upd nom (Str.ofString "self") (.ref x)) (Str.ofString "modules") (.none)) (cm := nom) G hA ?k1 ?k2 ?k3 ?k4 ?k5 ?k6 ?k7 ?k8 ?k9 ?_
  case k1 => k_is
  case k2 => k_is
  case k3 => exact binds_K G.X rfl (by k_is) rfl rfl rfl
  case k4 => rfl
  case k5 => intro _; rfl
  case k6 => intro _; rfl
  case k7 => rfl
  case k8 => rfl
  case k9 => rfl
  intro L h₁ tk₁ E' st F CN hA' NL
  generalize A.deeper _ = A2 at hA' ⊢
  have I₁ := I.up0 st
  have ne : dx ≠ L := fun e => by obtain ⟨es, n, q, _⟩ := I.od; rw [e, NL] at q; cases q
  (ktn_call 1 xAssignAttr; (with_reducible refine' nL ?zA ?zB ?zC ?_); (case zA => tb_rel); (case zB => tb_rel); (case zC => tb_rel); (with_reducible refine' nL ?zA ?zB ?zC ?_); (case zA => tb_rel); (case zB => tb_rel); (case zC => tb_rel); (with_reducible refine' setI ?zG ?zI ?zk ?z1 ?z2 ?z3 ?z4 ?_); (case zG => exact Fm.G (by assumption)); (case zI => first | assumption | exact Ins.up0 (by assumption) (by assumption)); (case zk => decide); (case z1 => k_is); (case z2 => k_is); (case z3 => k_is); (case z4 => k_is); ktn_call 93 (.inr (by simp)); ktn_call 1 xAssignAttr)
  rename_i ha sa Ia Fa
  refine newD Fa fun ad h₂ s₂ F₂ Da lad nad nla => ?_
  have Fb := F₂.base [dx]
  have I₂ := Ia.up0 s₂
  have ada : ad ≠ dx := fun e => by obtain ⟨es, n, q, _⟩ := Ia.od; rw [e, q] at nad; cases nad
  have hFa := Fa
  clear F F₂ Fa
  ((with_reducible refine' nL ?zA ?zB ?zC ?_); (case zA => tb_rel); (case zB => tb_rel); (case zC => tb_rel); (with_reducible refine' setI ?zG ?zI ?zk ?z1 ?z2 ?z3 ?z4 ?_); (case zG => exact Fm.G (by assumption)); (case zI => first | assumption | exact Ins.up0 (by assumption) (by assumption)); (case zk => decide); (case z1 => k_is); (case z2 => k_is); (case z3 => k_is); (case z4 => k_is); ktn_call 93 (.inr (by simp)); ktn_call 1 xAssignAttr)
  refine newD (by assumption) fun tdv hv sv Fv Dv lv nv ev => ?_
  ((with_reducible refine' nL ?zA ?zB ?zC ?_); (case zA => tb_rel); (case zB => tb_rel); (case zC => tb_rel); (with_reducible refine' setI ?zG ?zI ?zk ?z1 ?z2 ?z3 ?z4 ?_); (case zG => exact Fm.G (by assumption)); (case zI => first | assumption | exact Ins.up0 (by assumption) (by assumption)); (case zk => decide); (case z1 => k_is); (case z2 => k_is); (case z3 => k_is); (case z4 => k_is); ktn_call 93 (.inr (by simp)); ktn_call 1 xAssignAttr)
  refine newD (by assumption) fun tds hs ss Fs Ds ls ns es => ?_
  ((with_reducible refine' nL ?zA ?zB ?zC ?_); (case zA => tb_rel); (case zB => tb_rel); (case zC => tb_rel); (with_reducible refine' setI ?zG ?zI ?zk ?z1 ?z2 ?z3 ?z4 ?_); (case zG => exact Fm.G (by assumption)); (case zI => first | assumption | exact Ins.up0 (by assumption) (by assumption)); (case zk => decide); (case z1 => k_is); (case z2 => k_is); (case z3 => k_is); (case z4 => k_is); ktn_call 93 (.inr (by simp)); ktn_call 1 xAssignAttr)
  refine newD (by assumption) fun tdt ht st Ft Dt lt nt et => ?_
  ((with_reducible refine' nL ?zA ?zB ?zC ?_); (case zA => tb_rel); (case zB => tb_rel); (case zC => tb_rel); (with_reducible refine' setI ?zG ?zI ?zk ?z1 ?z2 ?z3 ?z4 ?_); (case zG => exact Fm.G (by assumption)); (case zI => first | assumption | exact Ins.up0 (by assumption) (by assumption)); (case zk => decide); (case z1 => k_is); (case z2 => k_is); (case z3 => k_is); (case z4 => k_is); ktn_call 93 (.inr (by simp)); ktn_call 1 xAssignAttr; tbr_iter List_; tbr_iter args_nil)
  rename_i hb sb Ib Fbb
  refine newL Fbb (by decide) fun il h₃ s₃ F₃ Pl lil nil => ?_
  have Fc := F₃.base [dx]
  have I₃ := Ib.up0 s₃
  have ilx : il ≠ dx := fun e => by obtain ⟨es, n, q, _⟩ := Ib.od; rw [e, q] at nil; cases nil
  clear F₃
  ((with_reducible refine' nL ?zA ?zB ?zC ?_); (case zA => tb_rel); (case zB => tb_rel); (case zC => tb_rel); (with_reducible refine' setI ?zG ?zI ?zk ?z1 ?z2 ?z3 ?z4 ?_); (case zG => exact Fm.G (by assumption)); (case zI => first | assumption | exact Ins.up0 (by assumption) (by assumption)); (case zk => decide); (case z1 => k_is); (case z2 => k_is); (case z3 => k_is); (case z4 => k_is); ktn_call 93 (.inr (by simp)); ktn_call 1 xAssignAttr)
  refine newD (by assumption) fun tdc hc sc Fc Dc lc nc ec => ?_
  ((with_reducible refine' nL ?zA ?zB ?zC ?_); (case zA => tb_rel); (case zB => tb_rel); (case zC => tb_rel); (with_reducible refine' setI ?zG ?zI ?zk ?z1 ?z2 ?z3 ?z4 ?_); (case zG => exact Fm.G (by assumption)); (case zI => first | assumption | exact Ins.up0 (by assumption) (by assumption)); (case zk => decide); (case z1 => k_is); (case z2 => k_is); (case z3 => k_is); (case z4 => k_is); ktn_call 93 (.inr (by simp)); ktn_call 1 xAssignAttr)
  refine newD (by assumption) fun tdb hb sb Fb Db lb nb eb => ?_
  ((with_reducible refine' nL ?zA ?zB ?zC ?_); (case zA => tb_rel); (case zB => tb_rel); (case zC => tb_rel); (with_reducible refine' setI ?zG ?zI ?zk ?z1 ?z2 ?z3 ?z4 ?_); (case zG => exact Fm.G (by assumption)); (case zI => first | assumption | exact Ins.up0 (by assumption) (by assumption)); (case zk => decide); (case z1 => k_is); (case z2 => k_is); (case z3 => k_is); (case z4 => k_is); ktn_call 93 (.inr (by simp)); tbr_iter xNil)
  rename_i hz sz Iz Fz
  have F2 := hFa.up s₂
  have Fb2 := F2.join Fbb fun _ q => q
  have F3 := Fb2.up s₃
  have F4 := F3.join Fz fun _ q => q
  have nL : ∀ {a : Addr}, a ≠ L → a ≠ dx → a ∉ [L, dx] := fun h1 h2 q => by
    rcases List.mem_cons.mp q with e | q
    · exact h1 e
    · exact h2 (List.mem_singleton.mp q)
  have D4 := ((Da.up F2.G Fbb.st (nL nla ada)).up Fb2.G s₃ (by simp)).up F3.G Fz.st (nL nla ada)
  have L4 := PL.up F3.G Fz.st Pl (nL (list_ne_locals F3 Pl.isList) ilx)
  refine k hz _ _ ad il F4.st Iz rfl rfl D4 L4 lad lil ?_ ?_
  · cases e : h.get? ad with
    | none => rfl
    | some o => have := hFa.st.keep ad o (ne87 lad) (fun q => ada (List.mem_singleton.mp q)) e; rw [nad] at this; cases this
  · cases e : h.get? il with
    | none => rfl
    | some o => have := Fb2.st.keep il o (ne87 lil) (fun q => ilx (List.mem_singleton.mp q)) e; rw [nil] at this; cases this
end

section
variable {prog : Program} {w : World} {mg mb : Str → Option Value}
theorem has_drop_spec {A : Around} {E : Value → Shared → Prop} {h : Heap} {g : Array GenState} {d : Drawn} {tk : Nat} {os : OsState} {v wv : Value} {t : Ty} {W : WD} {Q : Value → Shared → Prop} (hA : Cx A 14) (hn : t.dep ≤ 10) (G : Gd w mg mb h) (X : XT h v (enc t)) (WI : WorldIs prog w h wv W)
    (k : ∀ h' tk', Step w mg mb [] h h' → Q (.bool (hasD W t)) ⟨h', g, d, tk', os⟩) : wpAny (model prog w) A (call (.ref 97) [v, wv]) Q E ⟨h, g, d, tk, os⟩ := by
  refine hideG fun gP kP => ?_; obtain ⟨a, dx, mo, ad, il, aStr, aE, aLst, rv, rfl, WI1, e1, e2, la, WD', s1, s2, s3, WL, WR⟩ := WI; refine kP ?_; clear kP gP
  refine' enter [] (fun _ q => nomatch q) (m := upd (upd nom (Str.ofString "told") v) (Str.ofString "world") (.ref a)) (cm := nom) G hA ?k1 ?k2 ?k3 ?k4 ?k5 ?k6 ?k7 ?k8 ?k9 ?_
  case k1 => k_is
  case k2 => k_is
  case k3 => exact BindsTo.of_eq rfl
  case k4 => rfl
  case k5 => intro _; rfl
  case k6 => intro _; rfl
  case k7 => rfl
  case k8 => rfl
  case k9 => rfl
  intro L h₁ tk₁ E' st F CN hA' NL
  generalize A.deeper _ = A2 at hA' ⊢
  refine' xForL (wr := []) ?hF [Str.ofString "row"] [] hA' ?hs ?_
  case hF => exact F
  case hs => exact fun _ => rfl
  ((with_reducible refine' Attribute_any_ ?_ ?zs); (case zs => with_unfolding_all rfl); (with_reducible refine' nL ?zA ?zB ?zC ?_); (case zA => tb_rel); (case zB => tb_rel); (case zC => tb_rel); (with_reducible refine' getI ?zG ?zI ?zv ?z1 ?z2 ?z3 ?zh ?_); (case zG => exact Fm.G (by assumption)); (case zI => first | assumption | exact Ins.up0 (Fm.stJ (by assumption) (by assumption)) (by assumption) | exact Ins.up0 (Fm.st (by assumption)) (by assumption)); (case zv => assumption); (case z1 => k_is); (case z2 => k_is); (case z3 => k_is); (case zh => first | rfl | exact XT.handed (by assumption)))
  refine ⟨h₁, _, il, rv, rfl, rfl, F, IsList.up G st WL (by simp), (fun q => nomatch q), (fun _ q => nomatch q), fun i _ => (W.rows.take i).any (fun r => !r.cp && (mch r.self (era t)).isSome) = false, rfl, fun _ _ _ _ _ _ j => j, ?_, ?_⟩
  · intro i x u h₃ tk₃ E₂ hx hj st₃ Fo F₃
    refine hideG fun gP kP => ?_; obtain ⟨r, hri, hR⟩ := WR.get hx; refine kP ?_; clear kP gP
    refine hideG fun gP kP => ?_; obtain ⟨ra, rdx, rmo, tv, sv, pl, pvs, rfl, RI, f1, x1, f2, x2, f3, l3, x3⟩ := hR; refine kP ?_; clear kP gP
    have hnext : ∀ b, (!r.cp && (mch r.self (era t)).isSome) = b → b = false → (W.rows.take (i + 1)).any (fun r => !r.cp && (mch r.self (era t)).isSome) = false := fun b e1 e2 => by
      rw [List.take_add_one, List.any_append, hj, hri]; simp [e1, e2]
    refine wpAny_assign_Name ?_
    cases hc : r.cp with
    | true =>
      rw [hc] at x1 hnext
      refine hideG fun gP kP => ?_; obtain ⟨tt, rfl⟩ := XT.str_inv (x := Str.ofString "Copy") x1; refine kP ?_; clear kP gP
      (ktn_call 2 sL; intros; tbr_iter xIf0; tbr_iter wpAny_isTrue_BoolOp; tbr_iter wpAny_allTrue_And_cons; tbr_iter wpAny_isTrue_Compare1; (with_reducible refine' Attribute_any_ ?_ ?zs); (case zs => with_unfolding_all rfl); (with_reducible refine' nL ?zA ?zB ?zC ?_); (case zA => tb_rel); (case zB => tb_rel); (case zC => tb_rel); (with_reducible refine' getI ?zG ?zI ?zv ?z1 ?z2 ?z3 ?zh ?_); (case zG => exact Fm.G (by assumption)); (case zI => first | assumption | exact Ins.up0 (Fm.stJ (by assumption) (by assumption)) (by assumption) | exact Ins.up0 (Fm.st (by assumption)) (by assumption)); (case zv => assumption); (case z1 => k_is); (case z2 => k_is); (case z3 => k_is); (case zh => first | rfl | exact XT.handed (by assumption)); (with_reducible refine' nameG ?zA ?zB ?zC ?zD ?zE ?zF ?_); (case zA => tb_rel); (case zB => tb_rel); (case zC => k_is); (case zD => tb_rel); (case zE => tb_rel); (case zF => tb_rel); tbr_iter eq_str; tbr_iter wpAny_truthy_bool; ktn_call 1 ifF; ktn_call 1 ifF; tbr_iter xNil; tbr_iter turn_next)
      exact ⟨_, _, _, rfl, by assumption, by tb_rel, hnext _ rfl rfl⟩
    | false =>
      rw [hc] at x1 hnext
      refine hideG fun gP kP => ?_; obtain ⟨tt, rfl⟩ := XT.str_inv (x := Str.ofString "Drop") x1; refine kP ?_; clear kP gP
      (ktn_call 2 sL; intros; tbr_iter xIf0; tbr_iter wpAny_isTrue_BoolOp; tbr_iter wpAny_allTrue_And_cons; tbr_iter wpAny_isTrue_Compare1; (with_reducible refine' Attribute_any_ ?_ ?zs); (case zs => with_unfolding_all rfl); (with_reducible refine' nL ?zA ?zB ?zC ?_); (case zA => tb_rel); (case zB => tb_rel); (case zC => tb_rel); (with_reducible refine' getI ?zG ?zI ?zv ?z1 ?z2 ?z3 ?zh ?_); (case zG => exact Fm.G (by assumption)); (case zI => first | assumption | exact Ins.up0 (Fm.stJ (by assumption) (by assumption)) (by assumption) | exact Ins.up0 (Fm.st (by assumption)) (by assumption)); (case zv => assumption); (case z1 => k_is); (case z2 => k_is); (case z3 => k_is); (case zh => first | rfl | exact XT.handed (by assumption)); (with_reducible refine' nameG ?zA ?zB ?zC ?zD ?zE ?zF ?_); (case zA => tb_rel); (case zB => tb_rel); (case zC => k_is); (case zD => tb_rel); (case zE => tb_rel); (case zF => tb_rel); tbr_iter eq_str; tbr_iter wpAny_truthy_bool; ktn_call 1 ifT; tbr_iter wpAny_allTrue_And_cons; ktn_call 91 isTrue_plain; ktn_call 91 Call_; (with_reducible refine' nameG ?zA ?zB ?zC ?zD ?zE ?zF ?_); (case zA => tb_rel); (case zB => tb_rel); (case zC => k_is); (case zD => tb_rel); (case zE => tb_rel); (case zF => tb_rel); (with_reducible refine' callF ?zA ?zB ?zC ?zD ?_); (case zA => tb_rel); (case zB => k_is); (case zC => tb_rel); (case zD => tb_rel); ktn_call 91 args_cons; ktn_call 91 Call_; (with_reducible refine' nameG ?zA ?zB ?zC ?zD ?zE ?zF ?_); (case zA => tb_rel); (case zB => tb_rel); (case zC => k_is); (case zD => tb_rel); (case zE => tb_rel); (case zF => tb_rel); (with_reducible refine' callF ?zA ?zB ?zC ?zD ?_); (case zA => tb_rel); (case zB => k_is); (case zC => tb_rel); (case zD => tb_rel); ktn_call 91 args_cons; (with_reducible refine' Attribute_any_ ?_ ?zs); (case zs => with_unfolding_all rfl); (with_reducible refine' nL ?zA ?zB ?zC ?_); (case zA => tb_rel); (case zB => tb_rel); (case zC => tb_rel); (with_reducible refine' getI ?zG ?zI ?zv ?z1 ?z2 ?z3 ?zh ?_); (case zG => exact Fm.G (by assumption)); (case zI => first | assumption | exact Ins.up0 (Fm.stJ (by assumption) (by assumption)) (by assumption) | exact Ins.up0 (Fm.st (by assumption)) (by assumption)); (case zv => assumption); (case z1 => k_is); (case z2 => k_is); (case z3 => k_is); (case zh => first | rfl | exact XT.handed (by assumption)); tbr_iter args_nil; (with_reducible refine' And.intro (Fm.G ?zF) ?_; (case zF => assumption)); (with_reducible refine' erased_spec (n := 10) ?zA ?zn ?zG ?zX ?_); (case zA => exact Cx.le (by assumption) (by omega)); (case zG => exact Fm.G (by assumption)); (case zX => tb_rel); (case zn => first | assumption | exact ImpD.self_dep _); ktn_call 96 rfl; ktn_call 91 args_cons; ktn_call 91 Call_; (with_reducible refine' nameG ?zA ?zB ?zC ?zD ?zE ?zF ?_); (case zA => tb_rel); (case zB => tb_rel); (case zC => k_is); (case zD => tb_rel); (case zE => tb_rel); (case zF => tb_rel); (with_reducible refine' callF ?zA ?zB ?zC ?zD ?_); (case zA => tb_rel); (case zB => k_is); (case zC => tb_rel); (case zD => tb_rel); (with_reducible refine' aL1 ?zA ?zB ?zC ?_); (case zA => tb_rel); (case zB => tb_rel); (case zC => tb_rel); (with_reducible refine' And.intro (Fm.G ?zF) ?_; (case zF => assumption)); (with_reducible refine' erased_spec (n := 10) ?zA ?zn ?zG ?zX ?_); (case zA => exact Cx.le (by assumption) (by omega)); (case zG => exact Fm.G (by assumption)); (case zX => tb_rel); (case zn => first | assumption | exact ImpD.self_dep _); ktn_call 96 rfl; ktn_call 91 args_cons)
      refine newDn (by assumption) fun td h₄ s₄ F₄ D₄ l₄ n₄ ne₄ nc₄ _ => ?_
      (tbr_iter args_nil; (with_reducible refine' And.intro (Fm.G ?zF) ?_; (case zF => assumption)))
      refine matched_spec (n := 10) (hA'.le (by omega)) F₄.G (p := era r.self) (t := era t) (r.self_era.symm ▸ r.self_is) (by tb_rel) (by tb_rel) D₄ l₄ fun rr h₅ tk₅ s₅ MP => ?_
      have F₅ := F₄.upD s₅ n₄ ne₄ nc₄
      unfold MchPost at MP
      rw [r.self_era] at MP
      cases hm : mch r.self (era t) with
      | none =>
        rw [hm] at MP; subst MP
        (tbr_iter wpAny_truthy_bool; ktn_call 1 ifF; ktn_call 1 ifF; tbr_iter xNil; tbr_iter turn_next)
        exact ⟨_, _, _, rfl, by assumption, by tb_rel, hnext _ rfl (by simp [hm])⟩
      | some ou =>
        rw [hm] at MP; obtain ⟨rfl, _⟩ := MP
        (tbr_iter wpAny_truthy_bool; ktn_call 1 ifT; tbr_iter wpAny_allTrue_And_nil; ktn_call 1 ifT; tbr_iter rB; tbr_iter after_ret; tbr_iter turn_ret; tbr_iter back_ret)
        have e : hasD W t = true := by
          unfold hasD; rw [List.any_eq_true]; exact ⟨r, List.mem_of_getElem? hri, by simp [hc, hm]⟩
        rw [← e]
        exact k _ _ (Fm.stJ F₅ Fo)
  · intro u h' tk' hj st' F'
    (tbr_iter rB; tbr_iter back_ret)
    have e : hasD W t = false := by
      rw [WR.len, List.take_of_length_le (Nat.le_refl _)] at hj; exact hj
    rw [← e]
    exact k _ _ (by ktr_room)
end

section
variable {prog : Program} {w : World} {mg mb : Str → Option Value}
/-- is_copy's contract for u, behind the heap h -/
def CopyFor (prog : Program) (w : World) (mg mb : Str → Option Value) (W : WD) (h : Heap) (wv bv : Value) (n : Nat) (u : Ty) : Prop :=
  ∀ {A : Around} {E : Value → Shared → Prop} {h' : Heap} {g : Array GenState} {d : Drawn} {tk : Nat} {os : OsState} {v : Value} {Q : Value → Shared → Prop}, Step w mg mb [] h h' → Cx A n → Gd w mg mb h' → XT h' v (enc u) →
    (∀ h'' tk', Step w mg mb [] h' h'' → Q (.bool (isC W u)) ⟨h'', g, d, tk', os⟩) → wpAny (model prog w) A (call (.ref 78) [v, wv, bv]) Q E ⟨h', g, d, tk, os⟩
theorem impl_bounds_spec {A : Around} {E : Value → Shared → Prop} {h : Heap} {g : Array GenState} {d : Drawn} {tk : Nat} {os : OsState} {rv wv bv : Value} {td : Addr} {W : WD} {i : ImpD} {ou : Option Ty} {n : Nat} {Q : Value → Shared → Prop} (hA : Cx A (n + 1)) (G : Gd w mg mb h) (I : ImpIs h rv i) (T : TabX prog w h td ou)
    (ho : i.e = true → ∃ u, ou = some u ∧ CopyFor prog w mg mb W h wv bv n u)
    (k : ∀ h' tk', Step w mg mb [] h h' → Q (.bool (bndOk W i ou)) ⟨h', g, d, tk', os⟩) : wpAny (model prog w) A (call (.ref 73) [rv, .ref td, wv, bv]) Q E ⟨h, g, d, tk, os⟩ := by
  refine hideG fun gP kP => ?_; obtain ⟨ra, rdx, rmo, tv, sv, pl, pvs, rfl, RI, f1, x1, f2, x2, f3, l3, x3⟩ := I; refine kP ?_; clear kP gP
  refine' enter [] (fun _ q => nomatch q) (m := upd (upd (upd (upd nom (Str.ofString "row") (.ref ra)) (Str.ofString "table") (.ref td)) (Str.ofString "world") wv) (Str.ofString "bounds") bv) (cm := nom) G hA ?k1 ?k2 ?k3 ?k4 ?k5 ?k6 ?k7 ?k8 ?k9 ?_
  case k1 => k_is
  case k2 => k_is
  case k3 => exact BindsTo.of_eq rfl
  case k4 => rfl
  case k5 => intro _; rfl
  case k6 => intro _; rfl
  case k7 => rfl
  case k8 => rfl
  case k9 => rfl
  intro L h₁ tk₁ E' st F CN hA' NL
  generalize A.deeper _ = A2 at hA' ⊢
  refine hideG fun gP kP => ?_; obtain ⟨kvs, D, h1, q⟩ := T; refine kP ?_; clear kP gP
  refine' xForL (wr := []) ?hF [Str.ofString "name", Str.ofString "traits"] [] hA' ?hs ?_
  case hF => exact F
  case hs => exact fun _ => rfl
  ((with_reducible refine' Attribute_any_ ?_ ?zs); (case zs => with_unfolding_all rfl); (with_reducible refine' nL ?zA ?zB ?zC ?_); (case zA => tb_rel); (case zB => tb_rel); (case zC => tb_rel); (with_reducible refine' getI ?zG ?zI ?zv ?z1 ?z2 ?z3 ?zh ?_); (case zG => exact Fm.G (by assumption)); (case zI => first | assumption | exact Ins.up0 (Fm.stJ (by assumption) (by assumption)) (by assumption) | exact Ins.up0 (Fm.st (by assumption)) (by assumption)); (case zv => assumption); (case z1 => k_is); (case z2 => k_is); (case z3 => k_is); (case zh => first | rfl | exact XT.handed (by assumption)))
  refine ⟨h₁, _, pl, pvs, rfl, rfl, F, IsList.up G st l3 (by simp), (fun q => nomatch q), (fun _ q => nomatch q), fun j _ => 0 < j → bndOk W i ou = true, (fun q => absurd q (by decide)), fun _ _ _ _ _ _ j => j, ?_, ?_⟩
  · intro j x u h₃ tk₃ E₂ hx hj st₃ Fo F₃
    cases he : i.e with
    | false =>
      have : i.params = [] := by unfold ImpD.params; rw [he]; rfl
      rw [this] at x3
      rw [x3.inv0] at hx
      simp at hx
    | true =>
      refine hideG fun gP kP => ?_; obtain ⟨u₀, rfl, CF⟩ := ho he; refine kP ?_; clear kP gP
      have ep : i.params = [.tuple [sty "T", .tuple (if i.ask then [sty "Copy"] else [])]] := by unfold ImpD.params; rw [he]; rfl
      rw [ep] at x3
      refine hideG fun gP kP => ?_; obtain ⟨x', vs', rfl, xx, xs'⟩ := x3.inv; refine kP ?_; clear kP gP
      obtain rfl := xs'.inv0
      refine hideG fun gP kP => ?_; obtain ⟨vT, rfl, xT⟩ := q; refine kP ?_; clear kP gP
      obtain rfl : j = 0 := by
        cases j with
        | zero => rfl
        | succ j => simp at hx
      cases hx
      refine hideG fun gP kP => ?_; obtain ⟨t0, a, b, rfl, hT, xa, xb⟩ := XT.two ((xx.up st).up st₃); refine kP ?_; clear kP gP
      refine hideG fun gP kP => ?_; obtain ⟨tt, rfl⟩ := XT.str_inv (x := Str.ofString "T") xa; refine kP ?_; clear kP gP
      refine asg2 F₃ hA' hT fun h₄ st₄ F₄ => ?_
      cases ha : i.ask with
      | false =>
        rw [ha] at xb
        simp only [Bool.false_eq_true, if_false] at xb
        (ktn_call 2 sL; intros; ktn_call 2 sL; intros; tbr_iter xIf0; tbr_iter wpAny_isTrue_BoolOp; tbr_iter wpAny_allTrue_And_cons; tbr_iter wpAny_isTrue_Compare1; (with_reducible refine' nameG ?zA ?zB ?zC ?zD ?zE ?zF ?_); (case zA => tb_rel); (case zB => tb_rel); (case zC => k_is); (case zD => tb_rel); (case zE => tb_rel); (case zF => tb_rel); (with_reducible refine' nL ?zA ?zB ?zC ?_); (case zA => tb_rel); (case zB => tb_rel); (case zC => tb_rel); (with_reducible refine' inX ?zA ?zc ?zx ?zs ?zd ?ze ?_); (case zA => assumption); (case zc => tb_rel); (case zx => tb_rel); (case zs => decide +kernel); (case zd => decide +kernel); (case ze => decide +kernel); tbr_iter wpAny_truthy_bool; ktn_call 1 ifF; ktn_call 1 ifF; tbr_iter xNil; tbr_iter turn_next)
        exact ⟨_, _, _, rfl, by assumption, by tb_rel, fun _ => by simp [bndOk, ha]⟩
      | true =>
        rw [ha] at xb
        simp only [if_true] at xb
        (ktn_call 2 sL; intros; ktn_call 2 sL; intros; tbr_iter xIf0; tbr_iter wpAny_isTrue_BoolOp; tbr_iter wpAny_allTrue_And_cons; tbr_iter wpAny_isTrue_Compare1; (with_reducible refine' nameG ?zA ?zB ?zC ?zD ?zE ?zF ?_); (case zA => tb_rel); (case zB => tb_rel); (case zC => k_is); (case zD => tb_rel); (case zE => tb_rel); (case zF => tb_rel); (with_reducible refine' nL ?zA ?zB ?zC ?_); (case zA => tb_rel); (case zB => tb_rel); (case zC => tb_rel); (with_reducible refine' inX ?zA ?zc ?zx ?zs ?zd ?ze ?_); (case zA => assumption); (case zc => tb_rel); (case zx => tb_rel); (case zs => decide +kernel); (case zd => decide +kernel); (case ze => decide +kernel); tbr_iter wpAny_truthy_bool; ktn_call 1 ifT; tbr_iter wpAny_allTrue_And_cons; tbr_iter wpAny_isTrue_Not; ktn_call 91 isTrue_plain; ktn_call 91 Call_; (with_reducible refine' nameG ?zA ?zB ?zC ?zD ?zE ?zF ?_); (case zA => tb_rel); (case zB => tb_rel); (case zC => k_is); (case zD => tb_rel); (case zE => tb_rel); (case zF => tb_rel); (with_reducible refine' callF ?zA ?zB ?zC ?zD ?_); (case zA => tb_rel); (case zB => k_is); (case zC => tb_rel); (case zD => tb_rel); ktn_call 91 args_cons; (with_reducible refine' mGet2 ?zA ?zB ?zC ?_); (case zA => tb_rel); (case zB => tb_rel); (case zC => tb_rel); (with_reducible refine' nL ?zA ?zB ?zC ?_); (case zA => tb_rel); (case zB => tb_rel); (case zC => tb_rel))
        refine ⟨td, _, rfl, h1, D.up G (Fm.stJ (by assumption) Fo) (by simp), ?_⟩
        ((with_reducible refine' nL ?zA ?zB ?zC ?_); (case zA => tb_rel); (case zB => tb_rel); (case zC => tb_rel); tbr_iter Tuple_; tbr_iter aS; (with_reducible refine' aL1 ?zA ?zB ?zC ?_); (case zA => tb_rel); (case zB => tb_rel); (case zC => tb_rel); (with_reducible refine' newTupX ?zA ?zB ?zC ?_); (case zA => tb_rel); (case zB => tb_rel); (case zC => tb_rel); intros)
        refine ⟨_, _, _, _, rfl, rfl, D.up G (Fm.stJ (by assumption) Fo) (by simp), ?_⟩
        ((with_reducible refine' aL ?zA ?zB ?zC ?_); (case zA => tb_rel); (case zB => tb_rel); (case zC => tb_rel); (with_reducible refine' aL1 ?zA ?zB ?zC ?_); (case zA => tb_rel); (case zB => tb_rel); (case zC => tb_rel); (with_reducible refine' And.intro (Fm.G ?zF) ?_; (case zF => assumption)))
        refine CF (Fm.stJ (by assumption) Fo) hA' (Fm.G (by assumption)) (xT.up (Fm.stJ (by assumption) Fo)) fun h₅ tk₅ st₅ => ?_
        have F₅ := Fm.up (by assumption) st₅
        cases hc : isC W u₀ with
        | true =>
          (tbr_iter wpAny_truthy_bool; ktn_call 1 ifF; ktn_call 1 ifF; tbr_iter xNil; tbr_iter turn_next)
          exact ⟨_, _, _, rfl, by assumption, by tb_rel, fun _ => by simp [bndOk, ha, hc]⟩
        | false =>
          (tbr_iter wpAny_truthy_bool; ktn_call 1 ifT; tbr_iter wpAny_allTrue_And_nil; ktn_call 1 ifT; tbr_iter rB; tbr_iter after_ret; tbr_iter turn_ret; tbr_iter back_ret)
          have e : bndOk W i (some u₀) = false := by simp [bndOk, ha, hc, he]
          rw [← e]
          exact k _ _ (Fm.stJ F₅ Fo)
  · intro u h' tk' hj st' F'
    (tbr_iter rB; tbr_iter back_ret)
    have e : bndOk W i ou = true := by
      by_cases hp : 0 < pvs.length
      · exact hj hp
      · unfold bndOk
        cases ou with
        | none => rfl
        | some u =>
          cases he : i.e with
          | false => simp
          | true =>
            have ep : i.params = [.tuple [sty "T", .tuple (if i.ask then [sty "Copy"] else [])]] := by unfold ImpD.params; rw [he]; rfl
            rw [ep] at x3
            have := x3.len
            simp at this; omega
    rw [← e]
    exact k _ _ (by ktr_room)
end

local macro_rules | `(tactic| ktn_call 99 $_) => `(tactic| ktn_call 97 Dct.go)
section
variable {prog : Program} {w : World} {mg mb : Str → Option Value}
theorem is_copy_spec : ∀ (N : Nat) {A : Around} {E : Value → Shared → Prop} {h : Heap} {g : Array GenState} {d : Drawn} {tk : Nat} {os : OsState} {v wv bv : Value} {t : Ty} {W : WD} {yb : Bool} {Q : Value → Shared → Prop}, t.dep ≤ N → N ≤ 10 → Cx A (2 * N + 16) → Gd w mg mb h →
    XT h v (enc t) → WorldIs prog w h wv W → BoundsIs prog w h bv yb → (∀ h' tk', Step w mg mb [] h h' → Q (.bool (isC W t)) ⟨h', g, d, tk', os⟩) →
    wpAny (model prog w) A (call (.ref 78) [v, wv, bv]) Q E ⟨h, g, d, tk, os⟩ := by
  intro N
  induction N using Nat.strongRecOn with
  | ind N ih =>
  intro A E h g d tk os v wv bv t W yb Q hN hN10 hA G X WI BI k
  refine' enter [] (fun _ q => nomatch q) (m := upd nom (Str.ofString "told") v) (cm := upd (upd nom (Str.ofString "world") wv) (Str.ofString "bounds") bv) G hA ?k1 ?k2 ?k3 ?k4 ?k5 ?k6 ?k7 ?k8 ?k9 ?_
  case k1 => k_is
  case k2 => k_is
  case k3 => exact BindsTo.of_eq rfl
  case k4 => rfl
  case k5 => intro _; rfl
  case k6 => intro _; rfl
  case k7 => rfl
  case k8 => rfl
  case k9 => rfl
  intro L h₁ tk₁ E' st F CN hA' NL
  generalize A.deeper _ = A2 at hA' ⊢
  have hdt : t.dep ≤ 10 := by omega
  have X₁ := X.up st
  have X' : XT h v (.tuple (.str t.kind :: t.rest)) := enc_eq t ▸ X
  have key : ∀ p, p.dep < t.dep → CopyFor prog w mg mb W h wv bv (2 * N + 14) p := fun p hp A E h' g d tk os v Q s hA G' X' k => ih (N - 1) (by omega) (by omega) (by omega) (hA.le (by omega)) G' X' (WI.up G s) (BI.up G s) k
  rcases kinds t with hk | hk | hk | hk
  · -- an adt
    rw [hk] at X'
    refine hideG fun gP kP => ?_; obtain ⟨a, dx, mo, ad, il, aStr, aE, aLst, rv, rfl, WI1, e1, e2, la, WD', s1, s2, s3, WL, WR⟩ := id WI; refine kP ?_; clear kP gP
    clear X₁
    ((with_reducible refine' yX ?zA ?zB ?zC ?zD ?zE ?zF ?zG ?_); (case zA => tb_rel); (case zB => tb_rel); (case zC => tb_rel); (case zD => tb_rel); (case zE => tb_rel); (case zF => tb_rel); (case zG => tb_rel); intros; tbr_iter xIf0; tbr_iter wpAny_isTrue_Compare1; (with_reducible refine' nL ?zA ?zB ?zC ?_); (case zA => tb_rel); (case zB => tb_rel); (case zC => tb_rel); tbr_iter Tuple_; tbr_iter aS; tbr_iter aS; tbr_iter aS; tbr_iter aS1; (with_reducible refine' newTupX ?zA ?zB ?zC ?_); (case zA => tb_rel); (case zB => tb_rel); (case zC => tb_rel); intros; (with_reducible refine' inX ?zA ?zc ?zx ?zs ?zd ?ze ?_); (case zA => assumption); (case zc => tb_rel); (case zx => tb_rel); (case zs => decide +kernel); (case zd => decide +kernel); (case ze => decide +kernel); tbr_iter wpAny_truthy_bool; ktn_call 1 ifF; (with_reducible refine' iN ?zA ?zB ?zC ?zD ?_); (case zA => tb_rel); (case zB => tb_rel); (case zC => tb_rel); (case zD => tb_rel); tbr_iter xIf0; tbr_iter wpAny_isTrue_BoolOp; tbr_iter wpAny_allTrue_Or_cons; (with_reducible refine' tN ?zA ?zB ?zC ?_); (case zA => tb_rel); (case zB => tb_rel); (case zC => tb_rel); ktn_call 1 ifF; tbr_iter wpAny_allTrue_Or_cons; (with_reducible refine' tN ?zA ?zB ?zC ?_); (case zA => tb_rel); (case zB => tb_rel); (case zC => tb_rel); ktn_call 1 ifF; tbr_iter wpAny_allTrue_Or_nil; ktn_call 1 ifF; (with_reducible refine' iN ?zA ?zB ?zC ?zD ?_); (case zA => tb_rel); (case zB => tb_rel); (case zC => tb_rel); (case zD => tb_rel); tbr_iter xIf0; (with_reducible refine' tNn ?zA ?zB ?zC ?_); (case zA => tb_rel); (case zB => tb_rel); (case zC => tb_rel); ktn_call 1 ifF)
    refine' xForL (wr := []) ?hF [Str.ofString "row", Str.ofString "table"] [] hA' ?hs ?_
    case hF => assumption
    case hs => exact fun _ => rfl
    ((with_reducible refine' Attribute_any_ ?_ ?zs); (case zs => with_unfolding_all rfl); (with_reducible refine' nameC ?zA ?zB ?zC ?zD ?zE ?zF ?_); (case zA => tb_rel); (case zB => tb_rel); (case zC => tb_rel); (case zD => tb_rel); (case zE => tb_rel); (case zF => tb_rel); (with_reducible refine' getI ?zG ?zI ?zv ?z1 ?z2 ?z3 ?zh ?_); (case zG => exact Fm.G (by assumption)); (case zI => first | assumption | exact Ins.up0 (Fm.stJ (by assumption) (by assumption)) (by assumption) | exact Ins.up0 (Fm.st (by assumption)) (by assumption)); (case zv => assumption); (case z1 => k_is); (case z2 => k_is); (case z3 => k_is); (case zh => first | rfl | exact XT.handed (by assumption)))
    refine ⟨_, _, il, rv, rfl, rfl, by assumption, IsList.up G (Fm.st (by assumption)) WL (by simp), (fun q => nomatch q), (fun _ q => nomatch q), fun i _ => (W.rows.take i).any (rowC W t) = false, rfl, fun _ _ _ _ _ _ j => j, ?_, ?_⟩
    · intro i x u h₃ tk₃ E₂ hx hj st₃ Fo F₃
      refine hideG fun gP kP => ?_; obtain ⟨r, hri, hR⟩ := WR.get hx; refine kP ?_; clear kP gP
      refine hideG fun gP kP => ?_; obtain ⟨ra, rdx, rmo, tv, sv, pl, pvs, rfl, RI, f1, x1, f2, x2, f3, l3, x3⟩ := id hR; refine kP ?_; clear kP gP
      have hnext : ∀ b, rowC W t r = b → b = false → (W.rows.take (i + 1)).any (rowC W t) = false := fun b e1 e2 => by
        rw [List.take_add_one, List.any_append, hj, hri]; simp [e1, e2]
      refine wpAny_assign_Name ?_
      (ktn_call 2 sL; intros; ktn_call 1 xAssign)
      refine newDn (by assumption) fun td h₄ s₄ F₄ D₄ l₄ n₄ ne₄ nc₄ _ => ?_
      have Fo4 := Fm.join Fo F₄ (fun _ q => nomatch q)
      have FB := F₄.base []
      cases hc : r.cp with
      | false =>
        rw [hc] at x1
        refine hideG fun gP kP => ?_; obtain ⟨tt, rfl⟩ := XT.str_inv (x := Str.ofString "Drop") x1; refine kP ?_; clear kP gP
        (ktn_call 2 sL; intros; tbr_iter xIf0; tbr_iter wpAny_isTrue_BoolOp; tbr_iter wpAny_allTrue_And_cons; tbr_iter wpAny_isTrue_Compare1; (with_reducible refine' Attribute_any_ ?_ ?zs); (case zs => with_unfolding_all rfl); (with_reducible refine' nL ?zA ?zB ?zC ?_); (case zA => tb_rel); (case zB => tb_rel); (case zC => tb_rel); (with_reducible refine' getI ?zG ?zI ?zv ?z1 ?z2 ?z3 ?zh ?_); (case zG => exact Fm.G (by assumption)); (case zI => first | assumption | exact Ins.up0 (Fm.stJ (by assumption) (by assumption)) (by assumption) | exact Ins.up0 (Fm.st (by assumption)) (by assumption)); (case zv => assumption); (case z1 => k_is); (case z2 => k_is); (case z3 => k_is); (case zh => first | rfl | exact XT.handed (by assumption)); (with_reducible refine' nameG ?zA ?zB ?zC ?zD ?zE ?zF ?_); (case zA => tb_rel); (case zB => tb_rel); (case zC => k_is); (case zD => tb_rel); (case zE => tb_rel); (case zF => tb_rel); tbr_iter eq_str; tbr_iter wpAny_truthy_bool; ktn_call 1 ifF; ktn_call 1 ifF; tbr_iter xNil; tbr_iter turn_next)
        exact ⟨_, _, _, rfl, Fm.join (wr' := []) F₄ (by assumption) (fun _ q => nomatch q), by tb_rel, hnext _ rfl (by simp [rowC, hc])⟩
      | true =>
        rw [hc] at x1
        refine hideG fun gP kP => ?_; obtain ⟨tt, rfl⟩ := XT.str_inv (x := Str.ofString "Copy") x1; refine kP ?_; clear kP gP
        (ktn_call 2 sL; intros; tbr_iter xIf0; tbr_iter wpAny_isTrue_BoolOp; tbr_iter wpAny_allTrue_And_cons; tbr_iter wpAny_isTrue_Compare1; (with_reducible refine' Attribute_any_ ?_ ?zs); (case zs => with_unfolding_all rfl); (with_reducible refine' nL ?zA ?zB ?zC ?_); (case zA => tb_rel); (case zB => tb_rel); (case zC => tb_rel); (with_reducible refine' getI ?zG ?zI ?zv ?z1 ?z2 ?z3 ?zh ?_); (case zG => exact Fm.G (by assumption)); (case zI => first | assumption | exact Ins.up0 (Fm.stJ (by assumption) (by assumption)) (by assumption) | exact Ins.up0 (Fm.st (by assumption)) (by assumption)); (case zv => assumption); (case z1 => k_is); (case z2 => k_is); (case z3 => k_is); (case zh => first | rfl | exact XT.handed (by assumption)); (with_reducible refine' nameG ?zA ?zB ?zC ?zD ?zE ?zF ?_); (case zA => tb_rel); (case zB => tb_rel); (case zC => k_is); (case zD => tb_rel); (case zE => tb_rel); (case zF => tb_rel); tbr_iter eq_str; tbr_iter wpAny_truthy_bool; ktn_call 1 ifT; tbr_iter wpAny_allTrue_And_cons; ktn_call 91 isTrue_plain; ktn_call 91 Call_; (with_reducible refine' nameG ?zA ?zB ?zC ?zD ?zE ?zF ?_); (case zA => tb_rel); (case zB => tb_rel); (case zC => k_is); (case zD => tb_rel); (case zE => tb_rel); (case zF => tb_rel); (with_reducible refine' callF ?zA ?zB ?zC ?zD ?_); (case zA => tb_rel); (case zB => k_is); (case zC => tb_rel); (case zD => tb_rel); ktn_call 91 args_cons; ktn_call 91 Call_; (with_reducible refine' nameG ?zA ?zB ?zC ?zD ?zE ?zF ?_); (case zA => tb_rel); (case zB => tb_rel); (case zC => k_is); (case zD => tb_rel); (case zE => tb_rel); (case zF => tb_rel); (with_reducible refine' callF ?zA ?zB ?zC ?zD ?_); (case zA => tb_rel); (case zB => k_is); (case zC => tb_rel); (case zD => tb_rel); ktn_call 91 args_cons; (with_reducible refine' Attribute_any_ ?_ ?zs); (case zs => with_unfolding_all rfl); (with_reducible refine' nL ?zA ?zB ?zC ?_); (case zA => tb_rel); (case zB => tb_rel); (case zC => tb_rel); (with_reducible refine' getI ?zG ?zI ?zv ?z1 ?z2 ?z3 ?zh ?_); (case zG => exact Fm.G (by assumption)); (case zI => first | assumption | exact Ins.up0 (Fm.stJ (by assumption) (by assumption)) (by assumption) | exact Ins.up0 (Fm.st (by assumption)) (by assumption)); (case zv => assumption); (case z1 => k_is); (case z2 => k_is); (case z3 => k_is); (case zh => first | rfl | exact XT.handed (by assumption)); tbr_iter args_nil; (with_reducible refine' And.intro (Fm.G ?zF) ?_; (case zF => assumption)); (with_reducible refine' erased_spec (n := 10) ?zA ?zn ?zG ?zX ?_); (case zA => exact Cx.le (by assumption) (by omega)); (case zG => exact Fm.G (by assumption)); (case zX => tb_rel); (case zn => first | assumption | exact ImpD.self_dep _); ktn_call 96 rfl; ktn_call 91 args_cons; ktn_call 91 Call_; (with_reducible refine' nameG ?zA ?zB ?zC ?zD ?zE ?zF ?_); (case zA => tb_rel); (case zB => tb_rel); (case zC => k_is); (case zD => tb_rel); (case zE => tb_rel); (case zF => tb_rel); (with_reducible refine' callF ?zA ?zB ?zC ?zD ?_); (case zA => tb_rel); (case zB => k_is); (case zC => tb_rel); (case zD => tb_rel); (with_reducible refine' aL1 ?zA ?zB ?zC ?_); (case zA => tb_rel); (case zB => tb_rel); (case zC => tb_rel); (with_reducible refine' And.intro (Fm.G ?zF) ?_; (case zF => assumption)); (with_reducible refine' erased_spec (n := 10) ?zA ?zn ?zG ?zX ?_); (case zA => exact Cx.le (by assumption) (by omega)); (case zG => exact Fm.G (by assumption)); (case zX => tb_rel); (case zn => first | assumption | exact ImpD.self_dep _); ktn_call 96 rfl; (with_reducible refine' aL1 ?zA ?zB ?zC ?_); (case zA => tb_rel); (case zB => tb_rel); (case zC => tb_rel); (with_reducible refine' And.intro (Fm.G ?zF) ?_; (case zF => assumption)))
        refine matched_spec (n := 10) (hA'.le (by omega)) (Fm.G (by assumption)) (p := era r.self) (t := era t) (r.self_era.symm ▸ r.self_is) (by tb_rel) (by tb_rel) (D₄.ofE (by assumption) (by simpa using ne₄)) l₄ fun rr h₅ tk₅ s₅ MP => ?_
        have F₅ := (Fm.join (wr' := []) F₄ (by assumption) (fun _ q => nomatch q)).upD s₅ n₄ ne₄ nc₄
        unfold MchPost at MP
        rw [r.self_era] at MP
        cases hm : mch r.self (era t) with
        | none =>
          rw [hm] at MP; subst MP
          (tbr_iter wpAny_truthy_bool; ktn_call 1 ifF; ktn_call 1 ifF; tbr_iter xNil; tbr_iter turn_next)
          exact ⟨_, _, _, rfl, by assumption, by tb_rel, hnext _ rfl (by simp [rowC, hm])⟩
        | some ou =>
          rw [hm] at MP; obtain ⟨rfl, TX⟩ := MP
          (tbr_iter wpAny_truthy_bool; ktn_call 1 ifT; tbr_iter wpAny_allTrue_And_nil; ktn_call 1 ifT; tbr_iter xIf0; ktn_call 91 isTrue_plain; ktn_call 91 Call_; (with_reducible refine' nameG ?zA ?zB ?zC ?zD ?zE ?zF ?_); (case zA => tb_rel); (case zB => tb_rel); (case zC => k_is); (case zD => tb_rel); (case zE => tb_rel); (case zF => tb_rel); (with_reducible refine' callF ?zA ?zB ?zC ?zD ?_); (case zA => tb_rel); (case zB => k_is); (case zC => tb_rel); (case zD => tb_rel); (with_reducible refine' aL ?zA ?zB ?zC ?_); (case zA => tb_rel); (case zB => tb_rel); (case zC => tb_rel); (with_reducible refine' aL ?zA ?zB ?zC ?_); (case zA => tb_rel); (case zB => tb_rel); (case zC => tb_rel); ktn_call 91 args_cons; (with_reducible refine' nameC ?zA ?zB ?zC ?zD ?zE ?zF ?_); (case zA => tb_rel); (case zB => tb_rel); (case zC => tb_rel); (case zD => tb_rel); (case zE => tb_rel); (case zF => tb_rel); ktn_call 91 args_cons; (with_reducible refine' nameC ?zA ?zB ?zC ?zD ?zE ?zF ?_); (case zA => tb_rel); (case zB => tb_rel); (case zC => tb_rel); (case zD => tb_rel); (case zE => tb_rel); (case zF => tb_rel); tbr_iter args_nil; (with_reducible refine' And.intro (Fm.G ?zF) ?_; (case zF => assumption)))
          refine impl_bounds_spec (n := 2 * N + 14) (W := W) hA' F₅.G (hR.up G (Fm.stJ F₅ Fo)) TX ?_ fun h₆ tk₆ s₆ => ?_
          · intro he
            refine hideG fun gP kP => ?_; obtain ⟨u, e1, e2⟩ := mch_e hm he; refine kP ?_; clear kP gP
            have hlt : u.dep < t.dep := by
              have : (era t).dep = t.dep := wreg_dep true t
              rw [e1] at this
              simp only [Ty.dep] at this; omega
            exact ⟨u, e2, fun s => key u hlt ((Fm.stJ F₅ Fo).trans s)⟩
          have F₆ := F₅.up s₆
          cases hb : bndOk W r ou with
          | false =>
            (tbr_iter wpAny_truthy_bool; ktn_call 1 ifF; tbr_iter xNil; tbr_iter after_next; tbr_iter xNil; tbr_iter turn_next)
            exact ⟨_, _, _, rfl, by assumption, by tb_rel, hnext _ rfl (by simp [rowC, hm, hb])⟩
          | true =>
            (tbr_iter wpAny_truthy_bool; ktn_call 1 ifT; tbr_iter rB; tbr_iter after_ret; tbr_iter after_ret; tbr_iter turn_ret; tbr_iter back_ret)
            have e : isC W t = true := by
              rw [isC_adt hk, List.any_eq_true]; exact ⟨r, List.mem_of_getElem? hri, by simp [rowC, hc, hm, hb]⟩
            rw [← e]
            exact k _ _ (Fm.stJ F₆ Fo)
    · intro u h' tk' hj st' F'
      (tbr_iter rB; tbr_iter back_ret)
      have e : isC W t = false := by
        rw [WR.len, List.take_of_length_le (Nat.le_refl _)] at hj; rw [isC_adt hk]; exact hj
      rw [← e]
      exact k _ _ (by ktr_room)
  · rw [hk] at X'
    ((with_reducible refine' yX ?zA ?zB ?zC ?zD ?zE ?zF ?zG ?_); (case zA => tb_rel); (case zB => tb_rel); (case zC => tb_rel); (case zD => tb_rel); (case zE => tb_rel); (case zF => tb_rel); (case zG => tb_rel); intros; tbr_iter xIf0; tbr_iter wpAny_isTrue_Compare1; (with_reducible refine' nL ?zA ?zB ?zC ?_); (case zA => tb_rel); (case zB => tb_rel); (case zC => tb_rel); tbr_iter Tuple_; tbr_iter aS; tbr_iter aS; tbr_iter aS; tbr_iter aS1; (with_reducible refine' newTupX ?zA ?zB ?zC ?_); (case zA => tb_rel); (case zB => tb_rel); (case zC => tb_rel); intros; (with_reducible refine' inX ?zA ?zc ?zx ?zs ?zd ?ze ?_); (case zA => assumption); (case zc => tb_rel); (case zx => tb_rel); (case zs => decide +kernel); (case zd => decide +kernel); (case ze => decide +kernel); tbr_iter wpAny_truthy_bool; ktn_call 1 ifF; (with_reducible refine' iN ?zA ?zB ?zC ?zD ?_); (case zA => tb_rel); (case zB => tb_rel); (case zC => tb_rel); (case zD => tb_rel); tbr_iter xIf0; tbr_iter wpAny_isTrue_BoolOp; tbr_iter wpAny_allTrue_Or_cons; (with_reducible refine' tN ?zA ?zB ?zC ?_); (case zA => tb_rel); (case zB => tb_rel); (case zC => tb_rel); ktn_call 1 ifT; ktn_call 1 ifT; tbr_iter xReturn; tbr_iter wpAny_Compare1)
    refine' compT_filter (wr := []) ?c0 (parts t) enc (fun p => !isC W p) hA' ?c1 ?c2 ?c3 ?c4 ?c5 ?c6 ?c7 ?_
    (case c0 => assumption); (case c1 => rfl); (case c2 => rfl); (case c3 => decide); (case c4 => exact fun _ => rfl); (case c5 => decide); (case c6 => rfl); (case c7 => tb_rel)
    clear X'
    (ktn_call 91 Call_; (with_reducible refine' nameG ?zA ?zB ?zC ?zD ?zE ?zF ?_); (case zA => tb_rel); (case zB => tb_rel); (case zC => k_is); (case zD => tb_rel); (case zE => tb_rel); (case zF => tb_rel); (with_reducible refine' callF ?zA ?zB ?zC ?zD ?_); (case zA => tb_rel); (case zB => k_is); (case zC => tb_rel); (case zD => tb_rel); (with_reducible refine' aL1 ?zA ?zB ?zC ?_); (case zA => tb_rel); (case zB => tb_rel); (case zC => tb_rel); (with_reducible refine' And.intro (Fm.G ?zF) ?_; (case zF => assumption)); (with_reducible refine' parts_of_spec (n := 0) ?zA ?zG ?zX ?_); (case zA => exact Cx.le (by assumption) (by omega)); (case zG => exact Fm.G (by assumption)); (case zX => tb_rel); ktn_call 96 rfl)
    rename_i hb Fb r h₂ tk₂ s₂ x₂ F₂
    refine ⟨h₂, _, rfl, F₂, x₂, parts_sz t, ?_, ?_⟩
    · intro i y p C m' hS h₃ tk₃ E3 hp xy s₃ F₃
      (tbr_iter wpAny_isTrue_Not; ktn_call 91 isTrue_plain; ktn_call 91 Call_; (with_reducible refine' nameG ?zA ?zB ?zC ?zD ?zE ?zF ?_); (case zA => tb_rel); (case zB => tb_rel); (case zC => k_is); (case zD => tb_rel); (case zE => tb_rel); (case zF => tb_rel); (with_reducible refine' callF ?zA ?zB ?zC ?zD ?_); (case zA => tb_rel); (case zB => k_is); (case zC => tb_rel); (case zD => tb_rel); (with_reducible refine' aL ?zA ?zB ?zC ?_); (case zA => tb_rel); (case zB => tb_rel); (case zC => tb_rel); ktn_call 91 args_cons; (with_reducible refine' nameC ?zA ?zB ?zC ?zD ?zE ?zF ?_); (case zA => tb_rel); (case zB => tb_rel); (case zC => tb_rel); (case zD => tb_rel); (case zE => tb_rel); (case zF => tb_rel); ktn_call 91 args_cons; (with_reducible refine' nameC ?zA ?zB ?zC ?zD ?zE ?zF ?_); (case zA => tb_rel); (case zB => tb_rel); (case zC => tb_rel); (case zD => tb_rel); (case zE => tb_rel); (case zF => tb_rel); tbr_iter args_nil; (with_reducible refine' And.intro (Fm.G ?zF) ?_; (case zF => assumption)))
      refine key p (dep_parts (List.mem_of_getElem? hp)) (F₂.st.trans s₃) (hA'.le (by omega)) F₃.G xy fun h' tk' st' => ?_
      (tbr_iter wpAny_truthy_bool)
      refine ⟨rfl, h', tk', rfl, st', fun hb F₄ E'' => ?_⟩
      ((with_reducible refine' nL ?zA ?zB ?zC ?_); (case zA => tb_rel); (case zB => tb_rel); (case zC => tb_rel))
      exact ⟨_, _, rfl, .refl _ _, xy.up st'⟩
    · intro D ys h' tk' st' F' hl xs
      (tbr_iter List_; tbr_iter args_nil; (with_reducible refine' newLn ?zF ?zs ?_); (case zF => assumption); (case zs => decide))
      intro l h₅ st₅ F₅ P₅ l₅ n₅ ne₅ nc₅ nn₅
      (skip)
      refine eqL hA' (IsList.up F'.G st₅ hl (by simp)) (xs.up st₅) P₅.isList (vb := []) XTs.nil (encs_shaped _ fun p hp => ?_) (by decide +kernel) ?_
      · have := dep_parts (List.mem_filter.mp hp).1; omega
      rw [isC_parts (.inl hk)]
      (tbr_iter after_ret; tbr_iter back_ret)
      exact k _ _ (by ktr_room)
  · rw [hk] at X'
    ((with_reducible refine' yX ?zA ?zB ?zC ?zD ?zE ?zF ?zG ?_); (case zA => tb_rel); (case zB => tb_rel); (case zC => tb_rel); (case zD => tb_rel); (case zE => tb_rel); (case zF => tb_rel); (case zG => tb_rel); intros; tbr_iter xIf0; tbr_iter wpAny_isTrue_Compare1; (with_reducible refine' nL ?zA ?zB ?zC ?_); (case zA => tb_rel); (case zB => tb_rel); (case zC => tb_rel); tbr_iter Tuple_; tbr_iter aS; tbr_iter aS; tbr_iter aS; tbr_iter aS1; (with_reducible refine' newTupX ?zA ?zB ?zC ?_); (case zA => tb_rel); (case zB => tb_rel); (case zC => tb_rel); intros; (with_reducible refine' inX ?zA ?zc ?zx ?zs ?zd ?ze ?_); (case zA => assumption); (case zc => tb_rel); (case zx => tb_rel); (case zs => decide +kernel); (case zd => decide +kernel); (case ze => decide +kernel); tbr_iter wpAny_truthy_bool; ktn_call 1 ifF; (with_reducible refine' iN ?zA ?zB ?zC ?zD ?_); (case zA => tb_rel); (case zB => tb_rel); (case zC => tb_rel); (case zD => tb_rel); tbr_iter xIf0; tbr_iter wpAny_isTrue_BoolOp; tbr_iter wpAny_allTrue_Or_cons; (with_reducible refine' tN ?zA ?zB ?zC ?_); (case zA => tb_rel); (case zB => tb_rel); (case zC => tb_rel); ktn_call 1 ifF; tbr_iter wpAny_allTrue_Or_cons; (with_reducible refine' tN ?zA ?zB ?zC ?_); (case zA => tb_rel); (case zB => tb_rel); (case zC => tb_rel); ktn_call 1 ifT; ktn_call 1 ifT; tbr_iter xReturn; tbr_iter wpAny_Compare1)
    refine' compT_filter (wr := []) ?c0 (parts t) enc (fun p => !isC W p) hA' ?c1 ?c2 ?c3 ?c4 ?c5 ?c6 ?c7 ?_
    (case c0 => assumption); (case c1 => rfl); (case c2 => rfl); (case c3 => decide); (case c4 => exact fun _ => rfl); (case c5 => decide); (case c6 => rfl); (case c7 => tb_rel)
    clear X'
    (ktn_call 91 Call_; (with_reducible refine' nameG ?zA ?zB ?zC ?zD ?zE ?zF ?_); (case zA => tb_rel); (case zB => tb_rel); (case zC => k_is); (case zD => tb_rel); (case zE => tb_rel); (case zF => tb_rel); (with_reducible refine' callF ?zA ?zB ?zC ?zD ?_); (case zA => tb_rel); (case zB => k_is); (case zC => tb_rel); (case zD => tb_rel); (with_reducible refine' aL1 ?zA ?zB ?zC ?_); (case zA => tb_rel); (case zB => tb_rel); (case zC => tb_rel); (with_reducible refine' And.intro (Fm.G ?zF) ?_; (case zF => assumption)); (with_reducible refine' parts_of_spec (n := 0) ?zA ?zG ?zX ?_); (case zA => exact Cx.le (by assumption) (by omega)); (case zG => exact Fm.G (by assumption)); (case zX => tb_rel); ktn_call 96 rfl)
    rename_i hb Fb r h₂ tk₂ s₂ x₂ F₂
    refine ⟨h₂, _, rfl, F₂, x₂, parts_sz t, ?_, ?_⟩
    · intro i y p C m' hS h₃ tk₃ E3 hp xy s₃ F₃
      (tbr_iter wpAny_isTrue_Not; ktn_call 91 isTrue_plain; ktn_call 91 Call_; (with_reducible refine' nameG ?zA ?zB ?zC ?zD ?zE ?zF ?_); (case zA => tb_rel); (case zB => tb_rel); (case zC => k_is); (case zD => tb_rel); (case zE => tb_rel); (case zF => tb_rel); (with_reducible refine' callF ?zA ?zB ?zC ?zD ?_); (case zA => tb_rel); (case zB => k_is); (case zC => tb_rel); (case zD => tb_rel); (with_reducible refine' aL ?zA ?zB ?zC ?_); (case zA => tb_rel); (case zB => tb_rel); (case zC => tb_rel); ktn_call 91 args_cons; (with_reducible refine' nameC ?zA ?zB ?zC ?zD ?zE ?zF ?_); (case zA => tb_rel); (case zB => tb_rel); (case zC => tb_rel); (case zD => tb_rel); (case zE => tb_rel); (case zF => tb_rel); ktn_call 91 args_cons; (with_reducible refine' nameC ?zA ?zB ?zC ?zD ?zE ?zF ?_); (case zA => tb_rel); (case zB => tb_rel); (case zC => tb_rel); (case zD => tb_rel); (case zE => tb_rel); (case zF => tb_rel); tbr_iter args_nil; (with_reducible refine' And.intro (Fm.G ?zF) ?_; (case zF => assumption)))
      refine key p (dep_parts (List.mem_of_getElem? hp)) (F₂.st.trans s₃) (hA'.le (by omega)) F₃.G xy fun h' tk' st' => ?_
      (tbr_iter wpAny_truthy_bool)
      refine ⟨rfl, h', tk', rfl, st', fun hb F₄ E'' => ?_⟩
      ((with_reducible refine' nL ?zA ?zB ?zC ?_); (case zA => tb_rel); (case zB => tb_rel); (case zC => tb_rel))
      exact ⟨_, _, rfl, .refl _ _, xy.up st'⟩
    · intro D ys h' tk' st' F' hl xs
      (tbr_iter List_; tbr_iter args_nil; (with_reducible refine' newLn ?zF ?zs ?_); (case zF => assumption); (case zs => decide))
      intro l h₅ st₅ F₅ P₅ l₅ n₅ ne₅ nc₅ nn₅
      (skip)
      refine eqL hA' (IsList.up F'.G st₅ hl (by simp)) (xs.up st₅) P₅.isList (vb := []) XTs.nil (encs_shaped _ fun p hp => ?_) (by decide +kernel) ?_
      · have := dep_parts (List.mem_filter.mp hp).1; omega
      rw [isC_parts (.inr hk)]
      (tbr_iter after_ret; tbr_iter back_ret)
      exact k _ _ (by ktr_room)
  · clear X'
    cases t with
    | unit => exact absurd rfl hk.2.1
    | pair a b => exact absurd rfl hk.2.1
    | arr t => exact absurd rfl hk.2.2
    | S => exact absurd rfl hk.1
    | L => exact absurd rfl hk.1
    | E t => exact absurd rfl hk.1
    | prm p =>
      refine hideG fun gP kP => ?_; obtain ⟨bd, vx, vy, rfl, lb, BD, bx, by_⟩ := id BI; refine kP ?_; clear kP gP
      ((with_reducible refine' yX ?zA ?zB ?zC ?zD ?zE ?zF ?zG ?_); (case zA => tb_rel); (case zB => tb_rel); (case zC => tb_rel); (case zD => tb_rel); (case zE => tb_rel); (case zF => tb_rel); (case zG => tb_rel); intros; tbr_iter xIf0; tbr_iter wpAny_isTrue_Compare1; (with_reducible refine' nL ?zA ?zB ?zC ?_); (case zA => tb_rel); (case zB => tb_rel); (case zC => tb_rel); tbr_iter Tuple_; tbr_iter aS; tbr_iter aS; tbr_iter aS; tbr_iter aS1; (with_reducible refine' newTupX ?zA ?zB ?zC ?_); (case zA => tb_rel); (case zB => tb_rel); (case zC => tb_rel); intros; (with_reducible refine' inX ?zA ?zc ?zx ?zs ?zd ?ze ?_); (case zA => assumption); (case zc => tb_rel); (case zx => tb_rel); (case zs => decide +kernel); (case zd => decide +kernel); (case ze => decide +kernel); tbr_iter wpAny_truthy_bool; ktn_call 1 ifF; (with_reducible refine' iN ?zA ?zB ?zC ?zD ?_); (case zA => tb_rel); (case zB => tb_rel); (case zC => tb_rel); (case zD => tb_rel); tbr_iter xIf0; tbr_iter wpAny_isTrue_BoolOp; tbr_iter wpAny_allTrue_Or_cons; (with_reducible refine' tN ?zA ?zB ?zC ?_); (case zA => tb_rel); (case zB => tb_rel); (case zC => tb_rel); ktn_call 1 ifF; tbr_iter wpAny_allTrue_Or_cons; (with_reducible refine' tN ?zA ?zB ?zC ?_); (case zA => tb_rel); (case zB => tb_rel); (case zC => tb_rel); ktn_call 1 ifF; tbr_iter wpAny_allTrue_Or_nil; ktn_call 1 ifF; tbr_iter xIf0; (with_reducible refine' tN ?zA ?zB ?zC ?_); (case zA => tb_rel); (case zB => tb_rel); (case zC => tb_rel); ktn_call 1 ifT; tbr_iter xReturn; tbr_iter wpAny_Compare1; (with_reducible refine' nameG ?zA ?zB ?zC ?zD ?zE ?zF ?_); (case zA => tb_rel); (case zB => tb_rel); (case zC => k_is); (case zD => tb_rel); (case zE => tb_rel); (case zF => tb_rel); (with_reducible refine' mGet2 ?zA ?zB ?zC ?_); (case zA => tb_rel); (case zB => tb_rel); (case zC => tb_rel); (with_reducible refine' nameC ?zA ?zB ?zC ?zD ?zE ?zF ?_); (case zA => tb_rel); (case zB => tb_rel); (case zC => tb_rel); (case zD => tb_rel); (case zE => tb_rel); (case zF => tb_rel))
      refine ⟨bd, _, rfl, lb, BD.ofE (by assumption) (by simp), ?_⟩
      ((with_reducible refine' eNs ?zA ?zB ?zC ?zD ?zE ?zF ?_); (case zA => tb_rel); (case zB => tb_rel); (case zC => tb_rel); (case zD => tb_rel); (case zE => tb_rel); (case zF => tb_rel); intros; tbr_iter Tuple_; tbr_iter args_nil; (with_reducible refine' newTupX ?zA ?zB ?zC ?_); (case zA => tb_rel); (case zB => tb_rel); (case zC => tb_rel); intros)
      refine ⟨_, _, _, _, rfl, rfl, BD.ofE (by assumption) (by simp), ?_⟩
      rename_i zv zh zst zF zr
      have hv : ∃ ds, XT zh ((valueAt [(Str.ofString "X", vx), (Str.ofString "Y", vy)] p.str).getD zv) (.tuple ds) ∧ PyData.canLayAll0 ds = true ∧ (ds.any fun y => PyData.eqv y (sty "Copy")) = (p == .X) := bndTup (bx.up zF.st) (by_.up zF.st) zr
      refine hideG fun gP kP => ?_; obtain ⟨ds, xd, hl, he⟩ := hv; refine kP ?_; clear kP gP
      refine inX hA' xd (Reads.str _ _) hl (by decide +kernel) (by decide +kernel) ?_
      generalize ht : (ds.any fun y => PyData.eqv y (.str (Str.ofString "Copy"))) = bb
      have hb : bb = isC W (.prm p) := ht.symm.trans he
      (tbr_iter after_ret; tbr_iter back_ret)
      rw [hb]
      exact k _ _ (by ktr_room)
    | _ =>
      (first | ((with_reducible refine' yX ?zA ?zB ?zC ?zD ?zE ?zF ?zG ?_); (case zA => tb_rel); (case zB => tb_rel); (case zC => tb_rel); (case zD => tb_rel); (case zE => tb_rel); (case zF => tb_rel); (case zG => tb_rel); intros; tbr_iter xIf0; tbr_iter wpAny_isTrue_Compare1; (with_reducible refine' nL ?zA ?zB ?zC ?_); (case zA => tb_rel); (case zB => tb_rel); (case zC => tb_rel); tbr_iter Tuple_; tbr_iter aS; tbr_iter aS; tbr_iter aS; tbr_iter aS1; (with_reducible refine' newTupX ?zA ?zB ?zC ?_); (case zA => tb_rel); (case zB => tb_rel); (case zC => tb_rel); intros; (with_reducible refine' inX ?zA ?zc ?zx ?zs ?zd ?ze ?_); (case zA => assumption); (case zc => tb_rel); (case zx => tb_rel); (case zs => decide +kernel); (case zd => decide +kernel); (case ze => decide +kernel); tbr_iter wpAny_truthy_bool; ktn_call 1 ifF; (with_reducible refine' iN ?zA ?zB ?zC ?zD ?_); (case zA => tb_rel); (case zB => tb_rel); (case zC => tb_rel); (case zD => tb_rel); tbr_iter xIf0; tbr_iter wpAny_isTrue_BoolOp; tbr_iter wpAny_allTrue_Or_cons; (with_reducible refine' tN ?zA ?zB ?zC ?_); (case zA => tb_rel); (case zB => tb_rel); (case zC => tb_rel); ktn_call 1 ifF; tbr_iter wpAny_allTrue_Or_cons; (with_reducible refine' tN ?zA ?zB ?zC ?_); (case zA => tb_rel); (case zB => tb_rel); (case zC => tb_rel); ktn_call 1 ifF; tbr_iter wpAny_allTrue_Or_nil; ktn_call 1 ifF; (with_reducible refine' iN ?zA ?zB ?zC ?zD ?_); (case zA => tb_rel); (case zB => tb_rel); (case zC => tb_rel); (case zD => tb_rel); tbr_iter xIf0; (with_reducible refine' tNn ?zA ?zB ?zC ?_); (case zA => tb_rel); (case zB => tb_rel); (case zC => tb_rel); ktn_call 1 ifT; tbr_iter rB; tbr_iter after_ret; tbr_iter back_ret) | ((with_reducible refine' yX ?zA ?zB ?zC ?zD ?zE ?zF ?zG ?_); (case zA => tb_rel); (case zB => tb_rel); (case zC => tb_rel); (case zD => tb_rel); (case zE => tb_rel); (case zF => tb_rel); (case zG => tb_rel); intros; tbr_iter xIf0; tbr_iter wpAny_isTrue_Compare1; (with_reducible refine' nL ?zA ?zB ?zC ?_); (case zA => tb_rel); (case zB => tb_rel); (case zC => tb_rel); tbr_iter Tuple_; tbr_iter aS; tbr_iter aS; tbr_iter aS; tbr_iter aS1; (with_reducible refine' newTupX ?zA ?zB ?zC ?_); (case zA => tb_rel); (case zB => tb_rel); (case zC => tb_rel); intros; (with_reducible refine' inX ?zA ?zc ?zx ?zs ?zd ?ze ?_); (case zA => assumption); (case zc => tb_rel); (case zx => tb_rel); (case zs => decide +kernel); (case zd => decide +kernel); (case ze => decide +kernel); tbr_iter wpAny_truthy_bool; ktn_call 1 ifF; tbr_iter xIf0; (with_reducible refine' tN ?zA ?zB ?zC ?_); (case zA => tb_rel); (case zB => tb_rel); (case zC => tb_rel); ktn_call 1 ifT; tbr_iter xReturn; tbr_iter UnaryOp_; (with_reducible refine' eNb ?zA ?zB ?zC ?zD ?zE ?zF ?_); (case zA => tb_rel); (case zB => tb_rel); (case zC => tb_rel); (case zD => tb_rel); (case zE => tb_rel); (case zF => tb_rel); tbr_iter not_of; tbr_iter wpAny_truthy_bool; tbr_iter after_ret; tbr_iter back_ret) | ((with_reducible refine' yX ?zA ?zB ?zC ?zD ?zE ?zF ?zG ?_); (case zA => tb_rel); (case zB => tb_rel); (case zC => tb_rel); (case zD => tb_rel); (case zE => tb_rel); (case zF => tb_rel); (case zG => tb_rel); intros; tbr_iter xIf0; tbr_iter wpAny_isTrue_Compare1; (with_reducible refine' nL ?zA ?zB ?zC ?_); (case zA => tb_rel); (case zB => tb_rel); (case zC => tb_rel); tbr_iter Tuple_; tbr_iter aS; tbr_iter aS; tbr_iter aS; tbr_iter aS1; (with_reducible refine' newTupX ?zA ?zB ?zC ?_); (case zA => tb_rel); (case zB => tb_rel); (case zC => tb_rel); intros; (with_reducible refine' inX ?zA ?zc ?zx ?zs ?zd ?ze ?_); (case zA => assumption); (case zc => tb_rel); (case zx => tb_rel); (case zs => decide +kernel); (case zd => decide +kernel); (case ze => decide +kernel); tbr_iter wpAny_truthy_bool; ktn_call 1 ifT; tbr_iter rB; tbr_iter after_ret; tbr_iter back_ret))
      exact k _ _ (by ktr_room)
end

section
variable {prog : Program} {w : World} {mg mb : Str → Option Value}
theorem field_rows_spec {A : Around} {E : Value → Shared → Prop} {h : Heap} {g : Array GenState} {d : Drawn} {tk : Nat} {os : OsState} {v wv : Value} {t : Ty} {W : WD} {k : Nat} {u : Tok} {fs : List Ty} {n : Nat} {Q : Value → Shared → Prop} (hA : Cx A (n + 1)) (G : Gd w mg mb h) (X : XT h v (enc t)) (hk : t.kind = Str.ofString "adt") (WI : WorldIs prog w h wv W) (hf : (W.vars t)[k]? = some fs) (hk10 : k < 10)
    (q : ∀ h' tk' l, ∀ rs : List Value, Step w mg mb [] h h' → h'.IsList l rs.toArray → XTs h' rs (rowsOf fs) → Q (.ref l) ⟨h', g, d, tk', os⟩) : wpAny (model prog w) A (call (.ref 85) [v, .int k u, wv]) Q E ⟨h, g, d, tk, os⟩ := by
  refine hideG fun gP kP => ?_; obtain ⟨a, dx, mo, ad, kvs, av, nm, ps, us, rfl, WI1, e1, la, D, hv, AI, AN⟩ := WI.adt hk; refine kP ?_; clear kP gP
  refine' enter [] (fun _ q => nomatch q) (m := upd (upd (upd nom (Str.ofString "told") v) (Str.ofString "variant") (.int k u)) (Str.ofString "world") (.ref a)) (cm := nom) G hA ?k1 ?k2 ?k3 ?k4 ?k5 ?k6 ?k7 ?k8 ?k9 ?_
  case k1 => k_is
  case k2 => k_is
  case k3 => exact BindsTo.of_eq rfl
  case k4 => rfl
  case k5 => intro _; rfl
  case k6 => intro _; rfl
  case k7 => rfl
  case k8 => rfl
  case k9 => rfl
  intro L h₁ tk₁ E' st F CN hA' NL
  generalize A.deeper _ = A2 at hA' ⊢
  have X' : XT h v (.tuple [sty "adt", .str nm, .tuple [], .tuple us]) := AN.1 ▸ X
  refine hideG fun gP kP => ?_; obtain ⟨aa, adx, amo, rv, pv, vl, vv, rfl, AI1, f1, x1, f2, x2, f3, l3, VA⟩ := AI; refine kP ?_; clear kP gP
  refine hideG fun gP kP => ?_; obtain ⟨va, hva, VI⟩ := VA.get hf; refine kP ?_; clear kP gP
  refine hideG fun gP kP => ?_; obtain ⟨tt, ta, tb, tl, rs, rfl, T1, L1, R1⟩ := VI; refine kP ?_; clear kP gP
  clear X
  (tbr_iter xReturn; tbr_iter Subscript_; tbr_iter Subscript_; (with_reducible refine' Attribute_any_ ?_ ?zs); (case zs => with_unfolding_all rfl); tbr_iter Subscript_; (with_reducible refine' Attribute_any_ ?_ ?zs); (case zs => with_unfolding_all rfl); (with_reducible refine' nL ?zA ?zB ?zC ?_); (case zA => tb_rel); (case zB => tb_rel); (case zC => tb_rel); (with_reducible refine' getI ?zG ?zI ?zv ?z1 ?z2 ?z3 ?zh ?_); (case zG => exact Fm.G (by assumption)); (case zI => first | assumption | exact Ins.up0 (Fm.stJ (by assumption) (by assumption)) (by assumption) | exact Ins.up0 (Fm.st (by assumption)) (by assumption)); (case zv => assumption); (case z1 => k_is); (case z2 => k_is); (case z3 => k_is); (case zh => first | rfl | exact XT.handed (by assumption)); (with_reducible refine' eNs ?zA ?zB ?zC ?zD ?zE ?zF ?_); (case zA => tb_rel); (case zB => tb_rel); (case zC => tb_rel); (case zD => tb_rel); (case zE => tb_rel); (case zF => tb_rel); intros)
  refine subD (D.ofE F (by simp)) hv (by with_unfolding_all rfl) ?_
  ((with_reducible refine' getI ?zG ?zI ?zv ?z1 ?z2 ?z3 ?zh ?_); (case zG => exact Fm.G (by assumption)); (case zI => first | assumption | exact Ins.up0 (Fm.stJ (by assumption) (by assumption)) (by assumption) | exact Ins.up0 (Fm.st (by assumption)) (by assumption)); (case zv => assumption); (case z1 => k_is); (case z2 => k_is); (case z3 => k_is); (case zh => first | rfl | exact XT.handed (by assumption)); (with_reducible refine' nL ?zA ?zB ?zC ?_); (case zA => tb_rel); (case zB => tb_rel); (case zC => tb_rel))
  refine subLV (IsList.ofE F l3 (by simp)) (by simpa using hva) (by omega) (by omega) (by with_unfolding_all rfl) ?_
  (tbr_iter cInt)
  refine subTV (vs := [ta, tb, .ref tl]) (IsTup.up F.st T1) rfl (by decide) (by decide) (by with_unfolding_all rfl) ?_
  (tbr_iter back_ret)
  exact q _ _ _ _ (by ktr_room) (IsList.ofE F L1 (by simp)) (R1.up F.st)
end

section
variable {prog : Program} {w : World} {mg mb : Str → Option Value}
theorem fields_of_spec {A : Around} {E : Value → Shared → Prop} {h : Heap} {g : Array GenState} {d : Drawn} {tk : Nat} {os : OsState} {v wv : Value} {t : Ty} {W : WD} {k : Nat} {u : Tok} {fs : List Ty} {n : Nat} {Q : Value → Shared → Prop} (hA : Cx A (n + 20)) (G : Gd w mg mb h) (X : XT h v (enc t)) (WI : WorldIs prog w h wv W)
    (hf : t.kind = Str.ofString "adt" → (W.vars t)[k]? = some fs ∧ fs.length ≤ 10 ∧ ∀ f ∈ fs, f.dep ≤ 10 ∧ regs false f = true) (hk10 : k < 10)
    (q : ∀ h' tk' l, ∀ rs : List Value, Step w mg mb [] h h' → h'.IsList l rs.toArray → XTs h' rs (rowsOf (fieldsOf W t k)) → Q (.ref l) ⟨h', g, d, tk', os⟩) : wpAny (model prog w) A (call (.ref 90) [v, .int k u, wv]) Q E ⟨h, g, d, tk, os⟩ := by
  refine' enter [] (fun _ q => nomatch q) (m := upd (upd (upd nom (Str.ofString "told") v) (Str.ofString "variant") (.int k u)) (Str.ofString "world") wv) (cm := nom) G hA ?k1 ?k2 ?k3 ?k4 ?k5 ?k6 ?k7 ?k8 ?k9 ?_
  case k1 => k_is
  case k2 => k_is
  case k3 => exact BindsTo.of_eq rfl
  case k4 => rfl
  case k5 => intro _; rfl
  case k6 => intro _; rfl
  case k7 => rfl
  case k8 => rfl
  case k9 => rfl
  intro L h₁ tk₁ E' st F CN hA' NL
  generalize A.deeper _ = A2 at hA' ⊢
  have X' : XT h v (.tuple (.str t.kind :: t.rest)) := enc_eq t ▸ X
  rcases kinds t with hk | hk | hk | hk
  · -- an adt
    refine hideG fun gP kP => ?_; obtain ⟨hf, hfl, hfd⟩ := hf hk; refine kP ?_; clear kP gP
    have WI0 := WI
    refine hideG fun gP kP => ?_; obtain ⟨a, dx, mo, ad, kvs, av, nm, ps, us, rfl, WI1, e1, la, D, hv, AI, AN⟩ := WI.adt hk; refine kP ?_; clear kP gP
    refine hideG fun gP kP => ?_; obtain ⟨aa, adx, amo, rv, pv, vl, vv, rfl, AI1, f1, x1, f2, x2, f3, l3, VA⟩ := AI; refine kP ?_; clear kP gP
    have X2 : XT h v (.tuple [sty "adt", .str nm, .tuple [], .tuple us]) := AN.1 ▸ X
    have X0 := X
    obtain ⟨ud, hud⟩ : ∃ ud, (ps = [] ∧ us = []) ∨ (ps = [sty "T"] ∧ us = [ud]) := by
      rcases AN.2 with ⟨e1, e2, _⟩ | ⟨u, _, e1, e2⟩
      · exact ⟨.none, .inl ⟨e1, e2⟩⟩
      · exact ⟨_, .inr ⟨e1, e2⟩⟩
    have hgs : fieldsOf W t k = fs.map (sub t.arg) := by
      unfold fieldsOf
      rw [if_neg (by rw [hk]; decide), hf]; rfl
    rw [hgs] at q
    clear X X'
    ((with_reducible refine' iX ?zA ?zB ?zC ?zD ?zE ?zF ?zG ?_); (case zA => tb_rel); (case zB => tb_rel); (case zC => tb_rel); (case zD => tb_rel); (case zE => tb_rel); (case zF => tb_rel); (case zG => tb_rel); tbr_iter xIf0; (with_reducible refine' tXn ?zA ?zB ?zC ?zD ?zE ?zF ?_); (case zA => tb_rel); (case zB => tb_rel); (case zC => tb_rel); (case zD => tb_rel); (case zE => tb_rel); (case zF => tb_rel); ktn_call 1 ifF; ktn_call 1 xAssign; tbr_iter Subscript_; (with_reducible refine' Attribute_any_ ?_ ?zs); (case zs => with_unfolding_all rfl); (with_reducible refine' nL ?zA ?zB ?zC ?_); (case zA => tb_rel); (case zB => tb_rel); (case zC => tb_rel); (with_reducible refine' getI ?zG ?zI ?zv ?z1 ?z2 ?z3 ?zh ?_); (case zG => exact Fm.G (by assumption)); (case zI => first | assumption | exact Ins.up0 (Fm.stJ (by assumption) (by assumption)) (by assumption) | exact Ins.up0 (Fm.st (by assumption)) (by assumption)); (case zv => assumption); (case z1 => k_is); (case z2 => k_is); (case z3 => k_is); (case zh => first | rfl | exact XT.handed (by assumption)); (with_reducible refine' eNs ?zA ?zB ?zC ?zD ?zE ?zF ?_); (case zA => tb_rel); (case zB => tb_rel); (case zC => tb_rel); (case zD => tb_rel); (case zE => tb_rel); (case zF => tb_rel); intros)
    refine subD (D.ofE (by assumption) (by simp)) hv (by with_unfolding_all rfl) ?_
    (ktn_call 2 sL; intros; ktn_call 1 xAssign; ktn_call 91 Call_; (with_reducible refine' nameB_dict ?zA ?zB ?zC ?zD ?zE ?zF ?_); (case zA => tb_rel); (case zB => tb_rel); (case zC => k_is); (case zD => tb_rel); (case zE => tb_rel); (case zF => tb_rel); ktn_call 2 callT; ktn_call 91 args_cons; ktn_call 91 Call_; (with_reducible refine' nameB_zip ?zA ?zB ?zC ?zD ?zE ?zF ?_); (case zA => tb_rel); (case zB => tb_rel); (case zC => k_is); (case zD => tb_rel); (case zE => tb_rel); (case zF => tb_rel); ktn_call 2 callT; ktn_call 91 args_cons; (with_reducible refine' Attribute_any_ ?_ ?zs); (case zs => with_unfolding_all rfl); (with_reducible refine' nL ?zA ?zB ?zC ?_); (case zA => tb_rel); (case zB => tb_rel); (case zC => tb_rel); (with_reducible refine' getI ?zG ?zI ?zv ?z1 ?z2 ?z3 ?zh ?_); (case zG => exact Fm.G (by assumption)); (case zI => first | assumption | exact Ins.up0 (Fm.stJ (by assumption) (by assumption)) (by assumption) | exact Ins.up0 (Fm.st (by assumption)) (by assumption)); (case zv => assumption); (case z1 => k_is); (case z2 => k_is); (case z3 => k_is); (case zh => first | rfl | exact XT.handed (by assumption)); ktn_call 91 args_cons; (with_reducible refine' eN ?zA ?zB ?zC ?zD ?zE ?zF ?_); (case zA => tb_rel); (case zB => tb_rel); (case zC => tb_rel); (case zD => tb_rel); (case zE => tb_rel); (case zF => tb_rel); ktn_call 95 eN; tbr_iter args_nil)
    refine dzX (by assumption) (by tb_rel) (by tb_rel) fun z h₂ F₂ kz => ?_
    (tbr_iter args_nil)
    refine kz hA'.hh hud fun td h₃ tk₃ kvs st₃ F₃ D₃ l₃ n₃ q₃ => ?_
    clear kz
    have T₃ : TabX prog w h₃ td t.arg := by
      refine ⟨kvs, D₃, l₃, ?_⟩
      rcases AN.2 with ⟨e1, e2, e3⟩ | ⟨u, e0, e1, e2⟩
      · rcases q₃ with ⟨_, rfl⟩ | ⟨e, _⟩
        · rcases e3 with rfl | rfl <;> rfl
        · rw [e2] at e; cases e
      · rcases q₃ with ⟨e, rfl⟩ | ⟨e, y, rfl, xy⟩
        · rw [e1] at e; cases e
        · rw [e2] at e; cases e; subst e0; exact ⟨y, rfl, xy⟩
    refine stC F₃ CN rfl rfl rfl fun h₄ s₄ F₄ => ?_
    have T₄ := T₃.up F₃.G s₄ (dct_cell (n := Str.ofString "types") F₃ D₃ rfl)
    have D₄ := D₃.up F₃.G s₄ (dct_cell (n := Str.ofString "types") F₃ D₃ rfl)
    (ktn_call 1 xAssign; ktn_call 91 Call_; (with_reducible refine' nameB_dict ?zA ?zB ?zC ?zD ?zE ?zF ?_); (case zA => tb_rel); (case zB => tb_rel); (case zC => k_is); (case zD => tb_rel); (case zE => tb_rel); (case zF => tb_rel); ktn_call 2 callT; ktn_call 91 args_cons; ktn_call 91 Call_; (with_reducible refine' nameB_zip ?zA ?zB ?zC ?zD ?zE ?zF ?_); (case zA => tb_rel); (case zB => tb_rel); (case zC => k_is); (case zD => tb_rel); (case zE => tb_rel); (case zF => tb_rel); ktn_call 2 callT; ktn_call 91 args_cons; (with_reducible refine' Attribute_any_ ?_ ?zs); (case zs => with_unfolding_all rfl); (with_reducible refine' nL ?zA ?zB ?zC ?_); (case zA => tb_rel); (case zB => tb_rel); (case zC => tb_rel); (with_reducible refine' getI ?zG ?zI ?zv ?z1 ?z2 ?z3 ?zh ?_); (case zG => exact Fm.G (by assumption)); (case zI => first | assumption | exact Ins.up0 (Fm.stJ (by assumption) (by assumption)) (by assumption) | exact Ins.up0 (Fm.st (by assumption)) (by assumption)); (case zv => assumption); (case z1 => k_is); (case z2 => k_is); (case z3 => k_is); (case zh => first | rfl | exact XT.handed (by assumption)); ktn_call 91 args_cons; (with_reducible refine' eN ?zA ?zB ?zC ?zD ?zE ?zF ?_); (case zA => tb_rel); (case zB => tb_rel); (case zC => tb_rel); (case zD => tb_rel); (case zE => tb_rel); (case zF => tb_rel); ktn_call 95 eN; tbr_iter args_nil)
    refine dzX (by assumption) (by tb_rel) (by tb_rel) fun z h₅ F₅ kz => ?_
    (tbr_iter args_nil)
    refine kz (nm := Str.ofString "T") (u := .none) hA'.hh (.inl ⟨rfl, rfl⟩) fun rd h₆ tk₆ kvs₂ st₆ F₆ D₆ l₆ n₆ q₆ => ?_
    clear kz
    obtain rfl : kvs₂ = [] := by
      rcases q₆ with ⟨_, e⟩ | ⟨e, _⟩
      · exact e
      · cases e
    have T₆ := T₄.up F₄.G st₆ (fun q => nomatch q)
    have D₆t := D₄.up F₄.G st₆ (fun q => nomatch q)
    refine stC F₆ CN rfl rfl rfl fun h₇ s₇ F₇ => ?_
    have T₇ := T₆.up F₆.G s₇ (dct_cell (n := Str.ofString "regions") F₆ D₆t rfl)
    have D₇t := D₆t.up F₆.G s₇ (dct_cell (n := Str.ofString "regions") F₆ D₆t rfl)
    have D₇ := D₆.up F₆.G s₇ (dct_cell (n := Str.ofString "regions") F₆ D₆ rfl)
    (skip)
    refine xCons (nestDef_K rfl rfl rfl ?_)
    refine mkFn F₇ rfl rfl rfl (by rfl) rfl rfl fun f ctv doc pm c' h₈ tk₈ s₈ F₈ e₈ rec₈ l₈ => ?_
    have T₈ := T₇.up F₇.G s₈ (fun q => nomatch q)
    have D₈t := D₇t.up F₇.G s₈ (fun q => nomatch q)
    have D₈ := D₇.up F₇.G s₈ (fun q => nomatch q)
    refine stC F₈ CN rfl rfl rfl fun h₉ s₉ F₉ => ?_
    have T₉ := T₈.up F₈.G s₉ (dct_cell (n := Str.ofString "put_in") F₈ D₈t rfl)
    have D₉ := D₈.up F₈.G s₉ (dct_cell (n := Str.ofString "put_in") F₈ D₈ rfl)
    have e₉ := s₉.keep f _ (fn87 F₈.G e₈ rfl) (ne_cell (n := Str.ofString "put_in") F₈ e₈ (fun x q => by cases q) rfl) e₈
    have rec₉ := Gd.rec87 s₉ l₈ rec₈ (fun o e ⟨vs, q⟩ => ne_cell (n := Str.ofString "put_in") F₈ e (fun x q' => by rw [q] at q'; cases q') rfl)
    have C₉ : ChgOk prog w mg mb false f h₉ := by
      refine ⟨⟨_, _, _, _, e₉⟩, fun {A E h' g d tk os v r Q} s hA G' hr X k => ?_⟩
      obtain rfl : r = true := by simpa using hr
      refine hideG fun gP kP => ?_; obtain ⟨vt, rfl⟩ := XT.str_inv (x := Str.ofString "'a") X; refine kP ?_; clear kP gP
      refine enterX (n := 0) (cm := upd nom (Str.ofString "regions") (.ref rd)) G' hA (s.keep f _ (fn87 F₉.G e₉ rfl) (fun q => nomatch q) e₉) (Gd.rec87 s l₈ rec₉ (fun _ _ _ q => nomatch q)) (BindsTo.of_eq rfl) (by tb_rel) (by decide) ?_ rfl rfl rfl fun L₂ h₁₀ tk₁₀ E₂ s₁₀ F₁₀ hA₁₀ => ?_
      · intro n c hc
        have e : n = Str.ofString "regions" := by
          by_cases e : n = Str.ofString "regions"
          · exact e
          · rw [List.lookup_cons, beq_false_of_ne e] at hc; cases hc
        subst e
        obtain ⟨o, e, hd⟩ : h₉.IsCell c (some (.ref rd)) := F₉.cell (Str.ofString "regions") c (by rw [List.lookup_cons, beq_self_eq_true] at hc; cases hc; rfl)
        have h87 : c ≠ 87 := (F₉.ca (Str.ofString "regions") c (by rw [List.lookup_cons, beq_self_eq_true] at hc; cases hc; rfl)).2
        exact ⟨⟨o, s.keep c o h87 (fun q => nomatch q) e, hd⟩, h87⟩
      · generalize A.deeper _ = A2 at hA₁₀ ⊢
        have D₁₀ := D₉.up F₉.G (s.trans s₁₀) (fun q => nomatch q)
        (tbr_iter xReturn; (with_reducible refine' mGet2 ?zA ?zB ?zC ?_); (case zA => tb_rel); (case zB => tb_rel); (case zC => tb_rel); (with_reducible refine' nameF ?zA ?zB ?zC ?zD ?zE ?zF ?zG ?_); (case zA => tb_rel); (case zB => tb_rel); (case zC => tb_rel); (case zD => tb_rel); (case zE => tb_rel); (case zF => tb_rel); (case zG => tb_rel))
        refine ⟨rd, [], rfl, l₆, D₁₀, ?_⟩
        ((with_reducible refine' nL ?zA ?zB ?zC ?_); (case zA => tb_rel); (case zB => tb_rel); (case zC => tb_rel); (with_reducible refine' nL ?zA ?zB ?zC ?_); (case zA => tb_rel); (case zB => tb_rel); (case zC => tb_rel))
        refine ⟨_, _, _, _, rfl, rfl, D₁₀, ?_⟩
        exact k _ _ _ (by ktr_room) (Reads.str _ _)
    (tbr_iter after_next; tbr_iter xReturn)
    refine' compE ?c1 ?c2 ?c3 ?c4 ?_
    (case c1 => rfl); (case c2 => rfl); (case c3 => decide); (case c4 => exact fun _ => rfl)
    (ktn_call 91 Call_; (with_reducible refine' nameG ?zA ?zB ?zC ?zD ?zE ?zF ?_); (case zA => tb_rel); (case zB => tb_rel); (case zC => k_is); (case zD => tb_rel); (case zE => tb_rel); (case zF => tb_rel); (with_reducible refine' callF ?zA ?zB ?zC ?zD ?_); (case zA => tb_rel); (case zB => k_is); (case zC => tb_rel); (case zD => tb_rel); (with_reducible refine' aL ?zA ?zB ?zC ?_); (case zA => tb_rel); (case zB => tb_rel); (case zC => tb_rel); (with_reducible refine' aL ?zA ?zB ?zC ?_); (case zA => tb_rel); (case zB => tb_rel); (case zC => tb_rel); (with_reducible refine' aL1 ?zA ?zB ?zC ?_); (case zA => tb_rel); (case zB => tb_rel); (case zC => tb_rel); (with_reducible refine' And.intro (Fm.G ?zF) ?_; (case zF => assumption)))
    refine field_rows_spec (n := 0) (hA'.le (by omega)) (Fm.G (by assumption)) (by tb_rel) hk (WI0.up G (by ktr_room)) hf hk10 fun h₁₀ tk₁₀ l rs s₁₀ L₁₀ X₁₀ => ?_
    have C₁₀ := C₉.up F₉.G s₁₀
    have T₁₀ := T₉.up F₉.G s₁₀ (fun q => nomatch q)
    have F₁₀ := F₉.up s₁₀
    refine comp_list (wr := []) F₁₀ hA' L₁₀ ?_ (by decide) rfl (by tb_rel) (fun _ q => nomatch q) (CompAt.map (rowsOf (fs.map (sub t.arg))) ?_ ?_ ?_)
    · rw [X₁₀.len, rows_len]; exact Nat.le_trans hfl (by decide)
    · rw [X₁₀.len, rows_len, rows_len, List.length_map]
    · intro i v ei C m₃ h₁₁ tk₁₁ E3 hei hv st₁₁ hC F₁₁ hl
      refine hideG fun gP kP => ?_; obtain ⟨f', hf', rfl⟩ := rows_get hei; refine kP ?_; clear kP gP
      rw [List.getElem?_map] at hf'
      obtain ⟨f0, hf0, rfl⟩ : ∃ f0, fs[i]? = some f0 ∧ sub t.arg f0 = f' := by
        cases e : fs[i]? with
        | none => rw [e] at hf'; cases hf'
        | some f0 => rw [e] at hf'; cases hf'; exact ⟨f0, rfl, rfl⟩
      obtain ⟨v', hv', xv⟩ := (X₁₀.up st₁₁).at (j := i) (dj := .tuple [.str (Str.ofString (toString i)), enc f0]) (by unfold rowsOf; rw [List.getElem?_mapIdx, hf0]; rfl)
      rw [hv] at hv'; cases hv'
      have hfd0 := hfd f0 (List.mem_of_getElem? hf0)
      refine asg2X F₁₁ hA' xv fun a b h₁₂ s₁₂ F₁₂ ra rb => ?_
      (ktn_call 2 sL; intros; ktn_call 2 sL; intros; tbr_iter Tuple_; (with_reducible refine' aL ?zA ?zB ?zC ?_); (case zA => tb_rel); (case zB => tb_rel); (case zC => tb_rel); ktn_call 91 args_cons; ktn_call 91 Call_; (with_reducible refine' nameG ?zA ?zB ?zC ?zD ?zE ?zF ?_); (case zA => tb_rel); (case zB => tb_rel); (case zC => k_is); (case zD => tb_rel); (case zE => tb_rel); (case zF => tb_rel); (with_reducible refine' callF ?zA ?zB ?zC ?zD ?_); (case zA => tb_rel); (case zB => k_is); (case zC => tb_rel); (case zD => tb_rel); ktn_call 91 args_cons; ktn_call 91 Call_; (with_reducible refine' nameG ?zA ?zB ?zC ?zD ?zE ?zF ?_); (case zA => tb_rel); (case zB => tb_rel); (case zC => k_is); (case zD => tb_rel); (case zE => tb_rel); (case zF => tb_rel); (with_reducible refine' callF ?zA ?zB ?zC ?zD ?_); (case zA => tb_rel); (case zB => k_is); (case zC => tb_rel); (case zD => tb_rel); (with_reducible refine' aL ?zA ?zB ?zC ?_); (case zA => tb_rel); (case zB => tb_rel); (case zC => tb_rel); ktn_call 91 args_cons; (with_reducible refine' nameC ?zA ?zB ?zC ?zD ?zE ?zF ?_); (case zA => tb_rel); (case zB => tb_rel); (case zC => tb_rel); (case zD => tb_rel); (case zE => tb_rel); (case zF => tb_rel); tbr_iter args_nil; (with_reducible refine' And.intro (Fm.G ?zF) ?_; (case zF => assumption)))
      refine with_regions_spec 10 hfd0.1 (hA'.le (by omega)) (Fm.G (by assumption)) (by tb_rel) hfd0.2 (C₁₀.up F₁₀.G (st₁₁.off (Fm.st (by assumption)) hC)) fun r h₁₃ tk₁₃ s₁₃ x₁₃ => ?_
      rw [wreg_false] at x₁₃
      have F₁₃ := Fm.up (by assumption) s₁₃
      (ktn_call 91 args_cons; (with_reducible refine' nameC ?zA ?zB ?zC ?zD ?zE ?zF ?_); (case zA => tb_rel); (case zB => tb_rel); (case zC => tb_rel); (case zD => tb_rel); (case zE => tb_rel); (case zF => tb_rel); tbr_iter args_nil; (with_reducible refine' And.intro (Fm.G ?zF) ?_; (case zF => assumption)))
      refine substituted_spec 10 hfd0.1 (hA'.le (by omega)) F₁₃.G x₁₃ (T₁₀.up F₁₀.G (st₁₁.off F₁₃.st hC) (fun q => nomatch q)) fun r h₁₄ tk₁₄ s₁₄ x₁₄ => ?_
      have F₁₄ := F₁₃.up s₁₄
      (tbr_iter args_nil; (with_reducible refine' newTupX ?zA ?zB ?zC ?_); (case zA => tb_rel); (case zB => tb_rel); (case zC => tb_rel); intros)
      exact ⟨_, _, _, rfl, by assumption, by tb_rel⟩
    · intro D ys h' tk' st' hD h1 hL xs
      (tbr_iter back_ret)
      exact q _ _ _ _ ((by ktr_room : Step w mg mb [] _ _).trans st') hL xs
  · have hgs : fieldsOf W t k = parts t := by unfold fieldsOf; rw [if_pos hk]
    rw [hgs] at q
    rw [hk, rest_tuple hk] at X'
    (tbr_iter xIf0; (with_reducible refine' tX ?zA ?zB ?zC ?zD ?zE ?zF ?_); (case zA => tb_rel); (case zB => tb_rel); (case zC => tb_rel); (case zD => tb_rel); (case zE => tb_rel); (case zF => tb_rel); ktn_call 1 ifT; tbr_iter xReturn)
    refine' compEn (by assumption) hA' ?c1 ?c2 ?c3 ?c4 ?c5 ?c6 ?_
    (case c1 => rfl); (case c2 => rfl); (case c3 => decide); (case c4 => exact fun _ => rfl); (case c5 => decide); (case c6 => tb_rel)
    clear X
    (ktn_call 91 Call_; (with_reducible refine' nameB_enumerate ?zA ?zB ?zC ?zD ?zE ?zF ?_); (case zA => tb_rel); (case zB => tb_rel); (case zC => k_is); (case zD => tb_rel); (case zE => tb_rel); (case zF => tb_rel); ktn_call 2 callT; ktn_call 91 args_cons; (with_reducible refine' eN ?zA ?zB ?zC ?zD ?zE ?zF ?_); (case zA => tb_rel); (case zB => tb_rel); (case zC => tb_rel); (case zD => tb_rel); (case zE => tb_rel); (case zF => tb_rel); ktn_call 95 eN; tbr_iter args_nil)
    rename_i y X₂
    refine hideG fun gP kP => ?_; obtain ⟨t0, vs, rfl, hT, xs⟩ := X₂.tup; refine kP ?_; clear kP gP
    refine callEn (.inl hT) fun xv s₁ hE => ⟨_, _, hE, by assumption, ?_, CompAt.map (rowsOf (parts t)) ?_ ?_ ?_⟩
    · rw [xs.len, List.length_map]; exact parts_sz t
    · rw [xs.len, rows_len, List.length_map]
    · rintro i v ei C m₃ h₃ tk₃ E3 hei ⟨T, u, x, rfl, hx, hT₃⟩ st₃ hC F₃ hl
      refine hideG fun gP kP => ?_; obtain ⟨p, hp, rfl⟩ := rows_get hei; refine kP ?_; clear kP gP
      obtain ⟨x', hx', xx⟩ := (xs.up st₃).at (j := i) (dj := enc p) (by rw [List.getElem?_map, hp]; rfl)
      rw [hx] at hx'; cases hx'
      have hi : i < 1000 := by
        have h1 := (List.getElem?_eq_some_iff.mp hp).1
        have h2 := parts_le t
        omega
      refine asg2 F₃ hA' hT₃ fun h₄ st₄ F₄ => ?_
      (ktn_call 2 sL; intros; ktn_call 2 sL; intros; tbr_iter Tuple_; ktn_call 91 args_cons; ktn_call 91 Call_; (with_reducible refine' nameB_str ?zA ?zB ?zC ?zD ?zE ?zF ?_); (case zA => tb_rel); (case zB => tb_rel); (case zC => k_is); (case zD => tb_rel); (case zE => tb_rel); (case zF => tb_rel); ktn_call 2 callT; (with_reducible refine' aL1 ?zA ?zB ?zC ?_); (case zA => tb_rel); (case zB => tb_rel); (case zC => tb_rel))
      refine strI hi ?_
      ((with_reducible refine' aL1 ?zA ?zB ?zC ?_); (case zA => tb_rel); (case zB => tb_rel); (case zC => tb_rel); (with_reducible refine' newTupX ?zA ?zB ?zC ?_); (case zA => tb_rel); (case zB => tb_rel); (case zC => tb_rel); intros)
      exact ⟨_, _, _, rfl, by assumption, by tb_rel⟩
    · intro D ys h' tk' st' hD h1 hL xs
      exact q _ _ _ _ ((by ktr_room : Step w mg mb [] _ _).trans st') hL xs
  · have hgs : fieldsOf W t k = [] := fo1 hk
    rw [hgs] at q
    rw [hk] at X'
    ((with_reducible refine' iX ?zA ?zB ?zC ?zD ?zE ?zF ?zG ?_); (case zA => tb_rel); (case zB => tb_rel); (case zC => tb_rel); (case zD => tb_rel); (case zE => tb_rel); (case zF => tb_rel); (case zG => tb_rel); tbr_iter xIf0; (with_reducible refine' tXn ?zA ?zB ?zC ?zD ?zE ?zF ?_); (case zA => tb_rel); (case zB => tb_rel); (case zC => tb_rel); (case zD => tb_rel); (case zE => tb_rel); (case zF => tb_rel); ktn_call 1 ifT; tbr_iter xReturn; tbr_iter List_; tbr_iter args_nil; (with_reducible refine' newLn ?zF ?zs ?_); (case zF => assumption); (case zs => decide))
    intro l h₅ st₅ F₅ P₅ l₅ n₅ ne₅ nc₅ nn₅
    exact q _ _ _ _ (by ktr_room) P₅.isList XTs.nil
  · have hgs : fieldsOf W t k = [] := fo2 hk
    rw [hgs] at q
    (tbr_iter xIf0; (with_reducible refine' tX ?zA ?zB ?zC ?zD ?zE ?zF ?_); (case zA => tb_rel); (case zB => tb_rel); (case zC => tb_rel); (case zD => tb_rel); (case zE => tb_rel); (case zF => tb_rel))
    refine ifF (by simpa using hk.2.1) ?_
    (tbr_iter xIf0; (with_reducible refine' tXn ?zA ?zB ?zC ?zD ?zE ?zF ?_); (case zA => tb_rel); (case zB => tb_rel); (case zC => tb_rel); (case zD => tb_rel); (case zE => tb_rel); (case zF => tb_rel))
    refine ifT (by simpa using hk.1) ?_
    (tbr_iter xReturn; tbr_iter List_; tbr_iter args_nil; (with_reducible refine' newLn ?zF ?zs ?_); (case zF => assumption); (case zs => decide))
    intro l h₅ st₅ F₅ P₅ l₅ n₅ ne₅ nc₅ nn₅
    exact q _ _ _ _ (by ktr_room) P₅.isList XTs.nil
end

section
variable {prog : Program} {w : World} {mg mb : Str → Option Value}
theorem kinds9 (t : Ty) : t.kind = Str.ofString "box" ∨ t.kind = Str.ofString "param" ∨ t.kind = Str.ofString "tuple" ∨ t.kind = Str.ofString "array" ∨ t.kind = Str.ofString "adt" ∨ (t.kind = Str.ofString "int" ∨ t.kind = Str.ofString "bool" ∨ t.kind = Str.ofString "never" ∨ t.kind = Str.ofString "ref") := by
  cases t <;> simp [Ty.kind]
theorem needs_drop_spec {A : Around} {E : Value → Shared → Prop} {h : Heap} {g : Array GenState} {d : Drawn} {tk : Nat} {os : OsState} {v wv : Value} {t : Ty} {W : WD} {Q : Value → Shared → Prop} (hA : Cx A 30) (ok : WOk W) (hd : t.dep ≤ 10) (hs : sz W t ≤ 400) (G : Gd w mg mb h) (X : XT h v (enc t)) (WI : WorldIs prog w h wv W)
    (k : ∀ h' tk', Step w mg mb [] h h' → Q (.bool (nd W t)) ⟨h', g, d, tk', os⟩) : wpAny (model prog w) A (call (.ref 102) [v, wv]) Q E ⟨h, g, d, tk, os⟩ := by
  refine' enter [] (fun _ q => nomatch q) (m := upd (upd nom (Str.ofString "told") v) (Str.ofString "world") wv) (cm := nom) G hA ?k1 ?k2 ?k3 ?k4 ?k5 ?k6 ?k7 ?k8 ?k9 ?_
  case k1 => k_is
  case k2 => k_is
  case k3 => exact BindsTo.of_eq rfl
  case k4 => rfl
  case k5 => intro _; rfl
  case k6 => intro _; rfl
  case k7 => rfl
  case k8 => rfl
  case k9 => rfl
  intro L h₁ tk₁ E' st F CN hA' NL
  generalize A.deeper _ = A2 at hA' ⊢
  (ktn_call 1 xAssign; tbr_iter List_; tbr_iter args_nil; (with_reducible refine' newLn ?zF ?zs ?_); (case zF => assumption); (case zs => decide))
  intro ls h₂ st₂ F₂ P₂ l₂ n₂ ne₂ nc₂ nn₂
  (ktn_call 2 sL; intros; ktn_call 1 xAssign; tbr_iter List_; (with_reducible refine' aL1 ?zA ?zB ?zC ?_); (case zA => tb_rel); (case zB => tb_rel); (case zC => tb_rel))
  rename_i h₃ st₃ F₃
  refine newLn F₃ (Nat.le_of_ble_eq_true rfl) fun ll h₄ st₄ F₄ P₄ l₄ n₄ ne₄ nc₄ nn₄ => ?_
  have Pls : h₄.PlainList ls #[] := PL.up F₃.G st₄ (PL.up F₂.G st₃ P₂ (by simpa using ne₂)) (fun q => nomatch q)
  have nll : ll ≠ ls := (PL.neN (PL.up F₂.G st₃ P₂ (by simpa using ne₂)) nn₄).symm
  (ktn_call 2 sL; intros)
  rename_i h₅ st₅ F₅
  have Pl5 := PL.up F₄.G st₅ P₄ (by simpa using ne₄)
  have Ps5 := PL.up F₄.G st₅ Pls (by simpa using ne₂)
  refine xWhileF F₅ [Str.ofString "here", Str.ofString "variant"] (fun n h' => ∃ l sn : List Ty, ∃ lv sv : List Value, h'.PlainList ll lv.toArray ∧ XTs h' lv (l.map enc) ∧ h'.PlainList ls sv.toArray ∧ XTs h' sv (sn.map enc) ∧ NInv W t l sn ∧ n = szs W l) _
    ⟨[t], [], [v], [], Pl5, XTs.cons (X.up F₅.st) XTs.nil, Ps5, XTs.nil, .init hd hs, rfl⟩ ?_
  rintro n u h₆ tk₆ E₂ ⟨l, sn, lv, sv, PL₆, XL₆, PS₆, XS₆, I, rfl⟩ F₆
  (tbr_iter wpAny_isTrue_Compare1; (with_reducible refine' nL ?zA ?zB ?zC ?_); (case zA => tb_rel); (case zB => tb_rel); (case zC => tb_rel); tbr_iter List_; tbr_iter args_nil; (with_reducible refine' newLn ?zF ?zs ?_); (case zF => assumption); (case zs => decide))
  intro l0 h₇ st₇ F₇ P₇ l₇ n₇ ne₇ nc₇ nn₇
  (skip)
  refine neL hA' (PL.up F₆.G st₇ PL₆ (fun q => nomatch q)).isList (XL₆.up st₇) P₇.isList (vb := []) XTs.nil (encs_shaped _ fun p hp => by have := I.dep p hp; omega) (by decide +kernel) ?_
  rw [eqvAll_nil]
  rcases List.eq_nil_or_concat l with rfl | ⟨l', x, rfl⟩
  · (tbr_iter wpAny_truthy_bool; ktn_call 1 ifF; tbr_iter rB; tbr_iter back_ret)
    rw [I.end] at k
    exact k _ _ (by ktr_room)
  · (tbr_iter wpAny_truthy_bool)
    refine ifT (by simp) ?_
    (ktn_call 1 xAssign)
    simp only [List.concat_eq_append] at *
    rw [List.map_append] at XL₆
    refine hideG fun gP kP => ?_; obtain ⟨lv', vx, rfl, XL', xx⟩ := XL₆.unsnoc; refine kP ?_; clear kP gP
    have hlen : l'.length + 1 + sn.length ≤ 400 := by have := I.len; simp at this; omega
    have hlv : lv'.length = l'.length := by rw [XL'.len, List.length_map]
    refine mPop (mg := mg) (mb := mb) rfl rfl ?_
    ((with_reducible refine' nL ?zA ?zB ?zC ?_); (case zA => tb_rel); (case zB => tb_rel); (case zC => tb_rel))
    refine ⟨ll, _, _, vx, lv', rfl, rfl, l₄, PL.up F₆.G st₇ PL₆ (fun q => nomatch q), by rw [hlv, sizeLine_eq]; omega, fun h₈ st₈ P₈ => ?_⟩
    have F₈ := F₇.upD st₈ n₄ ne₄ nc₄
    have PS₈ := PL.up F₇.G st₈ (PL.up F₆.G st₇ PS₆ (fun q => nomatch q)) (by simpa using nll.symm)
    have XL₈ := (XL'.up st₇).up st₈
    have XS₈ := (XS₆.up st₇).up st₈
    have xx₈ := (xx.up st₇).up st₈
    clear xx XL' XS₆ PL₆ PS₆ XL₆
    (ktn_call 2 sL; intros; tbr_iter xIf0; tbr_iter wpAny_isTrue_Compare1; tbr_iter Subscript_; (with_reducible refine' nL ?zA ?zB ?zC ?_); (case zA => tb_rel); (case zB => tb_rel); (case zC => tb_rel); tbr_iter cInt)
    rename_i h₉ st₉ F₉
    have PL₉ := PL.up F₈.G st₉ P₈ (by simpa using ne₄)
    have PS₉ := PL.up F₈.G st₉ PS₈ (by simpa using ne₂)
    have XL₉ := XL₈.up st₉
    have XS₉ := XS₈.up st₉
    have xx₉ := xx₈.up st₉
    have xk : XT h₉ vx (.tuple (.str x.kind :: x.rest)) := enc_eq x ▸ xx₉
    have FB := F₉.base []
    have ix : x ∈ l' ++ [x] := List.mem_append_right _ (.head _)
    have dx10 : x.dep ≤ 10 := I.dep x ix
    rcases kinds9 x with hk | hk | hk | hk | hk | hk
    · rw [hk] at xk
      ((with_reducible refine' subX ?zx ?zj ?z0 ?zh ?zs ?_); (case zx => tb_rel); (case zj => rfl); (case z0 => decide); (case zh => decide); (case zs => (intro _; with_unfolding_all rfl)); ktn_call 95 rfl; tbr_iter Tuple_; tbr_iter aS; tbr_iter aS1; (with_reducible refine' newTupX ?zA ?zB ?zC ?_); (case zA => tb_rel); (case zB => tb_rel); (case zC => tb_rel); intros; (with_reducible refine' inX ?zA ?zc ?zx ?zs ?zd ?ze ?_); (case zA => assumption); (case zc => tb_rel); (case zx => tb_rel); (case zs => decide +kernel); (case zd => decide +kernel); (case ze => decide +kernel); tbr_iter wpAny_truthy_bool; ktn_call 1 ifT; tbr_iter rB; tbr_iter after_ret; tbr_iter turn_ret; tbr_iter back_ret)
      rw [I.snd x ix (nd_kind (.inl hk))] at k
      exact k _ _ (F₉.jn (by assumption)).st
    · rw [hk] at xk
      ((with_reducible refine' subX ?zx ?zj ?z0 ?zh ?zs ?_); (case zx => tb_rel); (case zj => rfl); (case z0 => decide); (case zh => decide); (case zs => (intro _; with_unfolding_all rfl)); ktn_call 95 rfl; tbr_iter Tuple_; tbr_iter aS; tbr_iter aS1; (with_reducible refine' newTupX ?zA ?zB ?zC ?_); (case zA => tb_rel); (case zB => tb_rel); (case zC => tb_rel); intros; (with_reducible refine' inX ?zA ?zc ?zx ?zs ?zd ?ze ?_); (case zA => assumption); (case zc => tb_rel); (case zx => tb_rel); (case zs => decide +kernel); (case zd => decide +kernel); (case ze => decide +kernel); tbr_iter wpAny_truthy_bool; ktn_call 1 ifT; tbr_iter rB; tbr_iter after_ret; tbr_iter turn_ret; tbr_iter back_ret)
      rw [I.snd x ix (nd_kind (.inr hk))] at k
      exact k _ _ (F₉.jn (by assumption)).st
    · refine hideG fun gP kP => ?_; obtain ⟨np, sp⟩ := nd_parts (W := W) (.inl hk); refine kP ?_; clear kP gP
      have dp : ∀ p ∈ parts x, p.dep ≤ 10 := fun p hp => by have := dep_parts hp; omega
      rw [hk] at xk
      ((with_reducible refine' subX ?zx ?zj ?z0 ?zh ?zs ?_); (case zx => tb_rel); (case zj => rfl); (case z0 => decide); (case zh => decide); (case zs => (intro _; with_unfolding_all rfl)); ktn_call 95 rfl; tbr_iter Tuple_; tbr_iter aS; tbr_iter aS1; (with_reducible refine' newTupX ?zA ?zB ?zC ?_); (case zA => tb_rel); (case zB => tb_rel); (case zC => tb_rel); intros; (with_reducible refine' inX ?zA ?zc ?zx ?zs ?zd ?ze ?_); (case zA => assumption); (case zc => tb_rel); (case zx => tb_rel); (case zs => decide +kernel); (case zd => decide +kernel); (case ze => decide +kernel); tbr_iter wpAny_truthy_bool; ktn_call 1 ifF; tbr_iter xIf; tbr_iter wpAny_isTrue_Compare1; (with_reducible refine' eNs ?zA ?zB ?zC ?zD ?zE ?zF ?_); (case zA => tb_rel); (case zB => tb_rel); (case zC => tb_rel); (case zD => tb_rel); (case zE => tb_rel); (case zF => tb_rel); intros; tbr_iter Tuple_; tbr_iter aS; tbr_iter aS1; (with_reducible refine' newTupX ?zA ?zB ?zC ?_); (case zA => tb_rel); (case zB => tb_rel); (case zC => tb_rel); intros; (with_reducible refine' inX ?zA ?zc ?zx ?zs ?zd ?ze ?_); (case zA => assumption); (case zc => tb_rel); (case zx => tb_rel); (case zs => decide +kernel); (case zd => decide +kernel); (case ze => decide +kernel); tbr_iter wpAny_truthy_bool; ktn_call 1 ifT)
      refine xExpr rfl rfl ?_
      clear xk
      refine mExt (mg := mg) (mb := mb) rfl rfl rfl ?_
      ((with_reducible refine' nL ?zA ?zB ?zC ?_); (case zA => tb_rel); (case zB => tb_rel); (case zC => tb_rel))
      refine ⟨ll, lv', rfl, l₄, PL.up F₉.G (Fm.st (by assumption)) PL₉ (by simpa using ne₄), ?_⟩
      (ktn_call 91 Call_; (with_reducible refine' nameG ?zA ?zB ?zC ?zD ?zE ?zF ?_); (case zA => tb_rel); (case zB => tb_rel); (case zC => k_is); (case zD => tb_rel); (case zE => tb_rel); (case zF => tb_rel); (with_reducible refine' callF ?zA ?zB ?zC ?zD ?_); (case zA => tb_rel); (case zB => k_is); (case zC => tb_rel); (case zD => tb_rel); (with_reducible refine' aL1 ?zA ?zB ?zC ?_); (case zA => tb_rel); (case zB => tb_rel); (case zC => tb_rel); (with_reducible refine' And.intro (Fm.G ?zF) ?_; (case zF => assumption)); (with_reducible refine' parts_of_spec (n := 0) ?zA ?zG ?zX ?_); (case zA => exact Cx.le (by assumption) (by omega)); (case zG => exact Fm.G (by assumption)); (case zX => tb_rel); ktn_call 96 rfl)
      rename_i r h₁₀ tk₁₀ st₁₀ X₁₀ F₁₀
      refine hideG fun gP kP => ?_; obtain ⟨tb, us, rfl, hT, xs⟩ := X₁₀.tup; refine kP ?_; clear kP gP
      refine ⟨_, _, tb, us, rfl, rfl, .inl hT, PL.up F₉.G F₁₀.st PL₉ (by simpa using ne₄), by rw [xs.len, List.length_map, hlv, sizeLine_eq]; have := parts_le x; omega, fun h₁₁ st₁₁ P₁₁ => ?_⟩
      have F₁₁ := (F₉.jn F₁₀).upD st₁₁ n₄ ne₄ nc₄
      (tbr_iter xNil; tbr_iter after_next; tbr_iter xNil; tbr_iter turn_next)
      exact ⟨_, _, _, szs W (l' ++ parts x), szs_lt _ _ sp, rfl, F₁₁, by tb_rel, l' ++ parts x, sn, _, _, P₁₁, by rw [List.map_append]; exact ((XL₉.up F₁₀.st).app xs).up st₁₁, PL.up F₁₀.G st₁₁ (PL.up F₉.G F₁₀.st PS₉ (by simpa using ne₂)) (by simpa using nll.symm), (XS₉.up F₁₀.st).up st₁₁, I.put np sp dp, rfl⟩
    · refine hideG fun gP kP => ?_; obtain ⟨np, sp⟩ := nd_parts (W := W) (.inr hk); refine kP ?_; clear kP gP
      have dp : ∀ p ∈ parts x, p.dep ≤ 10 := fun p hp => by have := dep_parts hp; omega
      rw [hk] at xk
      ((with_reducible refine' subX ?zx ?zj ?z0 ?zh ?zs ?_); (case zx => tb_rel); (case zj => rfl); (case z0 => decide); (case zh => decide); (case zs => (intro _; with_unfolding_all rfl)); ktn_call 95 rfl; tbr_iter Tuple_; tbr_iter aS; tbr_iter aS1; (with_reducible refine' newTupX ?zA ?zB ?zC ?_); (case zA => tb_rel); (case zB => tb_rel); (case zC => tb_rel); intros; (with_reducible refine' inX ?zA ?zc ?zx ?zs ?zd ?ze ?_); (case zA => assumption); (case zc => tb_rel); (case zx => tb_rel); (case zs => decide +kernel); (case zd => decide +kernel); (case ze => decide +kernel); tbr_iter wpAny_truthy_bool; ktn_call 1 ifF; tbr_iter xIf; tbr_iter wpAny_isTrue_Compare1; (with_reducible refine' eNs ?zA ?zB ?zC ?zD ?zE ?zF ?_); (case zA => tb_rel); (case zB => tb_rel); (case zC => tb_rel); (case zD => tb_rel); (case zE => tb_rel); (case zF => tb_rel); intros; tbr_iter Tuple_; tbr_iter aS; tbr_iter aS1; (with_reducible refine' newTupX ?zA ?zB ?zC ?_); (case zA => tb_rel); (case zB => tb_rel); (case zC => tb_rel); intros; (with_reducible refine' inX ?zA ?zc ?zx ?zs ?zd ?ze ?_); (case zA => assumption); (case zc => tb_rel); (case zx => tb_rel); (case zs => decide +kernel); (case zd => decide +kernel); (case ze => decide +kernel); tbr_iter wpAny_truthy_bool; ktn_call 1 ifT)
      refine xExpr rfl rfl ?_
      clear xk
      refine mExt (mg := mg) (mb := mb) rfl rfl rfl ?_
      ((with_reducible refine' nL ?zA ?zB ?zC ?_); (case zA => tb_rel); (case zB => tb_rel); (case zC => tb_rel))
      refine ⟨ll, lv', rfl, l₄, PL.up F₉.G (Fm.st (by assumption)) PL₉ (by simpa using ne₄), ?_⟩
      (ktn_call 91 Call_; (with_reducible refine' nameG ?zA ?zB ?zC ?zD ?zE ?zF ?_); (case zA => tb_rel); (case zB => tb_rel); (case zC => k_is); (case zD => tb_rel); (case zE => tb_rel); (case zF => tb_rel); (with_reducible refine' callF ?zA ?zB ?zC ?zD ?_); (case zA => tb_rel); (case zB => k_is); (case zC => tb_rel); (case zD => tb_rel); (with_reducible refine' aL1 ?zA ?zB ?zC ?_); (case zA => tb_rel); (case zB => tb_rel); (case zC => tb_rel); (with_reducible refine' And.intro (Fm.G ?zF) ?_; (case zF => assumption)); (with_reducible refine' parts_of_spec (n := 0) ?zA ?zG ?zX ?_); (case zA => exact Cx.le (by assumption) (by omega)); (case zG => exact Fm.G (by assumption)); (case zX => tb_rel); ktn_call 96 rfl)
      rename_i r h₁₀ tk₁₀ st₁₀ X₁₀ F₁₀
      refine hideG fun gP kP => ?_; obtain ⟨tb, us, rfl, hT, xs⟩ := X₁₀.tup; refine kP ?_; clear kP gP
      refine ⟨_, _, tb, us, rfl, rfl, .inl hT, PL.up F₉.G F₁₀.st PL₉ (by simpa using ne₄), by rw [xs.len, List.length_map, hlv, sizeLine_eq]; have := parts_le x; omega, fun h₁₁ st₁₁ P₁₁ => ?_⟩
      have F₁₁ := (F₉.jn F₁₀).upD st₁₁ n₄ ne₄ nc₄
      (tbr_iter xNil; tbr_iter after_next; tbr_iter xNil; tbr_iter turn_next)
      exact ⟨_, _, _, szs W (l' ++ parts x), szs_lt _ _ sp, rfl, F₁₁, by tb_rel, l' ++ parts x, sn, _, _, P₁₁, by rw [List.map_append]; exact ((XL₉.up F₁₀.st).app xs).up st₁₁, PL.up F₁₀.G st₁₁ (PL.up F₉.G F₁₀.st PS₉ (by simpa using ne₂)) (by simpa using nll.symm), (XS₉.up F₁₀.st).up st₁₁, I.put np sp dp, rfl⟩
    · rw [hk] at xk
      ((with_reducible refine' subX ?zx ?zj ?z0 ?zh ?zs ?_); (case zx => tb_rel); (case zj => rfl); (case z0 => decide); (case zh => decide); (case zs => (intro _; with_unfolding_all rfl)); ktn_call 95 rfl; tbr_iter Tuple_; tbr_iter aS; tbr_iter aS1; (with_reducible refine' newTupX ?zA ?zB ?zC ?_); (case zA => tb_rel); (case zB => tb_rel); (case zC => tb_rel); intros; (with_reducible refine' inX ?zA ?zc ?zx ?zs ?zd ?ze ?_); (case zA => assumption); (case zc => tb_rel); (case zx => tb_rel); (case zs => decide +kernel); (case zd => decide +kernel); (case ze => decide +kernel); tbr_iter wpAny_truthy_bool; ktn_call 1 ifF; tbr_iter xIf; tbr_iter wpAny_isTrue_Compare1; (with_reducible refine' eNs ?zA ?zB ?zC ?zD ?zE ?zF ?_); (case zA => tb_rel); (case zB => tb_rel); (case zC => tb_rel); (case zD => tb_rel); (case zE => tb_rel); (case zF => tb_rel); intros; tbr_iter Tuple_; tbr_iter aS; tbr_iter aS1; (with_reducible refine' newTupX ?zA ?zB ?zC ?_); (case zA => tb_rel); (case zB => tb_rel); (case zC => tb_rel); intros; (with_reducible refine' inX ?zA ?zc ?zx ?zs ?zd ?ze ?_); (case zA => assumption); (case zc => tb_rel); (case zx => tb_rel); (case zs => decide +kernel); (case zd => decide +kernel); (case ze => decide +kernel); tbr_iter wpAny_truthy_bool; ktn_call 1 ifF; tbr_iter xIf0; tbr_iter wpAny_isTrue_BoolOp; tbr_iter wpAny_allTrue_And_cons; (with_reducible refine' tX ?zA ?zB ?zC ?zD ?zE ?zF ?_); (case zA => tb_rel); (case zB => tb_rel); (case zC => tb_rel); (case zD => tb_rel); (case zE => tb_rel); (case zF => tb_rel); ktn_call 1 ifT; tbr_iter wpAny_allTrue_And_cons; tbr_iter wpAny_isTrue_Compare1; (with_reducible refine' nL ?zA ?zB ?zC ?_); (case zA => tb_rel); (case zB => tb_rel); (case zC => tb_rel); (with_reducible refine' nL ?zA ?zB ?zC ?_); (case zA => tb_rel); (case zB => tb_rel); (case zC => tb_rel))
      rename_i Fz _
      have Fx := F₉.jn Fz
      have PSx := PL.up F₉.G Fz.st PS₉ (by simpa using ne₂)
      have PLx := PL.up F₉.G Fz.st PL₉ (by simpa using ne₄)
      have XSx := XS₉.up Fz.st
      have XLx := XL₉.up Fz.st
      have xxx := xx₉.up Fz.st
      clear xk Fz
      refine ninL hA' PSx.isList XSx xxx (encs_shape sn fun p hp => by have := I.deps p hp; omega).1 (enc_shape x).1 (by have := (enc_shape x).2; omega) ?_
      cases hb : (sn.map enc).any fun y => PyData.eqv y (enc x) with
      | true =>
        have hin : x ∈ sn := by
          rw [List.any_map, List.any_eq_true] at hb
          refine hideG fun gP kP => ?_; obtain ⟨y, hy, e⟩ := hb; refine kP ?_; clear kP gP
          exact eqv_enc e ▸ hy
        (tbr_iter wpAny_truthy_bool; ktn_call 1 ifF; ktn_call 1 ifF; tbr_iter xNil; tbr_iter after_next; tbr_iter xNil; tbr_iter turn_next)
        exact ⟨_, _, _, szs W l', szs_lt0 _, rfl, Fx, by tb_rel, l', sn, _, _, PLx, XLx, PSx, XSx, I.old hin, rfl⟩
      | false =>
        (tbr_iter wpAny_truthy_bool; ktn_call 1 ifT; tbr_iter wpAny_allTrue_And_nil; ktn_call 1 ifT)
        refine xExpr rfl rfl ?_
        refine mApp (mg := mg) (mb := mb) rfl rfl rfl ?_
        ((with_reducible refine' nL ?zA ?zB ?zC ?_); (case zA => tb_rel); (case zB => tb_rel); (case zC => tb_rel))
        refine ⟨ls, sv, rfl, l₂, PSx, ?_⟩
        ((with_reducible refine' nL ?zA ?zB ?zC ?_); (case zA => tb_rel); (case zB => tb_rel); (case zC => tb_rel))
        refine ⟨_, _, rfl, PSx, by rw [XSx.len, List.length_map, sizeLine_eq]; omega, fun h₁₀ st₁₀ P₁₀ => ?_⟩
        have F₁₀ := Fx.upD st₁₀ n₂ ne₂ nc₂
        have PL₁₀ := PL.up Fx.G st₁₀ PLx (by simpa using nll)
        have XL₁₀ := XLx.up st₁₀
        have XS₁₀ : XTs h₁₀ (sv ++ [vx]) ((sn ++ [x]).map enc) := by rw [List.map_append]; exact (XSx.app (XTs.cons xxx XTs.nil)).up st₁₀
        have xx₁₀ := xxx.up st₁₀
        (tbr_iter xIf0; ktn_call 91 isTrue_plain; ktn_call 91 Call_; (with_reducible refine' nameG ?zA ?zB ?zC ?zD ?zE ?zF ?_); (case zA => tb_rel); (case zB => tb_rel); (case zC => k_is); (case zD => tb_rel); (case zE => tb_rel); (case zF => tb_rel); (with_reducible refine' callF ?zA ?zB ?zC ?zD ?_); (case zA => tb_rel); (case zB => k_is); (case zC => tb_rel); (case zD => tb_rel); (with_reducible refine' aL ?zA ?zB ?zC ?_); (case zA => tb_rel); (case zB => tb_rel); (case zC => tb_rel); (with_reducible refine' aL1 ?zA ?zB ?zC ?_); (case zA => tb_rel); (case zB => tb_rel); (case zC => tb_rel); (with_reducible refine' And.intro (Fm.G ?zF) ?_; (case zF => assumption)))
        refine has_drop_spec (hA'.le (by omega)) dx10 F₁₀.G xx₁₀ (WI.up G F₁₀.st) fun h₁₁ tk₁₁ st₁₁ => ?_
        have F₁₁ := F₁₀.up st₁₁
        cases hdr : hasD W x with
        | true =>
          (tbr_iter wpAny_truthy_bool; ktn_call 1 ifT; tbr_iter rB; tbr_iter after_ret; tbr_iter after_ret; tbr_iter after_ret; tbr_iter turn_ret; tbr_iter back_ret)
          rw [I.snd x ix (by rw [nd_adt ok hk, hdr]; rfl)] at k
          exact k _ _ (by ktr_room)
        | false =>
          (tbr_iter wpAny_truthy_bool; ktn_call 1 ifF)
          have PS₁₁ := PL.up F₁₀.G st₁₁ P₁₀ (fun q => nomatch q)
          have PL₁₁ := PL.up F₁₀.G st₁₁ PL₁₀ (fun q => nomatch q)
          have XL₁₁ := XL₁₀.up st₁₁
          have XS₁₁ := XS₁₀.up st₁₁
          have xx₁₁ := xx₁₀.up st₁₁
          have WI' := WI
          refine hideG fun gP kP => ?_; obtain ⟨a, dx, mo, ad, kvs, av, nm, ps, us, rfl, WI1, e1, la, D, hv, AI, AN⟩ := WI.adt hk; refine kP ?_; clear kP gP
          refine hideG fun gP kP => ?_; obtain ⟨aa, adx, amo, rv, pv, vl, vv, rfl, AI1, f1, x1, f2, x2, f3, l3, VA⟩ := AI; refine kP ?_; clear kP gP
          have X2 : XT h₁₁ vx (.tuple [sty "adt", .str nm, .tuple [], .tuple us]) := AN.1 ▸ xx₁₁
          refine' xForRb (wr := []) ?hF [Str.ofString "variant"] [ll] hA' ?hs ?_
          case hF => exact F₁₁
          case hs => exact fun _ => rfl
          clear xx₉ xx₈ xx₁₀
          (ktn_call 91 Call_; (with_reducible refine' nameB_range ?zA ?zB ?zC ?zD ?zE ?zF ?_); (case zA => tb_rel); (case zB => tb_rel); (case zC => k_is); (case zD => tb_rel); (case zE => tb_rel); (case zF => tb_rel); ktn_call 2 callT; ktn_call 91 args_cons; ktn_call 91 Call_; (with_reducible refine' nameB_len ?zA ?zB ?zC ?zD ?zE ?zF ?_); (case zA => tb_rel); (case zB => tb_rel); (case zC => k_is); (case zD => tb_rel); (case zE => tb_rel); (case zF => tb_rel); ktn_call 2 callB; ktn_call 91 args_cons; (with_reducible refine' Attribute_any_ ?_ ?zs); (case zs => with_unfolding_all rfl); tbr_iter Subscript_; (with_reducible refine' Attribute_any_ ?_ ?zs); (case zs => with_unfolding_all rfl); (with_reducible refine' nL ?zA ?zB ?zC ?_); (case zA => tb_rel); (case zB => tb_rel); (case zC => tb_rel); (with_reducible refine' getI ?zG ?zI ?zv ?z1 ?z2 ?z3 ?zh ?_); (case zG => exact Fm.G (by assumption)); (case zI => first | assumption | exact Ins.up0 (Fm.stJ (by assumption) (by assumption)) (by assumption) | exact Ins.up0 (Fm.st (by assumption)) (by assumption)); (case zv => assumption); (case z1 => k_is); (case z2 => k_is); (case z3 => k_is); (case zh => first | rfl | exact XT.handed (by assumption)); (with_reducible refine' eNs ?zA ?zB ?zC ?zD ?zE ?zF ?_); (case zA => tb_rel); (case zB => tb_rel); (case zC => tb_rel); (case zD => tb_rel); (case zE => tb_rel); (case zF => tb_rel); intros)
          refine subD (D.ofE (by assumption) (by simp)) hv (by with_unfolding_all rfl) ?_
          ((with_reducible refine' getI ?zG ?zI ?zv ?z1 ?z2 ?z3 ?zh ?_); (case zG => exact Fm.G (by assumption)); (case zI => first | assumption | exact Ins.up0 (Fm.stJ (by assumption) (by assumption)) (by assumption) | exact Ins.up0 (Fm.st (by assumption)) (by assumption)); (case zv => assumption); (case z1 => k_is); (case z2 => k_is); (case z3 => k_is); (case zh => first | rfl | exact XT.handed (by assumption)); tbr_iter args_nil)
          refine lenL (IsList.ofE (by assumption) l3 (by simp)) (by rw [VA.len]; have := vars_lt W x; omega) ?_
          (tbr_iter args_nil)
          have nv : (W.vars x).length < 3 := vars_lt W x
          refine callRange F₁₁ rfl fun r u' v' h₁₂ tk₁₂ st₁₂ F₁₂ R₁₂ => ?_
          refine ⟨_, _, r, _, _, _, _, rfl, rfl, F₁₂, R₁₂, rgOk (by rw [VA.len]; omega), ?_, ?_⟩
          · intro a ha
            rw [List.mem_singleton.mp ha]
            refine hideG fun gP kP => ?_; obtain ⟨n, e⟩ := PL.up F₁₁.G st₁₂ PL₁₁ (fun q => nomatch q); refine kP ?_; clear kP gP
            exact ⟨⟨_, e⟩, n₄.symm⟩
          refine ⟨fun i h' => (∃ vs : List Value, h'.PlainList ll vs.toArray ∧ XTs h' vs ((l' ++ flds W x i).map enc) ∧ vs.length ≤ 400 + 10 * i) ∧ h'.PlainList ls (sv ++ [vx]).toArray ∧ XTs h' (sv ++ [vx]) ((sn ++ [x]).map enc) ∧ Gd w mg mb h', ?_, ?_, ?_, ?_⟩
          · refine ⟨⟨lv', PL.up F₁₁.G st₁₂ PL₁₁ (fun q => nomatch q), by rw [show flds W x 0 = [] from rfl, List.append_nil]; exact XL₁₁.up st₁₂, by omega⟩, PL.up F₁₁.G st₁₂ PS₁₁ (fun q => nomatch q), XS₁₁.up st₁₂, F₁₂.G⟩
          · rintro i ha hb L st hL ⟨⟨vs, p1, p2, p3⟩, p4, p5, GG⟩
            exact ⟨⟨vs, PL.its st GG p1 (fun a q => (hL a q).2), p2.up st, p3⟩, PL.its st GG p4 (fun a q => (hL a q).2), p5.up st, st.gd GG⟩
          · rintro i v₁ u₁ h₁₃ tk₁₃ E₃ ⟨hi, ti, rfl⟩ ⟨⟨vs, p1, p2, p3⟩, p4, p5, _⟩ st₁₃ Fo₁₃ F₁₃
            have hfs : ∃ fs, (W.vars x)[i]? = some fs := ⟨_, List.getElem?_eq_getElem (by rw [← VA.len]; exact hi)⟩
            refine hideG fun gP kP => ?_; obtain ⟨fs, hfs⟩ := hfs; refine kP ?_; clear kP gP
            refine hideG fun gP kP => ?_; obtain ⟨fo1, fo2, fo3⟩ := vars_ok ok hfs; refine kP ?_; clear kP gP
            have FB₁₃ := F₁₃.base []
            have xx₁₃ : XT h₁₃ vx (enc x) := ((xx₁₁.up st₁₂).up st₁₃)
            clear X2 xx₁₁
            refine wpAny_assign_Name ?_
            (ktn_call 2 sL; intros)
            refine xExpr rfl rfl ?_
            refine mExt (mg := mg) (mb := mb) rfl rfl rfl ?_
            ((with_reducible refine' nL ?zA ?zB ?zC ?_); (case zA => tb_rel); (case zB => tb_rel); (case zC => tb_rel))
            refine ⟨ll, vs, rfl, l₄, PL.up F₁₃.G (Fm.st (by assumption)) p1 (by simpa using ne₄), ?_⟩
            refine' compE ?c1 ?c2 ?c3 ?c4 ?_
            (case c1 => rfl); (case c2 => rfl); (case c3 => decide); (case c4 => exact fun _ => rfl)
            (ktn_call 91 Call_; (with_reducible refine' nameG ?zA ?zB ?zC ?zD ?zE ?zF ?_); (case zA => tb_rel); (case zB => tb_rel); (case zC => k_is); (case zD => tb_rel); (case zE => tb_rel); (case zF => tb_rel); (with_reducible refine' callF ?zA ?zB ?zC ?zD ?_); (case zA => tb_rel); (case zB => k_is); (case zC => tb_rel); (case zD => tb_rel); (with_reducible refine' aL ?zA ?zB ?zC ?_); (case zA => tb_rel); (case zB => tb_rel); (case zC => tb_rel); (with_reducible refine' aL ?zA ?zB ?zC ?_); (case zA => tb_rel); (case zB => tb_rel); (case zC => tb_rel); (with_reducible refine' aL1 ?zA ?zB ?zC ?_); (case zA => tb_rel); (case zB => tb_rel); (case zC => tb_rel); (with_reducible refine' And.intro (Fm.G ?zF) ?_; (case zF => assumption)))
            refine fields_of_spec (n := 0) (fs := fs) (hA'.le (by omega)) (Fm.G (by assumption)) (by tb_rel) (WI'.up G (Fm.stJ (by assumption) Fo₁₃)) (fun _ => ⟨hfs, by omega, fo3⟩) (by omega) fun h₁₄ tk₁₄ l rs st₁₄ L₁₄ X₁₄ => ?_
            have F₁₄ := Fm.up (by assumption) st₁₄
            have hrl : rs.length = (fieldsOf W x i).length := by rw [X₁₄.len, rows_len]
            have hfl : (fieldsOf W x i).length ≤ 3 := by
              unfold fieldsOf; rw [if_neg (by rw [hk]; decide), hfs]; simpa using fo1
            refine comp_list (wr := []) F₁₄ hA' L₁₄ (by rw [hrl, sizeLine_eq]; omega) (by decide) rfl (by tb_rel) (fun _ q => nomatch q) (CompAt.map ((fieldsOf W x i).map enc) (by rw [hrl, List.length_map]) ?_ ?_)
            · intro j v ei C m₃ h₁₅ tk₁₅ E4 hei hv st₁₅ hC F₁₅ hl
              obtain ⟨f', hf', rfl⟩ : ∃ f', (fieldsOf W x i)[j]? = some f' ∧ enc f' = ei := by simpa using hei
              obtain ⟨v', hv', xv⟩ := (X₁₄.up st₁₅).at (j := j) (dj := .tuple [.str (Str.ofString (toString j)), enc f']) (by unfold rowsOf; rw [List.getElem?_mapIdx, hf']; rfl)
              rw [hv] at hv'; cases hv'
              refine asg2X F₁₅ hA' xv fun a b h₁₆ s₁₆ F₁₆ ra rb => ?_
              (ktn_call 2 sL; intros; ktn_call 2 sL; intros; (with_reducible refine' nL ?zA ?zB ?zC ?_); (case zA => tb_rel); (case zB => tb_rel); (case zC => tb_rel))
              exact ⟨_, _, _, rfl, by assumption, by tb_rel⟩
            · intro D' ys h₁₅ tk₁₅ st₁₅ hD' _ hL xs
              have F₁₅ := F₁₄.up st₁₅
              refine ⟨_, _, D', ys, rfl, rfl, .inr hL, PL.up F₁₃.G F₁₅.st p1 (by simpa using ne₄), by rw [xs.len, List.length_map, sizeLine_eq]; have := p3; omega, fun h₁₆ st₁₆ P₁₆ => ?_⟩
              have F₁₆ := (F₁₃.jn F₁₅).upD st₁₆ (.inr (by simp)) ne₄ nc₄
              (tbr_iter xNil; tbr_iter turn_next)
              refine ⟨_, _, _, rfl, F₁₆, by tb_rel, ⟨_, P₁₆, ?_, ?_⟩, PL.up F₁₅.G st₁₆ (PL.up F₁₃.G F₁₅.st p4 (by simpa using ne₂)) (by simpa using nll.symm), (p5.up F₁₅.st).up st₁₆, F₁₆.G⟩
              · rw [flds_succ, ← List.append_assoc, List.map_append]
                exact ((p2.up F₁₅.st).app xs).up st₁₆
              · rw [List.length_append, xs.len, List.length_map]; omega
          · rintro u₁ h' tk' ⟨⟨vs, p1, p2, p3⟩, p4, p5, _⟩ st' F'
            rw [VA.len] at p2
            refine hideG fun gP kP => ?_; obtain ⟨fa, fz, fd⟩ := flds_all ok hk; refine kP ?_; clear kP gP
            have nx : nd W x = (flds W x (W.vars x).length).any (nd W) := by rw [nd_adt ok hk, hdr]; rfl
            (tbr_iter xNil; tbr_iter after_next; tbr_iter xNil; tbr_iter after_next; tbr_iter xNil; tbr_iter turn_next)
            exact ⟨_, _, _, szs W (l' ++ flds W x (W.vars x).length), szs_lt _ _ fz, rfl, F', Agr.ovrS rfl (by tb_rel), l' ++ flds W x (W.vars x).length, sn ++ [x], _, _, p1, p2, p4, p5, I.new nx fz (fun f hf => by have := fd f hf; omega), rfl⟩
    · rcases hk with hk | hk | hk | hk
      all_goals
        have I' := I.drop (by simp [hk])
        rw [hk] at xk
        ((with_reducible refine' subX ?zx ?zj ?z0 ?zh ?zs ?_); (case zx => tb_rel); (case zj => rfl); (case z0 => decide); (case zh => decide); (case zs => (intro _; with_unfolding_all rfl)); ktn_call 95 rfl; tbr_iter Tuple_; tbr_iter aS; tbr_iter aS1; (with_reducible refine' newTupX ?zA ?zB ?zC ?_); (case zA => tb_rel); (case zB => tb_rel); (case zC => tb_rel); intros; (with_reducible refine' inX ?zA ?zc ?zx ?zs ?zd ?ze ?_); (case zA => assumption); (case zc => tb_rel); (case zx => tb_rel); (case zs => decide +kernel); (case zd => decide +kernel); (case ze => decide +kernel); tbr_iter wpAny_truthy_bool; ktn_call 1 ifF; tbr_iter xIf; tbr_iter wpAny_isTrue_Compare1; (with_reducible refine' eNs ?zA ?zB ?zC ?zD ?zE ?zF ?_); (case zA => tb_rel); (case zB => tb_rel); (case zC => tb_rel); (case zD => tb_rel); (case zE => tb_rel); (case zF => tb_rel); intros; tbr_iter Tuple_; tbr_iter aS; tbr_iter aS1; (with_reducible refine' newTupX ?zA ?zB ?zC ?_); (case zA => tb_rel); (case zB => tb_rel); (case zC => tb_rel); intros; (with_reducible refine' inX ?zA ?zc ?zx ?zs ?zd ?ze ?_); (case zA => assumption); (case zc => tb_rel); (case zx => tb_rel); (case zs => decide +kernel); (case zd => decide +kernel); (case ze => decide +kernel); tbr_iter wpAny_truthy_bool; ktn_call 1 ifF; tbr_iter xIf0; tbr_iter wpAny_isTrue_BoolOp; tbr_iter wpAny_allTrue_And_cons; (with_reducible refine' tX ?zA ?zB ?zC ?zD ?zE ?zF ?_); (case zA => tb_rel); (case zB => tb_rel); (case zC => tb_rel); (case zD => tb_rel); (case zE => tb_rel); (case zF => tb_rel); ktn_call 1 ifF; ktn_call 1 ifF; tbr_iter xNil; tbr_iter after_next; tbr_iter xNil; tbr_iter turn_next)
        exact ⟨_, _, _, szs W l', szs_lt0 _, rfl, F₉.jn (by assumption), by tb_rel, l', sn, _, _, PL.up F₉.G (Fm.st (by assumption)) PL₉ (by simpa using ne₄), XL₉.up (Fm.st (by assumption)), PL.up F₉.G (Fm.st (by assumption)) PS₉ (by simpa using ne₂), XS₉.up (Fm.st (by assumption)), I', rfl⟩
end

section
variable {prog : Program} {w : World} {mg mb : Str → Option Value}
theorem take_spec {A : Around} {E : Value → Shared → Prop} {h : Heap} {g : Array GenState} {d : Drawn} {tk : Nat} {os : OsState} {l : Addr} {top : Nat} {u : Tok} {Q : Value → Shared → Prop} (hA : Cx A 1) (G : Gd w mg mb h) (S : SrcAt h l) (h0 : 0 < top) (h1 : top < 1000)
    (k : ∀ (r : Nat) t h' tk', r < top → Step w mg mb [l] h h' → SrcAt h' l → Q (.int r t) ⟨h', g, d, tk', os⟩) : wpAny (model prog w) A (call (.ref 190) [.ref l, .int top u]) Q E ⟨h, g, d, tk, os⟩ := by
  refine hideG fun gP kP => ?_; obtain ⟨ll, a, b, ta, tb, L⟩ := S; refine kP ?_; clear kP gP
  refine' enter [l] (fun a q => by rw [List.mem_singleton.mp q]; exact ⟨_, L.choose_spec.1⟩) (m := upd (upd nom (Str.ofString "source") (.ref l)) (Str.ofString "top") (.int top u)) (cm := nom) G hA ?k1 ?k2 ?k3 ?k4 ?k5 ?k6 ?k7 ?k8 ?k9 ?_
  case k1 => k_is
  case k2 => k_is
  case k3 => exact BindsTo.of_eq rfl
  case k4 => rfl
  case k5 => intro _; rfl
  case k6 => intro _; rfl
  case k7 => rfl
  case k8 => rfl
  case k9 => rfl
  intro L0 h₁ tk₁ E' st F CN hA' NL
  generalize A.deeper _ = A2 at hA' ⊢
  have L₁ := IsList.up G st L (fun q => nomatch q)
  have nl := list_ne_locals F L₁
  have nc := list_ne_cell F L₁
  clear L
  (tbr_iter xIf0; tbr_iter wpAny_isTrue_Compare1; tbr_iter Subscript_; (with_reducible refine' nL ?zA ?zB ?zC ?_); (case zA => tb_rel); (case zB => tb_rel); (case zC => tb_rel); tbr_iter cInt; (with_reducible refine' subLV ?zl ?zy ?z0 ?zh ?zs ?_); (case zl => tb_rel); (case zy => rfl); (case z0 => decide); (case zh => decide); (case zs => with_unfolding_all rfl); tbr_iter cInt; tbr_iter PyProof.Rows.gt_int; tbr_iter wpAny_truthy_bool)
  cases ha : decide (0 < a) with
  | true =>
    (ktn_call 1 ifT; ktn_call 1 xAssign; tbr_iter wpAny_BinOp; ktn_call 91 Call_; (with_reducible refine' nameB_int ?zA ?zB ?zC ?zD ?zE ?zF ?_); (case zA => tb_rel); (case zB => tb_rel); (case zC => k_is); (case zD => tb_rel); (case zE => tb_rel); (case zF => tb_rel); ktn_call 2 callT; ktn_call 91 args_cons; tbr_iter Subscript_; (with_reducible refine' nL ?zA ?zB ?zC ?_); (case zA => tb_rel); (case zB => tb_rel); (case zC => tb_rel); tbr_iter cInt; (with_reducible refine' subLV ?zl ?zy ?z0 ?zh ?zs ?_); (case zl => tb_rel); (case zy => rfl); (case z0 => decide); (case zh => decide); (case zs => with_unfolding_all rfl); tbr_iter args_nil; tbr_iter iInt; (with_reducible refine' nL ?zA ?zB ?zC ?_); (case zA => tb_rel); (case zB => tb_rel); (case zC => tb_rel); (with_reducible refine' iMod ?zb ?_); (case zb => first | decide | omega); ktn_call 2 sL; intros; ktn_call 1 xAssignSub; tbr_iter wpAny_BinOp; tbr_iter Subscript_; (with_reducible refine' nL ?zA ?zB ?zC ?_); (case zA => tb_rel); (case zB => tb_rel); (case zC => tb_rel); tbr_iter cInt; (with_reducible refine' subLV ?zl ?zy ?z0 ?zh ?zs ?_); (case zl => tb_rel); (case zy => rfl); (case z0 => decide); (case zh => decide); (case zs => with_unfolding_all rfl); (with_reducible refine' nL ?zA ?zB ?zC ?_); (case zA => tb_rel); (case zB => tb_rel); (case zC => tb_rel); (with_reducible refine' iDiv ?zb ?zs ?_); (case zb => first | decide | omega); (case zs => first | decide | omega); (with_reducible refine' nL ?zA ?zB ?zC ?_); (case zA => tb_rel); (case zB => tb_rel); (case zC => tb_rel); tbr_iter cInt)
    refine setL (mg := mg) (mb := mb) (by tb_rel) ll (by decide) (Nat.le_of_ble_eq_true rfl) (by decide) fun h₂ s₂ L₂ => ?_
    have F₂ := Fm.upD (by assumption) s₂ (.inr (by simp)) nl nc
    (tbr_iter xReturn; (with_reducible refine' nL ?zA ?zB ?zC ?_); (case zA => tb_rel); (case zB => tb_rel); (case zC => tb_rel); tbr_iter after_ret; tbr_iter back_ret)
    refine hideG fun gP kP => ?_; obtain ⟨r, hr, e⟩ := fmod_nat (a := a) (b := top) h0; refine kP ?_; clear kP gP
    rw [e]
    exact k r _ _ _ hr (by ktr_room) ⟨ll, _, _, _, _, L₂⟩
  | false =>
    (ktn_call 1 ifF; ktn_call 1 xAssignSub; tbr_iter wpAny_BinOp; ktn_call 91 Call_; (with_reducible refine' nameB_int ?zA ?zB ?zC ?zD ?zE ?zF ?_); (case zA => tb_rel); (case zB => tb_rel); (case zC => k_is); (case zD => tb_rel); (case zE => tb_rel); (case zF => tb_rel); ktn_call 2 callT; ktn_call 91 args_cons; tbr_iter wpAny_BinOp; tbr_iter wpAny_BinOp; tbr_iter Subscript_; (with_reducible refine' nL ?zA ?zB ?zC ?_); (case zA => tb_rel); (case zB => tb_rel); (case zC => tb_rel); tbr_iter cInt; (with_reducible refine' subLV ?zl ?zy ?z0 ?zh ?zs ?_); (case zl => tb_rel); (case zy => rfl); (case z0 => decide); (case zh => decide); (case zs => with_unfolding_all rfl); tbr_iter cInt; (with_reducible refine' iMul ?zm ?_); (case zm => first | exact IntMulOk.of_right (by decide) | exact IntMulOk.of_left (by decide) | exact IntMulOk.of_right (intBits_le_64 (by omega) (by omega)) | exact IntMulOk.of_left (intBits_le_64 (by omega) (by omega)) | exact IntMulOk.of_right (by split <;> decide)); tbr_iter cInt; tbr_iter iAdd; tbr_iter args_nil; tbr_iter iInt; tbr_iter cInt; (with_reducible refine' iMod ?zb ?_); (case zb => first | decide | omega); (with_reducible refine' nL ?zA ?zB ?zC ?_); (case zA => tb_rel); (case zB => tb_rel); (case zC => tb_rel); tbr_iter cInt)
    have hb := fmod_lt (a := b * 39373 + 7) (b := 2147483647) (by decide)
    generalize (b * 39373 + 7).fmod 2147483647 = c at hb ⊢
    refine setL (mg := mg) (mb := mb) (by tb_rel) ll (by decide) (Nat.le_of_ble_eq_true rfl) (by decide) fun h₂ s₂ L₂ => ?_
    replace L₂ : h₂.IsList l ([.int a ta, .int c (tk₁ + 1 + 1 + 1 + 1 + 1 + 1 + 1 + 1)] : List Value).toArray := L₂
    have F₂ := Fm.upD (by assumption) s₂ (.inr (by simp)) nl nc
    clear L₁
    (tbr_iter xReturn; tbr_iter wpAny_BinOp; ktn_call 91 Call_; (with_reducible refine' nameB_int ?zA ?zB ?zC ?zD ?zE ?zF ?_); (case zA => tb_rel); (case zB => tb_rel); (case zC => k_is); (case zD => tb_rel); (case zE => tb_rel); (case zF => tb_rel); ktn_call 2 callT; ktn_call 91 args_cons; tbr_iter wpAny_BinOp; tbr_iter wpAny_BinOp; ktn_call 91 Call_; (with_reducible refine' nameB_int ?zA ?zB ?zC ?zD ?zE ?zF ?_); (case zA => tb_rel); (case zB => tb_rel); (case zC => k_is); (case zD => tb_rel); (case zE => tb_rel); (case zF => tb_rel); ktn_call 2 callT; ktn_call 91 args_cons; tbr_iter wpAny_BinOp; tbr_iter Subscript_; (with_reducible refine' nL ?zA ?zB ?zC ?_); (case zA => tb_rel); (case zB => tb_rel); (case zC => tb_rel); tbr_iter cInt; (with_reducible refine' subLV ?zl ?zy ?z0 ?zh ?zs ?_); (case zl => tb_rel); (case zy => rfl); (case z0 => decide); (case zh => decide); (case zs => with_unfolding_all rfl); tbr_iter Subscript_; (with_reducible refine' nL ?zA ?zB ?zC ?_); (case zA => tb_rel); (case zB => tb_rel); (case zC => tb_rel); tbr_iter cInt; (with_reducible refine' subLV ?zl ?zy ?z0 ?zh ?zs ?_); (case zl => tb_rel); (case zy => rfl); (case z0 => decide); (case zh => decide); (case zs => with_unfolding_all rfl); (with_reducible refine' iMul ?zm ?_); (case zm => first | exact IntMulOk.of_right (by decide) | exact IntMulOk.of_left (by decide) | exact IntMulOk.of_right (intBits_le_64 (by omega) (by omega)) | exact IntMulOk.of_left (intBits_le_64 (by omega) (by omega)) | exact IntMulOk.of_right (by split <;> decide)); tbr_iter args_nil; tbr_iter iInt; tbr_iter cInt; (with_reducible refine' iMod ?zb ?_); (case zb => first | decide | omega); tbr_iter cInt; (with_reducible refine' iDiv ?zb ?zs ?_); (case zb => first | decide | omega); (case zs => first | decide | omega); tbr_iter args_nil; tbr_iter iInt; (with_reducible refine' nL ?zA ?zB ?zC ?_); (case zA => tb_rel); (case zB => tb_rel); (case zC => tb_rel); (with_reducible refine' iMod ?zb ?_); (case zb => first | decide | omega); tbr_iter back_ret)
    refine hideG fun gP kP => ?_; obtain ⟨r, hr, e⟩ := fmod_nat (a := ((c * c).fmod 2147483629).fdiv 32) (b := top) h0; refine kP ?_; clear kP gP
    rw [e]
    exact k r _ _ _ hr (by ktr_room) ⟨ll, _, _, _, _, L₂⟩
theorem take_int {A : Around} {E : Value → Shared → Prop} {h : Heap} {g : Array GenState} {d : Drawn} {tk : Nat} {os : OsState} {l : Addr} {top : Int} {u : Tok} {Q : Value → Shared → Prop} (hA : Cx A 1) (G : Gd w mg mb h) (S : SrcAt h l) (h0 : 0 < top) (h1 : top < 1000)
    (k : ∀ (r : Nat) t h' tk', (r : Int) < top → Step w mg mb [l] h h' → SrcAt h' l → Q (.int r t) ⟨h', g, d, tk', os⟩) : wpAny (model prog w) A (call (.ref 190) [.ref l, .int top u]) Q E ⟨h, g, d, tk, os⟩ := by
  obtain ⟨n, rfl⟩ : ∃ n : Nat, top = n := ⟨top.toNat, by omega⟩
  exact take_spec hA G S (by omega) (by omega) fun r t h' tk' hr => k r t h' tk' (by omega)
theorem pool_spec {A : Around} {E : Value → Shared → Prop} {h : Heap} {g : Array GenState} {d : Drawn} {tk : Nat} {os : OsState} {sl : Addr} {vs : List Value} {u : Tok} {Q : Value → Shared → Prop} (hA : Cx A 1) (G : Gd w mg mb h) (S : h.IsList sl vs.toArray) (hi : ∀ v ∈ vs, ∃ i t, v = .int i t) (hl : vs.length ≤ 63)
    (k : ∀ l h' tk', Step w mg mb [] h h' → SrcAt h' l → h.get? l = none → Q (.ref l) ⟨h', g, d, tk', os⟩) : wpAny (model prog w) A (call (.ref 183) [.ref sl, .int 0 u]) Q E ⟨h, g, d, tk, os⟩ := by
  refine' enter [] (fun _ q => nomatch q) (m := upd (upd nom (Str.ofString "script") (.ref sl)) (Str.ofString "k") (.int 0 u)) (cm := nom) G hA ?k1 ?k2 ?k3 ?k4 ?k5 ?k6 ?k7 ?k8 ?k9 ?_
  case k1 => k_is
  case k2 => k_is
  case k3 => exact BindsTo.of_eq rfl
  case k4 => rfl
  case k5 => intro _; rfl
  case k6 => intro _; rfl
  case k7 => rfl
  case k8 => rfl
  case k9 => rfl
  intro L0 h₁ tk₁ E' st F CN hA' NL
  generalize A.deeper _ = A2 at hA' ⊢
  (ktn_call 1 xAssign; tbr_iter cInt; ktn_call 2 sL; intros; tbr_iter xIf0; tbr_iter wpAny_isTrue_Compare1; (with_reducible refine' nL ?zA ?zB ?zC ?_); (case zA => tb_rel); (case zB => tb_rel); (case zC => tb_rel); ktn_call 91 Call_; (with_reducible refine' nameB_len ?zA ?zB ?zC ?zD ?zE ?zF ?_); (case zA => tb_rel); (case zB => tb_rel); (case zC => k_is); (case zD => tb_rel); (case zE => tb_rel); (case zF => tb_rel); ktn_call 2 callB; (with_reducible refine' aL1 ?zA ?zB ?zC ?_); (case zA => tb_rel); (case zB => tb_rel); (case zC => tb_rel))
  rename_i h₂ s₂ F₂
  refine lenL (IsList.ofE F₂ S (by simp)) (by omega) ?_
  cases vs with
  | nil =>
    (tbr_iter PyProof.Rows.lt_int; tbr_iter wpAny_truthy_bool; ktn_call 1 ifF; ktn_call 1 xAssign; ktn_call 91 Call_; (with_reducible refine' nameB_max ?zA ?zB ?zC ?zD ?zE ?zF ?_); (case zA => tb_rel); (case zB => tb_rel); (case zC => k_is); (case zD => tb_rel); (case zE => tb_rel); (case zF => tb_rel); ktn_call 2 callB; ktn_call 91 args_cons; ktn_call 91 Call_; (with_reducible refine' nameB_int ?zA ?zB ?zC ?zD ?zE ?zF ?_); (case zA => tb_rel); (case zB => tb_rel); (case zC => k_is); (case zD => tb_rel); (case zE => tb_rel); (case zF => tb_rel); ktn_call 2 callT; (with_reducible refine' aL1 ?zA ?zB ?zC ?_); (case zA => tb_rel); (case zB => tb_rel); (case zC => tb_rel); tbr_iter iInt; ktn_call 91 args_cons; ktn_call 91 Call_; (with_reducible refine' nameB_int ?zA ?zB ?zC ?zD ?zE ?zF ?_); (case zA => tb_rel); (case zB => tb_rel); (case zC => k_is); (case zD => tb_rel); (case zE => tb_rel); (case zF => tb_rel); ktn_call 2 callT; ktn_call 91 args_cons; tbr_iter wpAny_BinOp; tbr_iter UnaryOp_; tbr_iter cInt; tbr_iter iNeg; (with_reducible refine' nL ?zA ?zB ?zC ?_); (case zA => tb_rel); (case zB => tb_rel); (case zC => tb_rel); tbr_iter iSub; tbr_iter args_nil; tbr_iter iInt; tbr_iter args_nil; ktn_call 2 iMax; intros; ktn_call 2 sL; intros; ktn_call 1 xAssign; tbr_iter wpAny_BinOp; ktn_call 91 Call_; (with_reducible refine' nameB_int ?zA ?zB ?zC ?zD ?zE ?zF ?_); (case zA => tb_rel); (case zB => tb_rel); (case zC => k_is); (case zD => tb_rel); (case zE => tb_rel); (case zF => tb_rel); ktn_call 2 callT; ktn_call 91 args_cons; tbr_iter wpAny_BinOp; tbr_iter wpAny_BinOp; tbr_iter wpAny_BinOp; tbr_iter wpAny_BinOp; tbr_iter wpAny_BinOp; ktn_call 91 Call_; (with_reducible refine' nameB_int ?zA ?zB ?zC ?zD ?zE ?zF ?_); (case zA => tb_rel); (case zB => tb_rel); (case zC => k_is); (case zD => tb_rel); (case zE => tb_rel); (case zF => tb_rel); ktn_call 2 callT; (with_reducible refine' aL1 ?zA ?zB ?zC ?_); (case zA => tb_rel); (case zB => tb_rel); (case zC => tb_rel); tbr_iter iInt; tbr_iter cInt; (with_reducible refine' iMod ?zb ?_); (case zb => first | decide | omega); tbr_iter wpAny_BinOp; tbr_iter wpAny_BinOp; tbr_iter cInt; (with_reducible refine' nL ?zA ?zB ?zC ?_); (case zA => tb_rel); (case zB => tb_rel); (case zC => tb_rel); (with_reducible refine' iMul ?zm ?_); (case zm => first | exact IntMulOk.of_right (by decide) | exact IntMulOk.of_left (by decide) | exact IntMulOk.of_right (intBits_le_64 (by omega) (by omega)) | exact IntMulOk.of_left (intBits_le_64 (by omega) (by omega)) | exact IntMulOk.of_right (by split <;> decide)); (with_reducible refine' nL ?zA ?zB ?zC ?_); (case zA => tb_rel); (case zB => tb_rel); (case zC => tb_rel); (with_reducible refine' iMul ?zm ?_); (case zm => first | exact IntMulOk.of_right (by decide) | exact IntMulOk.of_left (by decide) | exact IntMulOk.of_right (intBits_le_64 (by omega) (by omega)) | exact IntMulOk.of_left (intBits_le_64 (by omega) (by omega)) | exact IntMulOk.of_right (by split <;> decide)); tbr_iter iAdd; tbr_iter wpAny_BinOp; tbr_iter cInt; (with_reducible refine' nL ?zA ?zB ?zC ?_); (case zA => tb_rel); (case zB => tb_rel); (case zC => tb_rel); (with_reducible refine' iMul ?zm ?_); (case zm => first | exact IntMulOk.of_right (by decide) | exact IntMulOk.of_left (by decide) | exact IntMulOk.of_right (intBits_le_64 (by omega) (by omega)) | exact IntMulOk.of_left (intBits_le_64 (by omega) (by omega)) | exact IntMulOk.of_right (by split <;> decide)); tbr_iter iAdd; tbr_iter cInt; tbr_iter iAdd; tbr_iter cInt; (with_reducible refine' iMul ?zm ?_); (case zm => first | exact IntMulOk.of_right (by decide) | exact IntMulOk.of_left (by decide) | exact IntMulOk.of_right (intBits_le_64 (by omega) (by omega)) | exact IntMulOk.of_left (intBits_le_64 (by omega) (by omega)) | exact IntMulOk.of_right (by split <;> decide)); tbr_iter args_nil; tbr_iter iInt; tbr_iter cInt; (with_reducible refine' iMod ?zb ?_); (case zb => first | decide | omega); ktn_call 2 sL; intros; tbr_iter xReturn; tbr_iter List_; ktn_call 91 args_cons; tbr_iter wpAny_BinOp; (with_reducible refine' nL ?zA ?zB ?zC ?_); (case zA => tb_rel); (case zB => tb_rel); (case zC => tb_rel); ktn_call 91 Call_; (with_reducible refine' nameB_int ?zA ?zB ?zC ?zD ?zE ?zF ?_); (case zA => tb_rel); (case zB => tb_rel); (case zC => k_is); (case zD => tb_rel); (case zE => tb_rel); (case zF => tb_rel); ktn_call 2 callT; ktn_call 91 args_cons; tbr_iter wpAny_Compare1; (with_reducible refine' nL ?zA ?zB ?zC ?_); (case zA => tb_rel); (case zB => tb_rel); (case zC => tb_rel); tbr_iter wpAny_BinOp; tbr_iter cInt; tbr_iter cInt; (with_reducible refine' iPow ?za ?zb ?zc ?_); (case za => decide); (case zb => decide); (case zc => decide); tbr_iter iGe; tbr_iter args_nil; tbr_iter iIntB; (with_reducible refine' iMul ?zm ?_); (case zm => first | exact IntMulOk.of_right (by decide) | exact IntMulOk.of_left (by decide) | exact IntMulOk.of_right (intBits_le_64 (by omega) (by omega)) | exact IntMulOk.of_left (intBits_le_64 (by omega) (by omega)) | exact IntMulOk.of_right (by split <;> decide)); (with_reducible refine' aL1 ?zA ?zB ?zC ?_); (case zA => tb_rel); (case zB => tb_rel); (case zC => tb_rel))
    rename_i F₃
    refine newLn F₃ (Nat.le_of_ble_eq_true rfl) fun l h₄ s₄ F₄ P₄ l₄ n₄ ne₄ nc₄ nn₄ => ?_
    (tbr_iter back_ret)
    exact k l _ _ F₄.st ⟨l₄, _, _, _, _, P₄.isList⟩ (n₄.elim id fun q => nomatch q)
  | cons v vs' =>
    refine hideG fun gP kP => ?_; obtain ⟨i, t, rfl⟩ := hi v (.head _); refine kP ?_; clear kP gP
    (tbr_iter PyProof.Rows.lt_int; tbr_iter wpAny_truthy_bool)
    refine ifT (by simp) ?_
    (ktn_call 1 xAssign; tbr_iter Subscript_; (with_reducible refine' nL ?zA ?zB ?zC ?_); (case zA => tb_rel); (case zB => tb_rel); (case zC => tb_rel); (with_reducible refine' nL ?zA ?zB ?zC ?_); (case zA => tb_rel); (case zB => tb_rel); (case zC => tb_rel); (with_reducible refine' subLV ?zl ?zy ?z0 ?zh ?zs ?_); (case zl => tb_rel); (case zy => rfl); (case z0 => decide); (case zh => decide); (case zs => with_unfolding_all rfl); ktn_call 2 sL; intros; tbr_iter xNil; tbr_iter after_next; ktn_call 1 xAssign; ktn_call 91 Call_; (with_reducible refine' nameB_max ?zA ?zB ?zC ?zD ?zE ?zF ?_); (case zA => tb_rel); (case zB => tb_rel); (case zC => k_is); (case zD => tb_rel); (case zE => tb_rel); (case zF => tb_rel); ktn_call 2 callB; ktn_call 91 args_cons; ktn_call 91 Call_; (with_reducible refine' nameB_int ?zA ?zB ?zC ?zD ?zE ?zF ?_); (case zA => tb_rel); (case zB => tb_rel); (case zC => k_is); (case zD => tb_rel); (case zE => tb_rel); (case zF => tb_rel); ktn_call 2 callT; (with_reducible refine' aL1 ?zA ?zB ?zC ?_); (case zA => tb_rel); (case zB => tb_rel); (case zC => tb_rel); tbr_iter iInt; ktn_call 91 args_cons; ktn_call 91 Call_; (with_reducible refine' nameB_int ?zA ?zB ?zC ?zD ?zE ?zF ?_); (case zA => tb_rel); (case zB => tb_rel); (case zC => k_is); (case zD => tb_rel); (case zE => tb_rel); (case zF => tb_rel); ktn_call 2 callT; ktn_call 91 args_cons; tbr_iter wpAny_BinOp; tbr_iter UnaryOp_; tbr_iter cInt; tbr_iter iNeg; (with_reducible refine' nL ?zA ?zB ?zC ?_); (case zA => tb_rel); (case zB => tb_rel); (case zC => tb_rel); tbr_iter iSub; tbr_iter args_nil; tbr_iter iInt; tbr_iter args_nil; ktn_call 2 iMax; intros; ktn_call 2 sL; intros; ktn_call 1 xAssign; tbr_iter wpAny_BinOp; ktn_call 91 Call_; (with_reducible refine' nameB_int ?zA ?zB ?zC ?zD ?zE ?zF ?_); (case zA => tb_rel); (case zB => tb_rel); (case zC => k_is); (case zD => tb_rel); (case zE => tb_rel); (case zF => tb_rel); ktn_call 2 callT; ktn_call 91 args_cons; tbr_iter wpAny_BinOp; tbr_iter wpAny_BinOp; tbr_iter wpAny_BinOp; tbr_iter wpAny_BinOp; tbr_iter wpAny_BinOp; ktn_call 91 Call_; (with_reducible refine' nameB_int ?zA ?zB ?zC ?zD ?zE ?zF ?_); (case zA => tb_rel); (case zB => tb_rel); (case zC => k_is); (case zD => tb_rel); (case zE => tb_rel); (case zF => tb_rel); ktn_call 2 callT; (with_reducible refine' aL1 ?zA ?zB ?zC ?_); (case zA => tb_rel); (case zB => tb_rel); (case zC => tb_rel); tbr_iter iInt; tbr_iter cInt; (with_reducible refine' iMod ?zb ?_); (case zb => first | decide | omega); tbr_iter wpAny_BinOp; tbr_iter wpAny_BinOp; tbr_iter cInt; (with_reducible refine' nL ?zA ?zB ?zC ?_); (case zA => tb_rel); (case zB => tb_rel); (case zC => tb_rel); (with_reducible refine' iMul ?zm ?_); (case zm => first | exact IntMulOk.of_right (by decide) | exact IntMulOk.of_left (by decide) | exact IntMulOk.of_right (intBits_le_64 (by omega) (by omega)) | exact IntMulOk.of_left (intBits_le_64 (by omega) (by omega)) | exact IntMulOk.of_right (by split <;> decide)); (with_reducible refine' nL ?zA ?zB ?zC ?_); (case zA => tb_rel); (case zB => tb_rel); (case zC => tb_rel); (with_reducible refine' iMul ?zm ?_); (case zm => first | exact IntMulOk.of_right (by decide) | exact IntMulOk.of_left (by decide) | exact IntMulOk.of_right (intBits_le_64 (by omega) (by omega)) | exact IntMulOk.of_left (intBits_le_64 (by omega) (by omega)) | exact IntMulOk.of_right (by split <;> decide)); tbr_iter iAdd; tbr_iter wpAny_BinOp; tbr_iter cInt; (with_reducible refine' nL ?zA ?zB ?zC ?_); (case zA => tb_rel); (case zB => tb_rel); (case zC => tb_rel); (with_reducible refine' iMul ?zm ?_); (case zm => first | exact IntMulOk.of_right (by decide) | exact IntMulOk.of_left (by decide) | exact IntMulOk.of_right (intBits_le_64 (by omega) (by omega)) | exact IntMulOk.of_left (intBits_le_64 (by omega) (by omega)) | exact IntMulOk.of_right (by split <;> decide)); tbr_iter iAdd; tbr_iter cInt; tbr_iter iAdd; tbr_iter cInt; (with_reducible refine' iMul ?zm ?_); (case zm => first | exact IntMulOk.of_right (by decide) | exact IntMulOk.of_left (by decide) | exact IntMulOk.of_right (intBits_le_64 (by omega) (by omega)) | exact IntMulOk.of_left (intBits_le_64 (by omega) (by omega)) | exact IntMulOk.of_right (by split <;> decide)); tbr_iter args_nil; tbr_iter iInt; tbr_iter cInt; (with_reducible refine' iMod ?zb ?_); (case zb => first | decide | omega); ktn_call 2 sL; intros; tbr_iter xReturn; tbr_iter List_; ktn_call 91 args_cons; tbr_iter wpAny_BinOp; (with_reducible refine' nL ?zA ?zB ?zC ?_); (case zA => tb_rel); (case zB => tb_rel); (case zC => tb_rel); ktn_call 91 Call_; (with_reducible refine' nameB_int ?zA ?zB ?zC ?zD ?zE ?zF ?_); (case zA => tb_rel); (case zB => tb_rel); (case zC => k_is); (case zD => tb_rel); (case zE => tb_rel); (case zF => tb_rel); ktn_call 2 callT; ktn_call 91 args_cons; tbr_iter wpAny_Compare1; (with_reducible refine' nL ?zA ?zB ?zC ?_); (case zA => tb_rel); (case zB => tb_rel); (case zC => tb_rel); tbr_iter wpAny_BinOp; tbr_iter cInt; tbr_iter cInt; (with_reducible refine' iPow ?za ?zb ?zc ?_); (case za => decide); (case zb => decide); (case zc => decide); tbr_iter iGe; tbr_iter args_nil; tbr_iter iIntB; (with_reducible refine' iMul ?zm ?_); (case zm => first | exact IntMulOk.of_right (by decide) | exact IntMulOk.of_left (by decide) | exact IntMulOk.of_right (intBits_le_64 (by omega) (by omega)) | exact IntMulOk.of_left (intBits_le_64 (by omega) (by omega)) | exact IntMulOk.of_right (by split <;> decide)); (with_reducible refine' aL1 ?zA ?zB ?zC ?_); (case zA => tb_rel); (case zB => tb_rel); (case zC => tb_rel))
    rename_i F₃
    refine newLn F₃ (Nat.le_of_ble_eq_true rfl) fun l h₄ s₄ F₄ P₄ l₄ n₄ ne₄ nc₄ nn₄ => ?_
    (tbr_iter back_ret)
    exact k l _ _ F₄.st ⟨l₄, _, _, _, _, P₄.isList⟩ (n₄.elim id fun q => nomatch q)
end

local macro_rules | `(tactic| ktn_call 99 $_) => `(tactic| ktn_call 97 SrcAt.upS)
section
variable {prog : Program} {w : World} {mg mb : Str → Option Value}
theorem one_spec {A : Around} {E : Value → Shared → Prop} {h : Heap} {g : Array GenState} {d : Drawn} {tk : Nat} {os : OsState} {l tl : Addr} {vs : List Value} {ds : List PyData} {Q : Value → Shared → Prop} (hA : Cx A 2) (G : Gd w mg mb h) (S : SrcAt h l) (T : h.IsList tl vs.toArray) (xs : XTs h vs ds) (hne : tl ≠ l) (h0 : 0 < vs.length) (h1 : vs.length < 100)
    (k : ∀ y dj h' tk', dj ∈ ds → Step w mg mb [l] h h' → SrcAt h' l → XT h' y dj → Q y ⟨h', g, d, tk', os⟩) : wpAny (model prog w) A (call (.ref 197) [.ref l, .ref tl]) Q E ⟨h, g, d, tk, os⟩ := by
  have L := S.2.choose_spec.choose_spec.choose_spec.choose_spec
  refine' enter [l] (fun a q => by rw [List.mem_singleton.mp q]; exact ⟨_, L.choose_spec.1⟩) (m := upd (upd nom (Str.ofString "source") (.ref l)) (Str.ofString "things") (.ref tl)) (cm := nom) G hA ?k1 ?k2 ?k3 ?k4 ?k5 ?k6 ?k7 ?k8 ?k9 ?_
  case k1 => k_is
  case k2 => k_is
  case k3 => exact BindsTo.of_eq rfl
  case k4 => rfl
  case k5 => intro _; rfl
  case k6 => intro _; rfl
  case k7 => rfl
  case k8 => rfl
  case k9 => rfl
  intro L0 h₁ tk₁ E' st F CN hA' NL
  generalize A.deeper _ = A2 at hA' ⊢
  have L₁ := IsList.up G st L (fun q => nomatch q)
  have nl := list_ne_locals F L₁
  have nc := list_ne_cell F L₁
  have S₁ := S.up G st (fun q => nomatch q)
  have T₁ := IsList.up G st T (fun q => nomatch q)
  have xs₁ := xs.up st
  clear L L₁ T S xs
  (tbr_iter xReturn; tbr_iter Subscript_; (with_reducible refine' nL ?zA ?zB ?zC ?_); (case zA => tb_rel); (case zB => tb_rel); (case zC => tb_rel); ktn_call 91 Call_; (with_reducible refine' nameG ?zA ?zB ?zC ?zD ?zE ?zF ?_); (case zA => tb_rel); (case zB => tb_rel); (case zC => k_is); (case zD => tb_rel); (case zE => tb_rel); (case zF => tb_rel); (with_reducible refine' callF ?zA ?zB ?zC ?zD ?_); (case zA => tb_rel); (case zB => k_is); (case zC => tb_rel); (case zD => tb_rel); (with_reducible refine' aL ?zA ?zB ?zC ?_); (case zA => tb_rel); (case zB => tb_rel); (case zC => tb_rel); ktn_call 91 args_cons; ktn_call 91 Call_; (with_reducible refine' nameB_len ?zA ?zB ?zC ?zD ?zE ?zF ?_); (case zA => tb_rel); (case zB => tb_rel); (case zC => k_is); (case zD => tb_rel); (case zE => tb_rel); (case zF => tb_rel); ktn_call 2 callB; (with_reducible refine' aL1 ?zA ?zB ?zC ?_); (case zA => tb_rel); (case zB => tb_rel); (case zC => tb_rel))
  refine lenL T₁ (by omega) ?_
  (tbr_iter args_nil; (with_reducible refine' And.intro (Fm.G ?zF) ?_; (case zF => assumption)))
  refine take_int (hA'.le (by omega)) F.G S₁ (by omega) (by omega) fun r t h₂ tk₂ hr s₂ S₂ => ?_
  have F₂ := F.upD s₂ (.inr (by simp)) nl nc
  have hr' : r < ds.length := by have := xs₁.len; omega
  refine hideG fun gP kP => ?_; obtain ⟨y, hy, xy⟩ := (xs₁.up s₂).at (j := r) (List.getElem?_eq_getElem hr'); refine kP ?_; clear kP gP
  refine subLV (IsList.up F.G s₂ T₁ (by simpa using hne)) (by simpa using hy) (by omega) (by omega) (by with_unfolding_all rfl) ?_
  (tbr_iter back_ret)
  exact k y _ _ _ (List.getElem_mem hr') (by ktr_room) S₂ xy
theorem plain_spec {A : Around} {E : Value → Shared → Prop} {h : Heap} {g : Array GenState} {d : Drawn} {tk : Nat} {os : OsState} {l : Addr} {Q : Value → Shared → Prop} (hA : Cx A 2) (G : Gd w mg mb h) (S : SrcAt h l)
    (k : ∀ y f h' tk', f ∈ plains → Step w mg mb [l] h h' → SrcAt h' l → XT h' y (enc f) → Q y ⟨h', g, d, tk', os⟩) : wpAny (model prog w) A (call (.ref 204) [.ref l]) Q E ⟨h, g, d, tk, os⟩ := by
  have L := S.2.choose_spec.choose_spec.choose_spec.choose_spec
  refine' enter [l] (fun a q => by rw [List.mem_singleton.mp q]; exact ⟨_, L.choose_spec.1⟩) (m := upd nom (Str.ofString "source") (.ref l)) (cm := nom) G hA ?k1 ?k2 ?k3 ?k4 ?k5 ?k6 ?k7 ?k8 ?k9 ?_
  case k1 => k_is
  case k2 => k_is
  case k3 => exact BindsTo.of_eq rfl
  case k4 => rfl
  case k5 => intro _; rfl
  case k6 => intro _; rfl
  case k7 => rfl
  case k8 => rfl
  case k9 => rfl
  intro L0 h₁ tk₁ E' st F CN hA' NL
  generalize A.deeper _ = A2 at hA' ⊢
  have L₁ := IsList.up G st L (fun q => nomatch q)
  have nl := list_ne_locals F L₁
  have nc := list_ne_cell F L₁
  have S₁ := S.up G st (fun q => nomatch q)
  clear L L₁
  (ktn_call 2 xAssignT; tbr_iter Tuple_; ktn_call 91 args_cons; tbr_iter Tuple_; tbr_iter aS; ktn_call 91 args_cons; tbr_iter Tuple_; tbr_iter args_nil; (with_reducible refine' newTupX ?zA ?zB ?zC ?_); (case zA => tb_rel); (case zB => tb_rel); (case zC => tb_rel); intros; tbr_iter args_nil; (with_reducible refine' newTupX ?zA ?zB ?zC ?_); (case zA => tb_rel); (case zB => tb_rel); (case zC => tb_rel); intros; ktn_call 91 args_cons; tbr_iter Tuple_; tbr_iter aS; ktn_call 91 args_cons; tbr_iter Tuple_; ktn_call 91 args_cons; tbr_iter Tuple_; tbr_iter aS1; (with_reducible refine' newTupX ?zA ?zB ?zC ?_); (case zA => tb_rel); (case zB => tb_rel); (case zC => tb_rel); intros; ktn_call 91 args_cons; tbr_iter Tuple_; tbr_iter aS; tbr_iter aS1; (with_reducible refine' newTupX ?zA ?zB ?zC ?_); (case zA => tb_rel); (case zB => tb_rel); (case zC => tb_rel); intros; tbr_iter args_nil; (with_reducible refine' newTupX ?zA ?zB ?zC ?_); (case zA => tb_rel); (case zB => tb_rel); (case zC => tb_rel); intros; tbr_iter args_nil; (with_reducible refine' newTupX ?zA ?zB ?zC ?_); (case zA => tb_rel); (case zB => tb_rel); (case zC => tb_rel); intros; tbr_iter args_nil; (with_reducible refine' newTupX ?zA ?zB ?zC ?_); (case zA => tb_rel); (case zB => tb_rel); (case zC => tb_rel); intros; (with_reducible refine' asg2X ?zA ?zB ?zC ?_); (case zA => tb_rel); (case zB => tb_rel); (case zC => tb_rel); intros; ktn_call 2 sL; intros; ktn_call 2 sL; intros; ktn_call 1 xAssign; tbr_iter List_; ktn_call 91 args_cons; tbr_iter Tuple_; tbr_iter aS; tbr_iter aS1; (with_reducible refine' newTupX ?zA ?zB ?zC ?_); (case zA => tb_rel); (case zB => tb_rel); (case zC => tb_rel); intros; ktn_call 91 args_cons; tbr_iter Tuple_; tbr_iter aS1; (with_reducible refine' newTupX ?zA ?zB ?zC ?_); (case zA => tb_rel); (case zB => tb_rel); (case zC => tb_rel); intros; ktn_call 91 args_cons; tbr_iter Tuple_; tbr_iter aS; tbr_iter aS; ktn_call 91 args_cons; tbr_iter cBool; (with_reducible refine' aL1 ?zA ?zB ?zC ?_); (case zA => tb_rel); (case zB => tb_rel); (case zC => tb_rel); (with_reducible refine' newTupX ?zA ?zB ?zC ?_); (case zA => tb_rel); (case zB => tb_rel); (case zC => tb_rel); intros; ktn_call 91 args_cons; tbr_iter Tuple_; tbr_iter aS; tbr_iter aS; ktn_call 91 args_cons; tbr_iter cBool; (with_reducible refine' aL1 ?zA ?zB ?zC ?_); (case zA => tb_rel); (case zB => tb_rel); (case zC => tb_rel); (with_reducible refine' newTupX ?zA ?zB ?zC ?_); (case zA => tb_rel); (case zB => tb_rel); (case zC => tb_rel); intros; ktn_call 91 args_cons; tbr_iter Tuple_; tbr_iter aS; ktn_call 91 args_cons; tbr_iter Tuple_; tbr_iter aS1; (with_reducible refine' newTupX ?zA ?zB ?zC ?_); (case zA => tb_rel); (case zB => tb_rel); (case zC => tb_rel); intros; tbr_iter args_nil; (with_reducible refine' newTupX ?zA ?zB ?zC ?_); (case zA => tb_rel); (case zB => tb_rel); (case zC => tb_rel); intros; (with_reducible refine' aL1 ?zA ?zB ?zC ?_); (case zA => tb_rel); (case zB => tb_rel); (case zC => tb_rel))
  refine' newLX (ds := [enc (.int true), enc .bool, enc (.ref true false (.pair .bool (.int false))), enc (.ref true true .unit), enc (.box .bool), enc .unit]) ?zF ?zx ?zs ?_
  case zF => assumption
  case zx => tb_rel
  case zs => exact Nat.le_of_ble_eq_true rfl
  intro l₂ h₂ s₂ F₂ P₂ X₂ g₂ n₂ ne₂ nc₂ nn₂
  have S₂ : SrcAt h₂ l := by tb_rel
  have nl2 : l₂ ≠ l := SrcAt.ne (by tb_rel) nn₂
  have FB := F₂.base []
  (ktn_call 2 sL; intros; tbr_iter xReturn; tbr_iter Subscript_; tbr_iter wpAny_BinOp; (with_reducible refine' nL ?zA ?zB ?zC ?_); (case zA => tb_rel); (case zB => tb_rel); (case zC => tb_rel); tbr_iter List_; ktn_call 91 args_cons; tbr_iter Tuple_; tbr_iter aS1; (with_reducible refine' newTupX ?zA ?zB ?zC ?_); (case zA => tb_rel); (case zB => tb_rel); (case zC => tb_rel); intros; tbr_iter args_nil)
  refine' newLX (ds := [enc .never]) ?zF ?zx ?zs ?_
  case zF => assumption
  case zx => tb_rel
  case zs => exact Nat.le_of_ble_eq_true rfl
  intro l₃ h₃ s₃ F₃ P₃ X₃ g₃ n₃ ne₃ nc₃ nn₃
  have L₂ := IsList.up F₂.G F₃.st P₂.isList (by simpa using ne₂)
  have S₃ := S₂.up F₂.G F₃.st (by simpa using nl)
  have X₄ : XTs h₃ _ (plains.map enc) := XTs.app (X₂.up F₃.st) X₃
  have FJ := F₂.jn F₃
  clear X₃ X₂ F₃ S₂ FB F₂
  (skip)
  refine addL FJ L₂ P₃.isList (Nat.le_of_ble_eq_true rfl) fun l₄ h₄ s₄ F₄ P₄ g₄ nn₄ => ?_
  have S₄ := S₃.up FJ.G s₄ (fun q => nomatch q)
  have nl4 : l₄ ≠ l := SrcAt.ne S₃ nn₄
  (ktn_call 91 Call_; (with_reducible refine' nameG ?zA ?zB ?zC ?zD ?zE ?zF ?_); (case zA => tb_rel); (case zB => tb_rel); (case zC => k_is); (case zD => tb_rel); (case zE => tb_rel); (case zF => tb_rel); (with_reducible refine' callF ?zA ?zB ?zC ?zD ?_); (case zA => tb_rel); (case zB => k_is); (case zC => tb_rel); (case zD => tb_rel); (with_reducible refine' aL ?zA ?zB ?zC ?_); (case zA => tb_rel); (case zB => tb_rel); (case zC => tb_rel); tbr_iter aI1; (with_reducible refine' And.intro (Fm.G ?zF) ?_; (case zF => assumption)); (with_reducible refine' take_int ?zA ?zG ?zS ?z0 ?z1 ?_); (case zA => exact Cx.le (by assumption) (by omega)); (case zG => exact Fm.G (by assumption)); (case zS => tb_rel); (case z0 => decide); (case z1 => decide); ktn_call 94 (.inr (by simp)))
  rename_i r t h₅ tk₅ hr s₅ S₅ F₅
  have hr' : r < plains.length := by show r < 7; omega
  obtain ⟨y, hy, xy⟩ := ((X₄.up s₄).up s₅).at (j := r) (dj := enc (plains[r]'hr')) (by rw [List.getElem?_map, List.getElem?_eq_getElem hr']; rfl)
  refine subLV (IsList.up F₄.G s₅ P₄.isList (by simpa using nl4)) (by simpa using hy) (by omega) (by omega) (by with_unfolding_all rfl) ?_
  (tbr_iter back_ret)
  exact k y _ _ _ (List.getElem_mem hr') F₅.st S₅ xy
end

section
variable {prog : Program} {w : World} {mg mb : Str → Option Value}
/-- no T where the law's walk comes -/
def noT : Ty → Bool
  | .prm p => p != .T
  | .pair a b => noT a && noT b
  | .arr t => noT t
  | .E t => noT t
  | _ => true
theorem plain_noT {f : Ty} (h : f ∈ plains) : noT f = true := by
  simp only [plains, List.mem_cons, List.not_mem_nil, or_false] at h
  rcases h with rfl | rfl | rfl | rfl | rfl | rfl | rfl <;> rfl
theorem subXY {A : Around} {E : Value → Shared → Prop} {h : Heap} {g : Array GenState} {d : Drawn} {tk : Nat} {os : OsState} {value slice : Expr} {r : Nat} {t u : Tok} {Q : Value → Shared → Prop} (hr : (r : Int) < 2) (hs : subscripted slice false (.str (Str.ofString "XY") t) (.int r u) = operate [.str (Str.ofString "XY") t, .int r u] (getItem (.str (Str.ofString "XY") t) (.int r u)))
    (k : ∀ p : Pn, noT (.prm p) = true → Q (.str p.str tk) ⟨h, g, d, tk + 1, os⟩) : wpAny (model prog w) A (subscriptTail value slice (.str (Str.ofString "XY") t) (.int r u)) Q E ⟨h, g, d, tk, os⟩ := by
  refine tail_any (typeIs_str _ _ _) F.slot_str_getitem.lookup ?_ hs
  have : r = 0 ∨ r = 1 := by omega
  rcases this with rfl | rfl
  · exact P.getItem_str (s := ⟨h, g, d, tk, os⟩) (c := 88) (by decide) (by decide +kernel) (k .X rfl)
  · exact P.getItem_str (s := ⟨h, g, d, tk, os⟩) (c := 89) (by decide) (by decide +kernel) (k .Y rfl)
theorem type_spec : ∀ (n : Nat) {A : Around} {E : Value → Shared → Prop} {h : Heap} {g : Array GenState} {d : Drawn} {tk : Nat} {os : OsState} {l : Addr} {i : Int} {u : Tok} {Q : Value → Shared → Prop}, i = n → Cx A (n + 3) → Gd w mg mb h → SrcAt h l →
    (∀ y t h' tk', t.dep ≤ n + 2 → noT t = true → Step w mg mb [l] h h' → SrcAt h' l → XT h' y (enc t) → Q y ⟨h', g, d, tk', os⟩) → wpAny (model prog w) A (call (.ref 211) [.ref l, .int i u]) Q E ⟨h, g, d, tk, os⟩ := by
  intro n
  induction n with
  | zero =>
    intro A E h g d tk os l i u Q hi hA G S k
    subst hi
    have L := S.2.choose_spec.choose_spec.choose_spec.choose_spec
    refine' enter [l] (fun a q => by rw [List.mem_singleton.mp q]; exact ⟨_, L.choose_spec.1⟩) (m := upd (upd nom (Str.ofString "source") (.ref l)) (Str.ofString "deep") (.int ((0 : Nat) : Int) u)) (cm := nom) G hA ?k1 ?k2 ?k3 ?k4 ?k5 ?k6 ?k7 ?k8 ?k9 ?_
    case k1 => k_is
    case k2 => k_is
    case k3 => exact BindsTo.of_eq rfl
    case k4 => rfl
    case k5 => intro _; rfl
    case k6 => intro _; rfl
    case k7 => rfl
    case k8 => rfl
    case k9 => rfl
    intro L0 h₁ tk₁ E' st F CN hA' NL
    generalize A.deeper _ = A2 at hA' ⊢
    have L₁ := IsList.up G st L (fun q => nomatch q)
    have nl := list_ne_locals F L₁
    have nc := list_ne_cell F L₁
    have S₁ := S.up G st (fun q => nomatch q)
    clear L L₁
    (ktn_call 1 xAssign; tbr_iter wpAny_IfExp; tbr_iter wpAny_isTrue_Compare1; (with_reducible refine' nL ?zA ?zB ?zC ?_); (case zA => tb_rel); (case zB => tb_rel); (case zC => tb_rel); tbr_iter cInt; tbr_iter PyProof.Rows.gt_int; tbr_iter wpAny_truthy_bool; ktn_call 1 ifF; tbr_iter cInt; ktn_call 2 sL; intros; tbr_iter xIf0; tbr_iter wpAny_isTrue_Compare1; (with_reducible refine' nL ?zA ?zB ?zC ?_); (case zA => tb_rel); (case zB => tb_rel); (case zC => tb_rel); tbr_iter cInt; tbr_iter PyProof.Rows.lt_int; tbr_iter wpAny_truthy_bool; ktn_call 1 ifF; tbr_iter xIf0; tbr_iter wpAny_isTrue_Compare1; (with_reducible refine' nL ?zA ?zB ?zC ?_); (case zA => tb_rel); (case zB => tb_rel); (case zC => tb_rel); tbr_iter cInt; tbr_iter PyProof.Rows.eq_int; tbr_iter wpAny_truthy_bool; ktn_call 1 ifF; tbr_iter xIf0; tbr_iter wpAny_isTrue_Compare1; (with_reducible refine' nL ?zA ?zB ?zC ?_); (case zA => tb_rel); (case zB => tb_rel); (case zC => tb_rel); tbr_iter cInt; tbr_iter PyProof.Rows.gt_int; tbr_iter wpAny_truthy_bool; ktn_call 1 ifT; tbr_iter xReturn; ktn_call 91 Call_; (with_reducible refine' nameG ?zA ?zB ?zC ?zD ?zE ?zF ?_); (case zA => tb_rel); (case zB => tb_rel); (case zC => k_is); (case zD => tb_rel); (case zE => tb_rel); (case zF => tb_rel); (with_reducible refine' callF ?zA ?zB ?zC ?zD ?_); (case zA => tb_rel); (case zB => k_is); (case zC => tb_rel); (case zD => tb_rel); (with_reducible refine' aL1 ?zA ?zB ?zC ?_); (case zA => tb_rel); (case zB => tb_rel); (case zC => tb_rel); (with_reducible refine' And.intro (Fm.G ?zF) ?_; (case zF => assumption)))
    refine plain_spec (hA'.le (by omega)) (Fm.G (by assumption)) (by tb_rel) fun y f h' tk' hf s' S' x => ?_
    have F' := Fm.upD (by assumption) s' (.inr (by simp)) nl nc
    (tbr_iter after_ret; tbr_iter back_ret)
    exact k y f _ _ (by have := (plain_nd (W := ⟨[], [], []⟩) hf).2.2.2.1; omega) (plain_noT hf) F'.st S' x
  | succ n ih =>
    intro A E h g d tk os l i u Q hi hA G S k
    subst hi
    have L := S.2.choose_spec.choose_spec.choose_spec.choose_spec
    refine' enter [l] (fun a q => by rw [List.mem_singleton.mp q]; exact ⟨_, L.choose_spec.1⟩) (m := upd (upd nom (Str.ofString "source") (.ref l)) (Str.ofString "deep") (.int ((n + 1 : Nat) : Int) u)) (cm := nom) G hA ?k1 ?k2 ?k3 ?k4 ?k5 ?k6 ?k7 ?k8 ?k9 ?_
    case k1 => k_is
    case k2 => k_is
    case k3 => exact BindsTo.of_eq rfl
    case k4 => rfl
    case k5 => intro _; rfl
    case k6 => intro _; rfl
    case k7 => rfl
    case k8 => rfl
    case k9 => rfl
    intro L0 h₁ tk₁ E' st F CN hA' NL
    generalize A.deeper _ = A2 at hA' ⊢
    have L₁ := IsList.up G st L (fun q => nomatch q)
    have nl := list_ne_locals F L₁
    have nc := list_ne_cell F L₁
    have S₁ := S.up G st (fun q => nomatch q)
    clear L L₁
    (ktn_call 1 xAssign; tbr_iter wpAny_IfExp; tbr_iter wpAny_isTrue_Compare1; (with_reducible refine' nL ?zA ?zB ?zC ?_); (case zA => tb_rel); (case zB => tb_rel); (case zC => tb_rel); tbr_iter cInt; tbr_iter PyProof.Rows.gt_int; tbr_iter wpAny_truthy_bool)
    refine ifT (by simp) ?_
    (ktn_call 91 Call_; (with_reducible refine' nameG ?zA ?zB ?zC ?zD ?zE ?zF ?_); (case zA => tb_rel); (case zB => tb_rel); (case zC => k_is); (case zD => tb_rel); (case zE => tb_rel); (case zF => tb_rel); (with_reducible refine' callF ?zA ?zB ?zC ?zD ?_); (case zA => tb_rel); (case zB => k_is); (case zC => tb_rel); (case zD => tb_rel); (with_reducible refine' aL ?zA ?zB ?zC ?_); (case zA => tb_rel); (case zB => tb_rel); (case zC => tb_rel); tbr_iter aI1; (with_reducible refine' And.intro (Fm.G ?zF) ?_; (case zF => assumption)); (with_reducible refine' take_int ?zA ?zG ?zS ?z0 ?z1 ?_); (case zA => exact Cx.le (by assumption) (by omega)); (case zG => exact Fm.G (by assumption)); (case zS => tb_rel); (case z0 => decide); (case z1 => decide); ktn_call 94 (.inr (by simp)); ktn_call 2 sL; intros; tbr_iter xIf0; tbr_iter wpAny_isTrue_Compare1; (with_reducible refine' nL ?zA ?zB ?zC ?_); (case zA => tb_rel); (case zB => tb_rel); (case zC => tb_rel); tbr_iter cInt; tbr_iter PyProof.Rows.lt_int; tbr_iter wpAny_truthy_bool)
    rename_i r t₂ h₂ tk₂ hr s₂ S₂ F₂ h₃ s₃ F₃
    have hc : r = 0 ∨ r = 1 ∨ r = 2 ∨ r = 3 ∨ r = 4 ∨ r = 5 ∨ r = 6 ∨ r = 7 ∨ r = 8 := by omega
    rcases hc with rfl | rfl | rfl | rfl | rfl | rfl | rfl | rfl | rfl
    · (ktn_call 1 ifT; tbr_iter xReturn; tbr_iter Subscript_; tbr_iter List_; ktn_call 91 args_cons; tbr_iter Tuple_; tbr_iter aS; tbr_iter aS; ktn_call 91 args_cons; tbr_iter Tuple_; tbr_iter args_nil; (with_reducible refine' newTupX ?zA ?zB ?zC ?_); (case zA => tb_rel); (case zB => tb_rel); (case zC => tb_rel); intros; ktn_call 91 args_cons; tbr_iter Tuple_; tbr_iter args_nil; (with_reducible refine' newTupX ?zA ?zB ?zC ?_); (case zA => tb_rel); (case zB => tb_rel); (case zC => tb_rel); intros; tbr_iter args_nil; (with_reducible refine' newTupX ?zA ?zB ?zC ?_); (case zA => tb_rel); (case zB => tb_rel); (case zC => tb_rel); intros; ktn_call 91 args_cons; tbr_iter Tuple_; tbr_iter aS; tbr_iter aS; ktn_call 91 args_cons; tbr_iter Tuple_; tbr_iter args_nil; (with_reducible refine' newTupX ?zA ?zB ?zC ?_); (case zA => tb_rel); (case zB => tb_rel); (case zC => tb_rel); intros; ktn_call 91 args_cons; tbr_iter Tuple_; tbr_iter args_nil; (with_reducible refine' newTupX ?zA ?zB ?zC ?_); (case zA => tb_rel); (case zB => tb_rel); (case zC => tb_rel); intros; tbr_iter args_nil; (with_reducible refine' newTupX ?zA ?zB ?zC ?_); (case zA => tb_rel); (case zB => tb_rel); (case zC => tb_rel); intros; tbr_iter args_nil)
      refine' newLX (ds := [enc .S, enc .L]) ?zF ?zx ?zs ?_
      case zF => assumption
      case zx => tb_rel
      case zs => exact Nat.le_of_ble_eq_true rfl
      intro l₅ h₅ s₅ F₅ P₅ X₅ g₅ n₅ ne₅ nc₅ nn₅
      have S₅ : SrcAt h₅ l := by tb_rel
      ((with_reducible refine' nL ?zA ?zB ?zC ?_); (case zA => tb_rel); (case zB => tb_rel); (case zC => tb_rel))
      refine hideG fun gP kP => ?_; obtain ⟨y, hy, xy⟩ := X₅.at (j := 0) (dj := enc .S) rfl; refine kP ?_; clear kP gP
      refine subLV P₅.isList hy (by decide) (by decide) (by with_unfolding_all rfl) ?_
      (tbr_iter after_ret; tbr_iter back_ret)
      exact k y .S _ _ (by simp [Ty.dep]) rfl F₅.st S₅ xy
    · (ktn_call 1 ifT; tbr_iter xReturn; tbr_iter Subscript_; tbr_iter List_; ktn_call 91 args_cons; tbr_iter Tuple_; tbr_iter aS; tbr_iter aS; ktn_call 91 args_cons; tbr_iter Tuple_; tbr_iter args_nil; (with_reducible refine' newTupX ?zA ?zB ?zC ?_); (case zA => tb_rel); (case zB => tb_rel); (case zC => tb_rel); intros; ktn_call 91 args_cons; tbr_iter Tuple_; tbr_iter args_nil; (with_reducible refine' newTupX ?zA ?zB ?zC ?_); (case zA => tb_rel); (case zB => tb_rel); (case zC => tb_rel); intros; tbr_iter args_nil; (with_reducible refine' newTupX ?zA ?zB ?zC ?_); (case zA => tb_rel); (case zB => tb_rel); (case zC => tb_rel); intros; ktn_call 91 args_cons; tbr_iter Tuple_; tbr_iter aS; tbr_iter aS; ktn_call 91 args_cons; tbr_iter Tuple_; tbr_iter args_nil; (with_reducible refine' newTupX ?zA ?zB ?zC ?_); (case zA => tb_rel); (case zB => tb_rel); (case zC => tb_rel); intros; ktn_call 91 args_cons; tbr_iter Tuple_; tbr_iter args_nil; (with_reducible refine' newTupX ?zA ?zB ?zC ?_); (case zA => tb_rel); (case zB => tb_rel); (case zC => tb_rel); intros; tbr_iter args_nil; (with_reducible refine' newTupX ?zA ?zB ?zC ?_); (case zA => tb_rel); (case zB => tb_rel); (case zC => tb_rel); intros; tbr_iter args_nil)
      refine' newLX (ds := [enc .S, enc .L]) ?zF ?zx ?zs ?_
      case zF => assumption
      case zx => tb_rel
      case zs => exact Nat.le_of_ble_eq_true rfl
      intro l₅ h₅ s₅ F₅ P₅ X₅ g₅ n₅ ne₅ nc₅ nn₅
      have S₅ : SrcAt h₅ l := by tb_rel
      ((with_reducible refine' nL ?zA ?zB ?zC ?_); (case zA => tb_rel); (case zB => tb_rel); (case zC => tb_rel))
      refine hideG fun gP kP => ?_; obtain ⟨y, hy, xy⟩ := X₅.at (j := 1) (dj := enc .L) rfl; refine kP ?_; clear kP gP
      refine subLV P₅.isList hy (by decide) (by decide) (by with_unfolding_all rfl) ?_
      (tbr_iter after_ret; tbr_iter back_ret)
      exact k y .L _ _ (by simp [Ty.dep]) rfl F₅.st S₅ xy
    · (ktn_call 1 ifF; tbr_iter xIf0; tbr_iter wpAny_isTrue_Compare1; (with_reducible refine' nL ?zA ?zB ?zC ?_); (case zA => tb_rel); (case zB => tb_rel); (case zC => tb_rel); tbr_iter cInt; tbr_iter PyProof.Rows.eq_int; tbr_iter wpAny_truthy_bool; ktn_call 1 ifT; tbr_iter xReturn; tbr_iter Tuple_; tbr_iter aS; ktn_call 91 args_cons; tbr_iter Subscript_; tbr_iter cStr; ktn_call 91 Call_; (with_reducible refine' nameG ?zA ?zB ?zC ?zD ?zE ?zF ?_); (case zA => tb_rel); (case zB => tb_rel); (case zC => k_is); (case zD => tb_rel); (case zE => tb_rel); (case zF => tb_rel); (with_reducible refine' callF ?zA ?zB ?zC ?zD ?_); (case zA => tb_rel); (case zB => k_is); (case zC => tb_rel); (case zD => tb_rel); (with_reducible refine' aL ?zA ?zB ?zC ?_); (case zA => tb_rel); (case zB => tb_rel); (case zC => tb_rel); tbr_iter aI1; (with_reducible refine' And.intro (Fm.G ?zF) ?_; (case zF => assumption)); (with_reducible refine' take_int ?zA ?zG ?zS ?z0 ?z1 ?_); (case zA => exact Cx.le (by assumption) (by omega)); (case zG => exact Fm.G (by assumption)); (case zS => tb_rel); (case z0 => decide); (case z1 => decide); ktn_call 94 (.inr (by simp)))
      rename_i hr' s₅ S₅ F₅
      refine subXY hr' (by with_unfolding_all rfl) fun p hp => ?_
      (tbr_iter args_nil; (with_reducible refine' newTupX ?zA ?zB ?zC ?_); (case zA => tb_rel); (case zB => tb_rel); (case zC => tb_rel); intros; tbr_iter after_ret; tbr_iter back_ret)
      exact k _ (.prm p) _ _ (by simp [Ty.dep]) hp (by ktr_room) (by tb_rel) (by tb_rel)
    · (ktn_call 1 ifF; tbr_iter xIf0; tbr_iter wpAny_isTrue_Compare1; (with_reducible refine' nL ?zA ?zB ?zC ?_); (case zA => tb_rel); (case zB => tb_rel); (case zC => tb_rel); tbr_iter cInt; tbr_iter PyProof.Rows.eq_int; tbr_iter wpAny_truthy_bool; ktn_call 1 ifF; tbr_iter xIf0; tbr_iter wpAny_isTrue_Compare1; (with_reducible refine' nL ?zA ?zB ?zC ?_); (case zA => tb_rel); (case zB => tb_rel); (case zC => tb_rel); tbr_iter cInt; tbr_iter PyProof.Rows.gt_int; tbr_iter wpAny_truthy_bool; ktn_call 1 ifF; ktn_call 1 xAssign; ktn_call 91 Call_; (with_reducible refine' nameG ?zA ?zB ?zC ?zD ?zE ?zF ?_); (case zA => tb_rel); (case zB => tb_rel); (case zC => k_is); (case zD => tb_rel); (case zE => tb_rel); (case zF => tb_rel); (with_reducible refine' callF ?zA ?zB ?zC ?zD ?_); (case zA => tb_rel); (case zB => k_is); (case zC => tb_rel); (case zD => tb_rel); (with_reducible refine' aL ?zA ?zB ?zC ?_); (case zA => tb_rel); (case zB => tb_rel); (case zC => tb_rel); ktn_call 91 args_cons; tbr_iter wpAny_BinOp; (with_reducible refine' nL ?zA ?zB ?zC ?_); (case zA => tb_rel); (case zB => tb_rel); (case zC => tb_rel); tbr_iter cInt; tbr_iter iSub; tbr_iter args_nil; (with_reducible refine' And.intro (Fm.G ?zF) ?_; (case zF => assumption)))
      refine ih (by push_cast; omega) (hA'.le (by omega)) (Fm.G (by assumption)) (by tb_rel) fun y t h₄ tk₄ hd hn s₄ S₄ x₄ => ?_
      have F₄ := Fm.upD (by assumption) s₄ (.inr (by simp)) nl nc
      clear S₂ S₁
      (ktn_call 2 sL; intros; tbr_iter xIf0; tbr_iter wpAny_isTrue_Compare1; (with_reducible refine' nL ?zA ?zB ?zC ?_); (case zA => tb_rel); (case zB => tb_rel); (case zC => tb_rel); tbr_iter cInt; tbr_iter PyProof.Rows.eq_int; tbr_iter wpAny_truthy_bool; ktn_call 1 ifT; tbr_iter xReturn; tbr_iter Tuple_; tbr_iter aS; tbr_iter aS; ktn_call 91 args_cons; tbr_iter Tuple_; tbr_iter args_nil; (with_reducible refine' newTupX ?zA ?zB ?zC ?_); (case zA => tb_rel); (case zB => tb_rel); (case zC => tb_rel); intros; ktn_call 91 args_cons; tbr_iter Tuple_; (with_reducible refine' aL1 ?zA ?zB ?zC ?_); (case zA => tb_rel); (case zB => tb_rel); (case zC => tb_rel); (with_reducible refine' newTupX ?zA ?zB ?zC ?_); (case zA => tb_rel); (case zB => tb_rel); (case zC => tb_rel); intros; tbr_iter args_nil; (with_reducible refine' newTupX ?zA ?zB ?zC ?_); (case zA => tb_rel); (case zB => tb_rel); (case zC => tb_rel); intros; tbr_iter after_ret; tbr_iter back_ret)
      exact k _ (.E t) _ _ (by simp only [Ty.dep]; omega) hn (by ktr_room) (by tb_rel) (by tb_rel)
    · (ktn_call 1 ifF; tbr_iter xIf0; tbr_iter wpAny_isTrue_Compare1; (with_reducible refine' nL ?zA ?zB ?zC ?_); (case zA => tb_rel); (case zB => tb_rel); (case zC => tb_rel); tbr_iter cInt; tbr_iter PyProof.Rows.eq_int; tbr_iter wpAny_truthy_bool; ktn_call 1 ifF; tbr_iter xIf0; tbr_iter wpAny_isTrue_Compare1; (with_reducible refine' nL ?zA ?zB ?zC ?_); (case zA => tb_rel); (case zB => tb_rel); (case zC => tb_rel); tbr_iter cInt; tbr_iter PyProof.Rows.gt_int; tbr_iter wpAny_truthy_bool; ktn_call 1 ifF; ktn_call 1 xAssign; ktn_call 91 Call_; (with_reducible refine' nameG ?zA ?zB ?zC ?zD ?zE ?zF ?_); (case zA => tb_rel); (case zB => tb_rel); (case zC => k_is); (case zD => tb_rel); (case zE => tb_rel); (case zF => tb_rel); (with_reducible refine' callF ?zA ?zB ?zC ?zD ?_); (case zA => tb_rel); (case zB => k_is); (case zC => tb_rel); (case zD => tb_rel); (with_reducible refine' aL ?zA ?zB ?zC ?_); (case zA => tb_rel); (case zB => tb_rel); (case zC => tb_rel); ktn_call 91 args_cons; tbr_iter wpAny_BinOp; (with_reducible refine' nL ?zA ?zB ?zC ?_); (case zA => tb_rel); (case zB => tb_rel); (case zC => tb_rel); tbr_iter cInt; tbr_iter iSub; tbr_iter args_nil; (with_reducible refine' And.intro (Fm.G ?zF) ?_; (case zF => assumption)))
      refine ih (by push_cast; omega) (hA'.le (by omega)) (Fm.G (by assumption)) (by tb_rel) fun y t h₄ tk₄ hd hn s₄ S₄ x₄ => ?_
      have F₄ := Fm.upD (by assumption) s₄ (.inr (by simp)) nl nc
      clear S₂ S₁
      (ktn_call 2 sL; intros; tbr_iter xIf0; tbr_iter wpAny_isTrue_Compare1; (with_reducible refine' nL ?zA ?zB ?zC ?_); (case zA => tb_rel); (case zB => tb_rel); (case zC => tb_rel); tbr_iter cInt; tbr_iter PyProof.Rows.eq_int; tbr_iter wpAny_truthy_bool; ktn_call 1 ifF; tbr_iter xIf0; tbr_iter wpAny_isTrue_Compare1; (with_reducible refine' nL ?zA ?zB ?zC ?_); (case zA => tb_rel); (case zB => tb_rel); (case zC => tb_rel); tbr_iter cInt; tbr_iter PyProof.Rows.eq_int; tbr_iter wpAny_truthy_bool; ktn_call 1 ifT; tbr_iter xReturn; tbr_iter Tuple_; tbr_iter aS; (with_reducible refine' aL ?zA ?zB ?zC ?_); (case zA => tb_rel); (case zB => tb_rel); (case zC => tb_rel); tbr_iter aI1; (with_reducible refine' newTupX ?zA ?zB ?zC ?_); (case zA => tb_rel); (case zB => tb_rel); (case zC => tb_rel); intros; tbr_iter after_ret; tbr_iter back_ret)
      exact k _ (.arr t) _ _ (by simp only [Ty.dep]; omega) hn (by ktr_room) (by tb_rel) (by tb_rel)
    · (ktn_call 1 ifF; tbr_iter xIf0; tbr_iter wpAny_isTrue_Compare1; (with_reducible refine' nL ?zA ?zB ?zC ?_); (case zA => tb_rel); (case zB => tb_rel); (case zC => tb_rel); tbr_iter cInt; tbr_iter PyProof.Rows.eq_int; tbr_iter wpAny_truthy_bool; ktn_call 1 ifF; tbr_iter xIf0; tbr_iter wpAny_isTrue_Compare1; (with_reducible refine' nL ?zA ?zB ?zC ?_); (case zA => tb_rel); (case zB => tb_rel); (case zC => tb_rel); tbr_iter cInt; tbr_iter PyProof.Rows.gt_int; tbr_iter wpAny_truthy_bool; ktn_call 1 ifF; ktn_call 1 xAssign; ktn_call 91 Call_; (with_reducible refine' nameG ?zA ?zB ?zC ?zD ?zE ?zF ?_); (case zA => tb_rel); (case zB => tb_rel); (case zC => k_is); (case zD => tb_rel); (case zE => tb_rel); (case zF => tb_rel); (with_reducible refine' callF ?zA ?zB ?zC ?zD ?_); (case zA => tb_rel); (case zB => k_is); (case zC => tb_rel); (case zD => tb_rel); (with_reducible refine' aL ?zA ?zB ?zC ?_); (case zA => tb_rel); (case zB => tb_rel); (case zC => tb_rel); ktn_call 91 args_cons; tbr_iter wpAny_BinOp; (with_reducible refine' nL ?zA ?zB ?zC ?_); (case zA => tb_rel); (case zB => tb_rel); (case zC => tb_rel); tbr_iter cInt; tbr_iter iSub; tbr_iter args_nil; (with_reducible refine' And.intro (Fm.G ?zF) ?_; (case zF => assumption)))
      refine ih (by push_cast; omega) (hA'.le (by omega)) (Fm.G (by assumption)) (by tb_rel) fun y t h₄ tk₄ hd hn s₄ S₄ x₄ => ?_
      have F₄ := Fm.upD (by assumption) s₄ (.inr (by simp)) nl nc
      clear S₂ S₁
      (ktn_call 2 sL; intros; tbr_iter xIf0; tbr_iter wpAny_isTrue_Compare1; (with_reducible refine' nL ?zA ?zB ?zC ?_); (case zA => tb_rel); (case zB => tb_rel); (case zC => tb_rel); tbr_iter cInt; tbr_iter PyProof.Rows.eq_int; tbr_iter wpAny_truthy_bool; ktn_call 1 ifF; tbr_iter xIf0; tbr_iter wpAny_isTrue_Compare1; (with_reducible refine' nL ?zA ?zB ?zC ?_); (case zA => tb_rel); (case zB => tb_rel); (case zC => tb_rel); tbr_iter cInt; tbr_iter PyProof.Rows.eq_int; tbr_iter wpAny_truthy_bool; ktn_call 1 ifF; tbr_iter xIf0; tbr_iter wpAny_isTrue_Compare1; (with_reducible refine' nL ?zA ?zB ?zC ?_); (case zA => tb_rel); (case zB => tb_rel); (case zC => tb_rel); tbr_iter cInt; tbr_iter PyProof.Rows.eq_int; tbr_iter wpAny_truthy_bool; ktn_call 1 ifT; tbr_iter xReturn; tbr_iter Tuple_; tbr_iter aS; ktn_call 91 args_cons; tbr_iter Tuple_; (with_reducible refine' aL ?zA ?zB ?zC ?_); (case zA => tb_rel); (case zB => tb_rel); (case zC => tb_rel); ktn_call 91 args_cons; ktn_call 91 Call_; (with_reducible refine' nameG ?zA ?zB ?zC ?zD ?zE ?zF ?_); (case zA => tb_rel); (case zB => tb_rel); (case zC => k_is); (case zD => tb_rel); (case zE => tb_rel); (case zF => tb_rel); (with_reducible refine' callF ?zA ?zB ?zC ?zD ?_); (case zA => tb_rel); (case zB => k_is); (case zC => tb_rel); (case zD => tb_rel); (with_reducible refine' aL ?zA ?zB ?zC ?_); (case zA => tb_rel); (case zB => tb_rel); (case zC => tb_rel); ktn_call 91 args_cons; tbr_iter wpAny_BinOp; (with_reducible refine' nL ?zA ?zB ?zC ?_); (case zA => tb_rel); (case zB => tb_rel); (case zC => tb_rel); tbr_iter cInt; tbr_iter iSub; tbr_iter args_nil; (with_reducible refine' And.intro (Fm.G ?zF) ?_; (case zF => assumption)))
      refine ih (by push_cast; omega) (hA'.le (by omega)) (Fm.G (by assumption)) (by tb_rel) fun y₂ t₂ h₅ tk₅ hd₂ hn₂ s₅ S₅ x₅ => ?_
      have F₅ := Fm.upD (by assumption) s₅ (.inr (by simp)) nl nc
      clear S₄
      (tbr_iter args_nil; (with_reducible refine' newTupX ?zA ?zB ?zC ?_); (case zA => tb_rel); (case zB => tb_rel); (case zC => tb_rel); intros; tbr_iter args_nil; (with_reducible refine' newTupX ?zA ?zB ?zC ?_); (case zA => tb_rel); (case zB => tb_rel); (case zC => tb_rel); intros; tbr_iter after_ret; tbr_iter back_ret)
      exact k _ (.pair t t₂) _ _ (by simp only [Ty.dep]; omega) (by simp [noT, hn, hn₂]) (by ktr_room) (by tb_rel) (by tb_rel)
    · (ktn_call 1 ifF; tbr_iter xIf0; tbr_iter wpAny_isTrue_Compare1; (with_reducible refine' nL ?zA ?zB ?zC ?_); (case zA => tb_rel); (case zB => tb_rel); (case zC => tb_rel); tbr_iter cInt; tbr_iter PyProof.Rows.eq_int; tbr_iter wpAny_truthy_bool; ktn_call 1 ifF; tbr_iter xIf0; tbr_iter wpAny_isTrue_Compare1; (with_reducible refine' nL ?zA ?zB ?zC ?_); (case zA => tb_rel); (case zB => tb_rel); (case zC => tb_rel); tbr_iter cInt; tbr_iter PyProof.Rows.gt_int; tbr_iter wpAny_truthy_bool; ktn_call 1 ifF; ktn_call 1 xAssign; ktn_call 91 Call_; (with_reducible refine' nameG ?zA ?zB ?zC ?zD ?zE ?zF ?_); (case zA => tb_rel); (case zB => tb_rel); (case zC => k_is); (case zD => tb_rel); (case zE => tb_rel); (case zF => tb_rel); (with_reducible refine' callF ?zA ?zB ?zC ?zD ?_); (case zA => tb_rel); (case zB => k_is); (case zC => tb_rel); (case zD => tb_rel); (with_reducible refine' aL ?zA ?zB ?zC ?_); (case zA => tb_rel); (case zB => tb_rel); (case zC => tb_rel); ktn_call 91 args_cons; tbr_iter wpAny_BinOp; (with_reducible refine' nL ?zA ?zB ?zC ?_); (case zA => tb_rel); (case zB => tb_rel); (case zC => tb_rel); tbr_iter cInt; tbr_iter iSub; tbr_iter args_nil; (with_reducible refine' And.intro (Fm.G ?zF) ?_; (case zF => assumption)))
      refine ih (by push_cast; omega) (hA'.le (by omega)) (Fm.G (by assumption)) (by tb_rel) fun y t h₄ tk₄ hd hn s₄ S₄ x₄ => ?_
      have F₄ := Fm.upD (by assumption) s₄ (.inr (by simp)) nl nc
      clear S₂ S₁
      (ktn_call 2 sL; intros; tbr_iter xIf0; tbr_iter wpAny_isTrue_Compare1; (with_reducible refine' nL ?zA ?zB ?zC ?_); (case zA => tb_rel); (case zB => tb_rel); (case zC => tb_rel); tbr_iter cInt; tbr_iter PyProof.Rows.eq_int; tbr_iter wpAny_truthy_bool; ktn_call 1 ifF; tbr_iter xIf0; tbr_iter wpAny_isTrue_Compare1; (with_reducible refine' nL ?zA ?zB ?zC ?_); (case zA => tb_rel); (case zB => tb_rel); (case zC => tb_rel); tbr_iter cInt; tbr_iter PyProof.Rows.eq_int; tbr_iter wpAny_truthy_bool; ktn_call 1 ifF; tbr_iter xIf0; tbr_iter wpAny_isTrue_Compare1; (with_reducible refine' nL ?zA ?zB ?zC ?_); (case zA => tb_rel); (case zB => tb_rel); (case zC => tb_rel); tbr_iter cInt; tbr_iter PyProof.Rows.eq_int; tbr_iter wpAny_truthy_bool; ktn_call 1 ifF; tbr_iter xReturn; tbr_iter Tuple_; tbr_iter aS; ktn_call 91 args_cons; tbr_iter cNone; ktn_call 91 args_cons; tbr_iter wpAny_Compare1; ktn_call 91 Call_; (with_reducible refine' nameG ?zA ?zB ?zC ?zD ?zE ?zF ?_); (case zA => tb_rel); (case zB => tb_rel); (case zC => k_is); (case zD => tb_rel); (case zE => tb_rel); (case zF => tb_rel); (with_reducible refine' callF ?zA ?zB ?zC ?zD ?_); (case zA => tb_rel); (case zB => k_is); (case zC => tb_rel); (case zD => tb_rel); (with_reducible refine' aL ?zA ?zB ?zC ?_); (case zA => tb_rel); (case zB => tb_rel); (case zC => tb_rel); tbr_iter aI1; (with_reducible refine' And.intro (Fm.G ?zF) ?_; (case zF => assumption)); (with_reducible refine' take_int ?zA ?zG ?zS ?z0 ?z1 ?_); (case zA => exact Cx.le (by assumption) (by omega)); (case zG => exact Fm.G (by assumption)); (case zS => tb_rel); (case z0 => decide); (case z1 => decide); ktn_call 94 (.inr (by simp)); tbr_iter cInt; tbr_iter PyProof.Rows.eq_int; (with_reducible refine' aL1 ?zA ?zB ?zC ?_); (case zA => tb_rel); (case zB => tb_rel); (case zC => tb_rel); (with_reducible refine' newTupX ?zA ?zB ?zC ?_); (case zA => tb_rel); (case zB => tb_rel); (case zC => tb_rel); intros; tbr_iter back_ret)
      rename_i S₅ _ _ _ _
      exact k _ (.ref false _ t) _ _ (by simp only [Ty.dep]; omega) rfl (by ktr_room) (by tb_rel) (by tb_rel)
    · (ktn_call 1 ifF; tbr_iter xIf0; tbr_iter wpAny_isTrue_Compare1; (with_reducible refine' nL ?zA ?zB ?zC ?_); (case zA => tb_rel); (case zB => tb_rel); (case zC => tb_rel); tbr_iter cInt; tbr_iter PyProof.Rows.eq_int; tbr_iter wpAny_truthy_bool; ktn_call 1 ifF; tbr_iter xIf0; tbr_iter wpAny_isTrue_Compare1; (with_reducible refine' nL ?zA ?zB ?zC ?_); (case zA => tb_rel); (case zB => tb_rel); (case zC => tb_rel); tbr_iter cInt; tbr_iter PyProof.Rows.gt_int; tbr_iter wpAny_truthy_bool; ktn_call 1 ifT; tbr_iter xReturn; ktn_call 91 Call_; (with_reducible refine' nameG ?zA ?zB ?zC ?zD ?zE ?zF ?_); (case zA => tb_rel); (case zB => tb_rel); (case zC => k_is); (case zD => tb_rel); (case zE => tb_rel); (case zF => tb_rel); (with_reducible refine' callF ?zA ?zB ?zC ?zD ?_); (case zA => tb_rel); (case zB => k_is); (case zC => tb_rel); (case zD => tb_rel); (with_reducible refine' aL1 ?zA ?zB ?zC ?_); (case zA => tb_rel); (case zB => tb_rel); (case zC => tb_rel); (with_reducible refine' And.intro (Fm.G ?zF) ?_; (case zF => assumption)))
      refine plain_spec (hA'.le (by omega)) (Fm.G (by assumption)) (by tb_rel) fun y f h' tk' hf s' S' x => ?_
      have F' := Fm.upD (by assumption) s' (.inr (by simp)) nl nc
      (tbr_iter after_ret; tbr_iter back_ret)
      exact k y f _ _ (by have := (plain_nd (W := ⟨[], [], []⟩) hf).2.2.2.1; omega) (plain_noT hf) F'.st S' x
    · (ktn_call 1 ifF; tbr_iter xIf0; tbr_iter wpAny_isTrue_Compare1; (with_reducible refine' nL ?zA ?zB ?zC ?_); (case zA => tb_rel); (case zB => tb_rel); (case zC => tb_rel); tbr_iter cInt; tbr_iter PyProof.Rows.eq_int; tbr_iter wpAny_truthy_bool; ktn_call 1 ifF; tbr_iter xIf0; tbr_iter wpAny_isTrue_Compare1; (with_reducible refine' nL ?zA ?zB ?zC ?_); (case zA => tb_rel); (case zB => tb_rel); (case zC => tb_rel); tbr_iter cInt; tbr_iter PyProof.Rows.gt_int; tbr_iter wpAny_truthy_bool; ktn_call 1 ifT; tbr_iter xReturn; ktn_call 91 Call_; (with_reducible refine' nameG ?zA ?zB ?zC ?zD ?zE ?zF ?_); (case zA => tb_rel); (case zB => tb_rel); (case zC => k_is); (case zD => tb_rel); (case zE => tb_rel); (case zF => tb_rel); (with_reducible refine' callF ?zA ?zB ?zC ?zD ?_); (case zA => tb_rel); (case zB => k_is); (case zC => tb_rel); (case zD => tb_rel); (with_reducible refine' aL1 ?zA ?zB ?zC ?_); (case zA => tb_rel); (case zB => tb_rel); (case zC => tb_rel); (with_reducible refine' And.intro (Fm.G ?zF) ?_; (case zF => assumption)))
      refine plain_spec (hA'.le (by omega)) (Fm.G (by assumption)) (by tb_rel) fun y f h' tk' hf s' S' x => ?_
      have F' := Fm.upD (by assumption) s' (.inr (by simp)) nl nc
      (tbr_iter after_ret; tbr_iter back_ret)
      exact k y f _ _ (by have := (plain_nd (W := ⟨[], [], []⟩) hf).2.2.2.1; omega) (plain_noT hf) F'.st S' x
end

section
variable {prog : Program} {w : World} {mg mb : Str → Option Value}
theorem begun_spec {A : Around} {E : Value → Shared → Prop} {h : Heap} {g : Array GenState} {d : Drawn} {tk : Nat} {os : OsState} {l : Addr} {Q : Value → Shared → Prop} (hA : Cx A 10) (G : Gd w mg mb h) (S : SrcAt h l)
    (k : ∀ ov o h' tk', WOk o.W → Step w mg mb [l] h h' → SrcAt h' l → OwnIs prog w h' ov o → Q ov ⟨h', g, d, tk', os⟩) : wpAny (model prog w) A (call (.ref 216) [.ref l]) Q E ⟨h, g, d, tk, os⟩ := by
  have L := S.2.choose_spec.choose_spec.choose_spec.choose_spec
  refine' enter [l] (fun a q => by rw [List.mem_singleton.mp q]; exact ⟨_, L.choose_spec.1⟩) (m := nom) (cm := upd nom (Str.ofString "source") (.ref l)) G hA ?k1 ?k2 ?k3 ?k4 ?k5 ?k6 ?k7 ?k8 ?k9 ?_
  case k1 => k_is
  case k2 => k_is
  case k3 => exact BindsTo.of_eq rfl
  case k4 => rfl
  case k5 => intro _; rfl
  case k6 => intro _; rfl
  case k7 => rfl
  case k8 => rfl
  case k9 => rfl
  intro L0 h₁ tk₁ E' st F CN hA' NL
  generalize A.deeper _ = A2 at hA' ⊢
  have L₁ := IsList.up G st L (fun q => nomatch q)
  have nl := list_ne_locals F L₁
  have nc := list_ne_cell F L₁
  have S₁ := S.up G st (fun q => nomatch q)
  clear L L₁
  (skip)
  refine' xAssignComp ?c0 ?c1 ?c2 ?c3 ?c4 ?_
  (case c0 => rfl); (case c1 => rfl); (case c2 => rfl); (case c3 => decide); (case c4 => exact fun _ => rfl)
  (ktn_call 91 Call_; (with_reducible refine' nameB_range ?zA ?zB ?zC ?zD ?zE ?zF ?_); (case zA => tb_rel); (case zB => tb_rel); (case zC => k_is); (case zD => tb_rel); (case zE => tb_rel); (case zF => tb_rel); ktn_call 2 callT; ktn_call 91 args_cons; ktn_call 91 Call_; (with_reducible refine' nameG ?zA ?zB ?zC ?zD ?zE ?zF ?_); (case zA => tb_rel); (case zB => tb_rel); (case zC => k_is); (case zD => tb_rel); (case zE => tb_rel); (case zF => tb_rel); (with_reducible refine' callF ?zA ?zB ?zC ?zD ?_); (case zA => tb_rel); (case zB => k_is); (case zC => tb_rel); (case zD => tb_rel); ktn_call 91 args_cons; (with_reducible refine' nameC ?zA ?zB ?zC ?zD ?zE ?zF ?_); (case zA => tb_rel); (case zB => tb_rel); (case zC => tb_rel); (case zD => tb_rel); (case zE => tb_rel); (case zF => tb_rel); tbr_iter aI1; (with_reducible refine' And.intro (Fm.G ?zF) ?_; (case zF => assumption)); (with_reducible refine' take_int ?zA ?zG ?zS ?z0 ?z1 ?_); (case zA => exact Cx.le (by assumption) (by omega)); (case zG => exact Fm.G (by assumption)); (case zS => tb_rel); (case z0 => decide); (case z1 => decide); ktn_call 94 (.inr (by simp)); tbr_iter args_nil)
  rename_i r t₂ h₂ tk₂ hr s₂ S₂ F₂
  refine callRange F₂ rfl fun rr u' v' h₃ tk₃ s₃ F₃ R₃ => ?_
  have S₃ := S₂.up F₂.G s₃ (fun q => nomatch q)
  refine comp_rangeU (wr := [l]) F₃ hA' R₃ (rgOk (by omega)) (by rw [sizeLine_eq]; omega) (by decide) rfl (by tb_rel) ?_ rfl rfl ?_
  · intro a ha
    rw [List.mem_singleton.mp ha]
    refine hideG fun gP kP => ?_; obtain ⟨_, _, _, _, _, o, e, _⟩ := S₃; refine kP ?_; clear kP gP
    exact ⟨⟨o, e⟩, nc⟩
  refine ⟨fun _ o => ∃ f ∈ plains, o = some (enc f), fun h => SrcAt h l ∧ Gd w mg mb h, ⟨S₃, F₃.G⟩, ?_, ?_, fun h' st => F₃.upD st (.inr (by simp)) nl nc, ?_, ?_⟩
  · rintro L ha hb st hL ⟨Sa, Ga⟩
    refine ⟨Sa.up Ga st fun q => ?_, st.gd Ga⟩
    refine hideG fun gP kP => ?_; obtain ⟨_, _, _, _, _, o, e, _⟩ := S₃; refine kP ?_; clear kP gP
    rw [hL l q] at e; cases e
  · rintro ha hb st ⟨Sa, Ga⟩
    exact ⟨Sa.up Ga st (by simpa using nl), st.gd Ga⟩
  · rintro i v C m₃ h₄ tk₄ E3 hi ⟨ti, rfl⟩ ⟨Sa, Ga⟩ st₄ hC F₄ hl
    refine hideG fun gP kP => ?_; obtain ⟨nl', nc'⟩ := Sa.nl F₄; refine kP ?_; clear kP gP
    refine wpAny_assign_Name ?_
    (ktn_call 2 sL; intros)
    refine wpAny_tests_nil ?_
    simp only [if_true]
    (ktn_call 91 Call_; (with_reducible refine' nameG ?zA ?zB ?zC ?zD ?zE ?zF ?_); (case zA => tb_rel); (case zB => tb_rel); (case zC => k_is); (case zD => tb_rel); (case zE => tb_rel); (case zF => tb_rel); (with_reducible refine' callF ?zA ?zB ?zC ?zD ?_); (case zA => tb_rel); (case zB => k_is); (case zC => tb_rel); (case zD => tb_rel); ktn_call 91 args_cons; (with_reducible refine' nameC ?zA ?zB ?zC ?zD ?zE ?zF ?_); (case zA => tb_rel); (case zB => tb_rel); (case zC => tb_rel); (case zD => tb_rel); (case zE => tb_rel); (case zF => tb_rel); tbr_iter args_nil; (with_reducible refine' And.intro (Fm.G ?zF) ?_; (case zF => assumption)))
    refine plain_spec (hA'.le (by omega)) (Fm.G (by assumption)) (by tb_rel) fun y f h₅ tk₅ hf s₅ S₅ x₅ => ?_
    have F₅ := Fm.upD (by assumption) s₅ (.inr (by simp)) nl' nc'
    (skip)
    exact ⟨_, _, _, enc f, rfl, F₅, x₅, ⟨f, hf, rfl⟩, S₅, F₅.G⟩
  intro fl fv os₁ h₄ tk₄ hl₁ hR₁ ⟨S₄, _⟩ st₄ nfl gfl Lf xf F₄
  refine hideG fun gP kP => ?_; obtain ⟨fs, fs1, fs2, fs3⟩ := os_plain hR₁; refine kP ?_; clear kP gP
  rw [fs3] at xf
  have fs4 : fs.length < 4 := by omega
  clear hR₁ fs3
  have nfl4 := SrcAt.ne S₃ nfl
  have nfll := list_ne_locals F₄ Lf
  (skip)
  refine' xAssignComp ?c0 ?c1 ?c2 ?c3 ?c4 ?_
  (case c0 => rfl); (case c1 => rfl); (case c2 => rfl); (case c3 => decide); (case c4 => exact fun _ => rfl)
  (ktn_call 91 Call_; (with_reducible refine' nameB_range ?zA ?zB ?zC ?zD ?zE ?zF ?_); (case zA => tb_rel); (case zB => tb_rel); (case zC => k_is); (case zD => tb_rel); (case zE => tb_rel); (case zF => tb_rel); ktn_call 2 callT; ktn_call 91 args_cons; ktn_call 91 Call_; (with_reducible refine' nameG ?zA ?zB ?zC ?zD ?zE ?zF ?_); (case zA => tb_rel); (case zB => tb_rel); (case zC => k_is); (case zD => tb_rel); (case zE => tb_rel); (case zF => tb_rel); (with_reducible refine' callF ?zA ?zB ?zC ?zD ?_); (case zA => tb_rel); (case zB => k_is); (case zC => tb_rel); (case zD => tb_rel); ktn_call 91 args_cons; (with_reducible refine' nameC ?zA ?zB ?zC ?zD ?zE ?zF ?_); (case zA => tb_rel); (case zB => tb_rel); (case zC => tb_rel); (case zD => tb_rel); (case zE => tb_rel); (case zF => tb_rel); tbr_iter aI1; (with_reducible refine' And.intro (Fm.G ?zF) ?_; (case zF => assumption)); (with_reducible refine' take_int ?zA ?zG ?zS ?z0 ?z1 ?_); (case zA => exact Cx.le (by assumption) (by omega)); (case zG => exact Fm.G (by assumption)); (case zS => tb_rel); (case z0 => decide); (case z1 => decide); ktn_call 94 (.inr (by simp)); tbr_iter args_nil)
  rename_i r₂ t₅ h₅ tk₅ hr₂ s₅ S₅ F₅
  refine callRange F₅ rfl fun rr u' v' h₆ tk₆ s₆ F₆ R₆ => ?_
  have S₆ := S₅.up F₅.G s₆ (fun q => nomatch q)
  refine comp_rangeU (wr := [l]) F₆ hA' R₆ (rgOk (by omega)) (by rw [sizeLine_eq]; omega) (by decide) rfl (by tb_rel) ?_ rfl rfl ?_
  · intro a ha
    rw [List.mem_singleton.mp ha]
    refine hideG fun gP kP => ?_; obtain ⟨_, _, _, _, _, o, e, _⟩ := S₆; refine kP ?_; clear kP gP
    exact ⟨⟨o, e⟩, nc⟩
  refine ⟨fun _ o => ∃ f ∈ plains, o = some (enc f), fun h => SrcAt h l ∧ Gd w mg mb h, ⟨S₆, F₆.G⟩, ?_, ?_, fun h' st => F₆.upD st (.inr (by simp)) nl nc, ?_, ?_⟩
  · rintro L ha hb st hL ⟨Sa, Ga⟩
    refine ⟨Sa.up Ga st fun q => ?_, st.gd Ga⟩
    refine hideG fun gP kP => ?_; obtain ⟨_, _, _, _, _, o, e, _⟩ := S₆; refine kP ?_; clear kP gP
    rw [hL l q] at e; cases e
  · rintro ha hb st ⟨Sa, Ga⟩
    exact ⟨Sa.up Ga st (by simpa using nl), st.gd Ga⟩
  · rintro i v C m₃ h₄ tk₄ E3 hi ⟨ti, rfl⟩ ⟨Sa, Ga⟩ st₄ hC F₄ hl
    refine hideG fun gP kP => ?_; obtain ⟨nl', nc'⟩ := Sa.nl F₄; refine kP ?_; clear kP gP
    refine wpAny_assign_Name ?_
    (ktn_call 2 sL; intros)
    refine wpAny_tests_nil ?_
    simp only [if_true]
    (ktn_call 91 Call_; (with_reducible refine' nameG ?zA ?zB ?zC ?zD ?zE ?zF ?_); (case zA => tb_rel); (case zB => tb_rel); (case zC => k_is); (case zD => tb_rel); (case zE => tb_rel); (case zF => tb_rel); (with_reducible refine' callF ?zA ?zB ?zC ?zD ?_); (case zA => tb_rel); (case zB => k_is); (case zC => tb_rel); (case zD => tb_rel); ktn_call 91 args_cons; (with_reducible refine' nameC ?zA ?zB ?zC ?zD ?zE ?zF ?_); (case zA => tb_rel); (case zB => tb_rel); (case zC => tb_rel); (case zD => tb_rel); (case zE => tb_rel); (case zF => tb_rel); tbr_iter args_nil; (with_reducible refine' And.intro (Fm.G ?zF) ?_; (case zF => assumption)))
    refine plain_spec (hA'.le (by omega)) (Fm.G (by assumption)) (by tb_rel) fun y f h₅ tk₅ hf s₅ S₅ x₅ => ?_
    have F₅ := Fm.upD (by assumption) s₅ (.inr (by simp)) nl' nc'
    (skip)
    exact ⟨_, _, _, enc f, rfl, F₅, x₅, ⟨f, hf, rfl⟩, S₅, F₅.G⟩
  intro el ev os₂ h₇ tk₇ hl₂ hR₂ ⟨S₇, _⟩ st₇ nel gel Le xe F₇
  have Lf₇ := IsList.up F₆.G st₇ (IsList.up F₅.G s₆ (IsList.up F₄.G s₅ Lf (by simpa using nfl4)) (fun q => nomatch q)) (by simp [nfl4, nfll])
  have xf₇ := ((xf.up s₅).up s₆).up st₇
  refine hideG fun gP kP => ?_; obtain ⟨es, es1, es2, es3⟩ := os_plain hR₂; refine kP ?_; clear kP gP
  rw [es3] at xe
  have es4 : es.length < 3 := by omega
  clear hR₂ es3 xf Lf
  have nel4 := SrcAt.ne S₆ nel
  (ktn_call 1 xAssign)
  refine dictE F₇ rfl rfl (by decide) (by decide) fun od h₈ s₈ F₈ D₈ god nod => ?_
  (tbr_iter pairTrees_cons_walk; tbr_iter cStr; (with_reducible refine' nL ?zA ?zB ?zC ?_); (case zA => tb_rel); (case zB => tb_rel); (case zC => tb_rel); tbr_iter pairTrees_cons_walk; tbr_iter cStr; (with_reducible refine' nL ?zA ?zB ?zC ?_); (case zA => tb_rel); (case zB => tb_rel); (case zC => tb_rel); tbr_iter pairTrees_cons_walk; tbr_iter cStr; tbr_iter List_; tbr_iter args_nil; (with_reducible refine' newLn ?zF ?zs ?_); (case zF => assumption); (case zs => decide))
  intro cl h₉ s₉ F₉ P₉ gcl ncl necl nccl nncl
  (tbr_iter pairTrees_cons_walk; tbr_iter cStr; tbr_iter List_; tbr_iter args_nil; (with_reducible refine' newLn ?zF ?zs ?_); (case zF => assumption); (case zs => decide))
  intro dl h₁₀ s₁₀ F₁₀ P₁₀ gdl ndl nedl ncdl nndl
  (tbr_iter pairTrees_nil_walk)
  have D₉ := D₈.up F₈.G s₉ (fun q => nomatch q)
  have D₁₀ := D₉.up F₉.G s₁₀ (fun q => nomatch q)
  refine ⟨_, _, rfl, rfl, (by show List.Nodup [Str.ofString "S", Str.ofString "E", Str.ofString "copied", Str.ofString "dropped"]; decide), D₁₀, fun h₁₁ s₁₁ D₁₁ => ?_⟩
  replace D₁₁ : Dct prog w h₁₁ od [(Str.ofString "S", .ref fl), (Str.ofString "E", .ref el), (Str.ofString "copied", .ref cl), (Str.ofString "dropped", .ref dl)] := D₁₁
  have nodi := F₇.newI nod
  have F₁₁ := F₁₀.upD s₁₁ nodi.2.1.symm nodi.1 nodi.2.2
  have S₈ := S₇.up F₇.G s₈ (fun q => nomatch q)
  have S₉ := S₈.up F₈.G s₉ (fun q => nomatch q)
  have S₁₀ := S₉.up F₉.G s₁₀ (fun q => nomatch q)
  have nol : od ≠ l := SrcAt.ne S₇ nod
  have ncll : cl ≠ l := SrcAt.ne S₈ nncl
  have ndll : dl ≠ l := SrcAt.ne S₉ nndl
  have S₁₁ := S₁₀.up F₁₀.G s₁₁ (by simpa using nol.symm)
  have P₉' := PL.up F₉.G s₁₀ P₉ (fun q => nomatch q)
  have ncd : cl ≠ dl := PL.neN P₉ nndl
  have nco : cl ≠ od := list_ne_dct D₁₀ P₉'.isList
  have ndo : dl ≠ od := list_ne_dct D₁₀ P₁₀.isList
  have Pc := PL.up F₁₀.G s₁₁ P₉' (by simpa using nco)
  have Pd := PL.up F₁₀.G s₁₁ P₁₀ (by simpa using ndo)
  have st7 : Step w mg mb [] h₇ h₁₀ := s₈.trans (s₉.trans s₁₀)
  have Lf₁₀ := IsList.up F₇.G st7 Lf₇ (fun q => nomatch q)
  have Le₁₀ := IsList.up F₇.G st7 Le (fun q => nomatch q)
  have Lf₁₁ := IsList.up F₁₀.G s₁₁ Lf₁₀ (by simpa using list_ne_dct D₁₀ Lf₁₀)
  have Le₁₁ := IsList.up F₁₀.G s₁₁ Le₁₀ (by simpa using list_ne_dct D₁₀ Le₁₀)
  have xf₁₁ := (xf₇.up st7).up s₁₁
  have xe₁₁ := (xe.up st7).up s₁₁
  have nfo := list_ne_dct D₁₁ Lf₁₁
  have neo := list_ne_dct D₁₁ Le₁₁
  have nfc : fl ≠ cl := IsList.neN (IsList.up F₇.G s₈ Lf₇ (fun q => nomatch q)) nncl
  have nfd : fl ≠ dl := IsList.neN (IsList.up F₇.G (s₈.trans s₉) Lf₇ (fun q => nomatch q)) nndl
  have nec : el ≠ cl := IsList.neN (IsList.up F₇.G s₈ Le (fun q => nomatch q)) nncl
  have ned : el ≠ dl := IsList.neN (IsList.up F₇.G (s₈.trans s₉) Le (fun q => nomatch q)) nndl
  clear D₈ D₉ D₁₀ P₉ P₁₀ P₉' S₇ S₈ S₉ S₁₀ Lf₇ Le Lf₁₀ Le₁₀ xf₇ xe st7
  (ktn_call 2 sL; intros)
  rename_i h₁₂ s₁₂ F₁₂
  have D₁₂ := D₁₁.up F₁₁.G s₁₂ (by simpa using nodi.1)
  have Pc₁₂ := PL.up F₁₁.G s₁₂ Pc (by simpa using necl)
  have Pd₁₂ := PL.up F₁₁.G s₁₂ Pd (by simpa using nedl)
  have S₁₂ := S₁₁.up F₁₁.G s₁₂ (by simpa using nl)
  have Lf₁₂ := IsList.upL F₁₁ s₁₂ Lf₁₁
  have Le₁₂ := IsList.upL F₁₁ s₁₂ Le₁₁
  have xf₁₂ := xf₁₁.up s₁₂
  have xe₁₂ := xe₁₁.up s₁₂
  refine' xForL (wr := [l]) ?hF [Str.ofString "name", Str.ofString "way"] [l, cl, dl] hA' ?hs ?_
  case hF => exact F₁₂
  case hs => exact fun _ => rfl
  (tbr_iter List_; tbr_iter aS; tbr_iter aS1)
  refine newLn F₁₂ (Nat.le_of_ble_eq_true rfl) fun nl0 h₁₃ s₁₃ F₁₃ P₁₃ gn nn nen ncn nnn => ?_
  (skip)
  have D₁₃ := D₁₂.up F₁₂.G s₁₃ (fun q => nomatch q)
  have Pc₁₃ := PL.up F₁₂.G s₁₃ Pc₁₂ (fun q => nomatch q)
  have Pd₁₃ := PL.up F₁₂.G s₁₃ Pd₁₂ (fun q => nomatch q)
  have S₁₃ := S₁₂.up F₁₂.G s₁₃ (fun q => nomatch q)
  have Lf₁₃ := IsList.up F₁₂.G s₁₃ Lf₁₂ (fun q => nomatch q)
  have Le₁₃ := IsList.up F₁₂.G s₁₃ Le₁₂ (fun q => nomatch q)
  have xf₁₃ := xf₁₂.up s₁₃
  have xe₁₃ := xe₁₂.up s₁₃
  have nlc := ncll.symm
  have nld := ndll.symm
  have nod4 := (fun (e : Addr) (q : od ≠ e) => show od ∉ e :: [l, cl, dl] by simp [q, nol, nco.symm, ndo.symm]) _ nodi.1
  have nfl5 := (fun (e : Addr) (q : fl ≠ e) => show fl ∉ e :: [l, cl, dl] by simp [q, nfl4, nfc, nfd]) _ (list_ne_locals F₁₃ Lf₁₃)
  have nel5 := (fun (e : Addr) (q : el ≠ e) => show el ∉ e :: [l, cl, dl] by simp [q, nel4, nec, ned]) _ (list_ne_locals F₁₃ Le₁₃)
  clear D₁₁ D₁₂ Pc Pd S₁₁ Lf₁₁ Le₁₁ Lf₁₂ Le₁₂ xf₁₁ xe₁₁ xf₁₂ xe₁₂
  refine ⟨h₁₃, _, nl0, _, rfl, rfl, F₁₃, P₁₃.isList, ?_, ?_, fun i h' => SrcAt h' l ∧ Gd w mg mb h' ∧ (∃ c, ∃ cv : List Value, h'.PlainList cl cv.toArray ∧ XTs h' cv (nm i c)) ∧ (∃ c, ∃ dv : List Value, h'.PlainList dl dv.toArray ∧ XTs h' dv (nm i c)), ?_, ?_, ?_, ?_⟩
  · simp only [List.mem_cons, List.not_mem_nil, or_false, not_or]
    exact ⟨SrcAt.ne S₁₂ nnn, PL.ne Pc₁₂ nnn, PL.ne Pd₁₂ nnn⟩
  · refine all3 ?_ ?_ ?_
    · refine hideG fun gP kP => ?_; obtain ⟨_, _, _, _, _, o, e, _⟩ := S₁₃; refine kP ?_; clear kP gP
      exact ⟨⟨o, e⟩, .inl (by simp)⟩
    · refine hideG fun gP kP => ?_; obtain ⟨n, e⟩ := Pc₁₃; refine kP ?_; clear kP gP
      exact ⟨⟨_, e⟩, ncl.symm⟩
    · refine hideG fun gP kP => ?_; obtain ⟨n, e⟩ := Pd₁₃; refine kP ?_; clear kP gP
      exact ⟨⟨_, e⟩, ndl.symm⟩
  · exact ⟨S₁₃, F₁₃.G, ⟨fun _ => false, [], Pc₁₃, XTs.nil⟩, ⟨fun _ => false, [], Pd₁₃, XTs.nil⟩⟩
  · rintro i ha hb L st hL ⟨Sa, Ga, ⟨c, cv, p1, p2⟩, ⟨c', dv, p3, p4⟩⟩
    refine ⟨Sa.up Ga st fun q => ?_, st.gd Ga, ⟨c, cv, PL.its st Ga p1 (fun a q => (hL a q).2), p2.up st⟩, ⟨c', dv, PL.its st Ga p3 (fun a q => (hL a q).2), p4.up st⟩⟩
    refine hideG fun gP kP => ?_; obtain ⟨_, _, _, _, _, o, e, _⟩ := S₁₃; refine kP ?_; clear kP gP
    rw [(hL l q).1] at e; cases e
  · rintro i v u h₁₄ tk₁₄ E3 hv ⟨Sa, Ga, ⟨c, cv, Pcl, xc⟩, ⟨c', dv, Pdl, xd⟩⟩ st₁₄ Fo₁₄ F₁₄
    have hvi : ∃ nmx t, v = .str nmx t ∧ nmOf i = .str nmx ∧ i < 2 := by
      match i, hv with
      | 0, hv => cases hv; exact ⟨_, _, rfl, rfl, by decide⟩
      | 1, hv => cases hv; exact ⟨_, _, rfl, rfl, by decide⟩
      | i + 2, hv => simp at hv
    refine hideG fun gP kP => ?_; obtain ⟨nmx, tv, rfl, hnm, hi2⟩ := hvi; refine kP ?_; clear kP gP
    have D₁₄ := D₁₃.up F₁₃.G st₁₄ nod4
    have FB₁₄ := F₁₄.base [l]
    have nod2 := (fun (e : Addr) (q : od ≠ e) => show od ∉ e :: [l] by simp [q, nol]) _ nodi.1
    have ncl2 := (fun (e : Addr) (q : cl ≠ e) => show cl ∉ e :: [l] by simp [q, ncll]) _ necl
    have ndl2 := (fun (e : Addr) (q : dl ≠ e) => show dl ∉ e :: [l] by simp [q, ndll]) _ nedl
    refine wpAny_assign_Name ?_
    (ktn_call 2 sL; intros; ktn_call 1 xAssign; ktn_call 91 Call_; (with_reducible refine' nameG ?zA ?zB ?zC ?zD ?zE ?zF ?_); (case zA => tb_rel); (case zB => tb_rel); (case zC => k_is); (case zD => tb_rel); (case zE => tb_rel); (case zF => tb_rel); (with_reducible refine' callF ?zA ?zB ?zC ?zD ?_); (case zA => tb_rel); (case zB => k_is); (case zC => tb_rel); (case zD => tb_rel); ktn_call 91 args_cons; (with_reducible refine' nameC ?zA ?zB ?zC ?zD ?zE ?zF ?_); (case zA => tb_rel); (case zB => tb_rel); (case zC => tb_rel); (case zD => tb_rel); (case zE => tb_rel); (case zF => tb_rel); tbr_iter aI1; (with_reducible refine' And.intro (Fm.G ?zF) ?_; (case zF => assumption)); (with_reducible refine' take_int ?zA ?zG ?zS ?z0 ?z1 ?_); (case zA => exact Cx.le (by assumption) (by omega)); (case zG => exact Fm.G (by assumption)); (case zS => tb_rel); (case z0 => decide); (case z1 => decide); ktn_call 94 (.inr (by simp)); ktn_call 2 sL; intros)
    rename_i r₀ t₀ hx₀ tkx₀ lt₀ stx₀ Sx₀ Fx₀ hy₀ sy₀ Fy₀
    refine xExpr rfl rfl ?_
    refine mExt (mg := mg) (mb := mb) rfl rfl rfl ?_
    (tbr_iter Subscript_; (with_reducible refine' nL ?zA ?zB ?zC ?_); (case zA => tb_rel); (case zB => tb_rel); (case zC => tb_rel); tbr_iter cStr)
    refine subD (D₁₄.ofE (by assumption) nod2) rfl (by with_unfolding_all rfl) ?_
    refine ⟨cl, cv, rfl, gcl, PL.up F₁₄.G (Fm.st (by assumption)) Pcl ncl2, ?_⟩
    (tbr_iter wpAny_BinOp; tbr_iter List_; (with_reducible refine' aL1 ?zA ?zB ?zC ?_); (case zA => tb_rel); (case zB => tb_rel); (case zC => tb_rel))
    refine' newLn ?zF ?zs ?_
    case zF => assumption
    case zs => exact Nat.le_of_ble_eq_true rfl
    intro l₆ h₁₅ s₁₅ F₁₅ P₁₅ _ _ _ _ _
    (ktn_call 91 Call_; (with_reducible refine' nameB_int ?zA ?zB ?zC ?zD ?zE ?zF ?_); (case zA => tb_rel); (case zB => tb_rel); (case zC => k_is); (case zD => tb_rel); (case zE => tb_rel); (case zF => tb_rel); ktn_call 2 callT; ktn_call 91 args_cons; tbr_iter wpAny_Compare1; (with_reducible refine' nL ?zA ?zB ?zC ?_); (case zA => tb_rel); (case zB => tb_rel); (case zC => tb_rel); tbr_iter cInt; tbr_iter PyProof.Rows.lt_int; tbr_iter args_nil; tbr_iter iIntB)
    refine mulL F₁₅ P₁₅.isList fun l₇ h₁₆ s₁₆ F₁₆ P₁₆ g₇ n₇ => ?_
    have S₁₆ : SrcAt h₁₆ l := by tb_rel
    refine ⟨_, _, l₇, _, rfl, rfl, .inr P₁₆.isList, PL.up F₁₄.G F₁₆.st Pcl ncl2, ?_, fun h₁₇ s₁₇ P₁₇ => ?_⟩
    · have h1 := nm_len i c
      rw [← xc.len] at h1
      rw [sizeLine_eq]
      split <;> simp <;> omega
    have FJ := F₁₄.join F₁₆ (by simp)
    have F₁₇ := FJ.upD s₁₇ (.inr (by simp)) necl nccl
    have D₁₇ := (D₁₄.ofE F₁₆ nod2).up F₁₆.G s₁₇ (by simpa using nco.symm)
    have Pdl₁₇ := PL.up F₁₆.G s₁₇ (PL.up F₁₄.G F₁₆.st Pdl ndl2) (by simpa using ncd.symm)
    have S₁₇ := S₁₆.up F₁₆.G s₁₇ (by simpa using nlc)
    have xc₁₇ := (nm_put (b := decide ((r₀ : Int) < 2)) (t := tv) (xc.up F₁₆.st) hnm).up s₁₇
    have xd₁₇ := (xd.up F₁₆.st).up s₁₇
    have FB₁₇ := F₁₇.base []
    clear P₁₆ P₁₅ Pcl Pdl Sa xc xd S₁₆ F₁₅ F₁₆ FJ D₁₄ FB₁₄
    (skip)
    refine xExpr rfl rfl ?_
    refine mExt (mg := mg) (mb := mb) rfl rfl rfl ?_
    (tbr_iter Subscript_; (with_reducible refine' nL ?zA ?zB ?zC ?_); (case zA => tb_rel); (case zB => tb_rel); (case zC => tb_rel); tbr_iter cStr)
    refine subD (D₁₇.ofE (by assumption) (by simpa using nodi.1)) rfl (by with_unfolding_all rfl) ?_
    refine ⟨dl, dv, rfl, gdl, PL.up F₁₇.G (Fm.st (by assumption)) Pdl₁₇ (by simpa using nedl), ?_⟩
    (tbr_iter wpAny_BinOp; tbr_iter List_; (with_reducible refine' aL1 ?zA ?zB ?zC ?_); (case zA => tb_rel); (case zB => tb_rel); (case zC => tb_rel))
    refine' newLn ?zF ?zs ?_
    case zF => assumption
    case zs => exact Nat.le_of_ble_eq_true rfl
    intro l₈ h₁₈ s₁₈ F₁₈ P₁₈ _ _ _ _ _
    (ktn_call 91 Call_; (with_reducible refine' nameB_int ?zA ?zB ?zC ?zD ?zE ?zF ?_); (case zA => tb_rel); (case zB => tb_rel); (case zC => k_is); (case zD => tb_rel); (case zE => tb_rel); (case zF => tb_rel); ktn_call 2 callT; ktn_call 91 args_cons; tbr_iter wpAny_Compare1; (with_reducible refine' nL ?zA ?zB ?zC ?_); (case zA => tb_rel); (case zB => tb_rel); (case zC => tb_rel); tbr_iter cInt; tbr_iter PyProof.Rows.eq_int; tbr_iter args_nil; tbr_iter iIntB)
    refine mulL F₁₈ P₁₈.isList fun l₉ h₁₉ s₁₉ F₁₉ P₁₉ g₉ n₉ => ?_
    refine ⟨_, _, l₉, _, rfl, rfl, .inr P₁₉.isList, PL.up F₁₇.G F₁₉.st Pdl₁₇ (by simpa using nedl), ?_, fun h₂₀ s₂₀ P₂₀ => ?_⟩
    · have h1 := nm_len i c'
      rw [← xd₁₇.len] at h1
      rw [sizeLine_eq]
      split <;> simp <;> omega
    have F₂₀ := (F₁₇.jn F₁₉).upD s₂₀ (.inr (by simp)) nedl ncdl
    (tbr_iter xNil; tbr_iter turn_next)
    exact ⟨_, _, _, rfl, F₂₀, by tb_rel, (S₁₇.up F₁₇.G F₁₉.st (by simpa using nl)).up F₁₉.G s₂₀ (by simpa using nld), F₂₀.G,
      ⟨_, _, PL.up F₁₉.G s₂₀ (PL.up F₁₇.G F₁₉.st P₁₇ (by simpa using necl)) (by simpa using ncd), (xc₁₇.up F₁₉.st).up s₂₀⟩, ⟨_, _, P₂₀, (nm_put (b := decide ((r₀ : Int) = 2)) (t := tv) (xd₁₇.up F₁₉.st) hnm).up s₂₀⟩⟩
  · rintro u h' tk' ⟨S', G', ⟨c, cv, pc, xc⟩, ⟨c', dv, pd, xd⟩⟩ st' F'
    replace xc : XTs h' cv (names (c 0) (c 1)) := nm_two c ▸ xc
    replace xd : XTs h' dv (names (c' 0) (c' 1)) := nm_two c' ▸ xd
    have D' := D₁₃.up F₁₃.G st' nod4
    have Lf' := IsList.up F₁₃.G st' Lf₁₃ nfl5
    have Le' := IsList.up F₁₃.G st' Le₁₃ nel5
    have xf' := xf₁₃.up st'
    have xe' := xe₁₃.up st'
    have nfll' := list_ne_locals F' Lf'
    have nell' := list_ne_locals F' Le'
    clear S₁₃ D₁₃ Lf₁₃ Le₁₃ Pc₁₃ Pd₁₃ S₁₂ Pc₁₂ Pd₁₂
    (ktn_call 1 xAssignSub; tbr_iter wpAny_Compare1; ktn_call 91 Call_; (with_reducible refine' nameG ?zA ?zB ?zC ?zD ?zE ?zF ?_); (case zA => tb_rel); (case zB => tb_rel); (case zC => k_is); (case zD => tb_rel); (case zE => tb_rel); (case zF => tb_rel); (with_reducible refine' callF ?zA ?zB ?zC ?zD ?_); (case zA => tb_rel); (case zB => k_is); (case zC => tb_rel); (case zD => tb_rel); ktn_call 91 args_cons; (with_reducible refine' nameC ?zA ?zB ?zC ?zD ?zE ?zF ?_); (case zA => tb_rel); (case zB => tb_rel); (case zC => tb_rel); (case zD => tb_rel); (case zE => tb_rel); (case zF => tb_rel); tbr_iter aI1; (with_reducible refine' And.intro (Fm.G ?zF) ?_; (case zF => assumption)); (with_reducible refine' take_int ?zA ?zG ?zS ?z0 ?z1 ?_); (case zA => exact Cx.le (by assumption) (by omega)); (case zG => exact Fm.G (by assumption)); (case zS => tb_rel); (case z0 => decide); (case z1 => decide); ktn_call 94 (.inr (by simp)); tbr_iter cInt; tbr_iter PyProof.Rows.eq_int; (with_reducible refine' nL ?zA ?zB ?zC ?_); (case zA => tb_rel); (case zB => tb_rel); (case zC => tb_rel); tbr_iter cStr)
    rename_i r₀ t₀ h₂ tk₂ lt₀ s₂ S₂ F₂
    have D₂ := D'.up F'.G s₂ (by simpa using nol)
    refine setD F₂ D₂ god (Nat.le_of_ble_eq_true rfl) fun h₃ s₃ D₃ _ => ?_
    have F₃ := F₂.upD s₃ nodi.2.1.symm nodi.1 nodi.2.2
    have S₃ := S₂.up F₂.G s₃ (by simpa using nol.symm)
    have Pc₃ := PL.up F₂.G s₃ (PL.up F'.G s₂ pc (by simpa using ncll)) (by simpa using nco)
    have Pd₃ := PL.up F₂.G s₃ (PL.up F'.G s₂ pd (by simpa using ndll)) (by simpa using ndo)
    have Lf₃ := IsList.up F₂.G s₃ (IsList.up F'.G s₂ Lf' (by simpa using nfl4)) (by simpa using nfo)
    have Le₃ := IsList.up F₂.G s₃ (IsList.up F'.G s₂ Le' (by simpa using nel4)) (by simpa using neo)
    have xs₃ := And.intro ((xc.up s₂).up s₃) (And.intro ((xd.up s₂).up s₃) (And.intro ((xf'.up s₂).up s₃) ((xe'.up s₂).up s₃)))
    clear S' S₂ pc pd D' D₂ Lf' Le' xc xd xf' xe'
    (ktn_call 1 xAssignSub)
    refine dictE F₃ rfl rfl (by decide) (by decide) fun bd h₄ s₄ F₄ D₄ gbd nbd => ?_
    have S₄ := S₃.up F₃.G s₄ (fun q => nomatch q)
    have FB₄ := F₄.base [l]
    have nbi := F₃.newI nbd
    have nbl : bd ≠ l := SrcAt.ne S₃ nbd
    (tbr_iter pairTrees_cons_walk; tbr_iter cStr; tbr_iter Tuple_; tbr_iter aS; tbr_iter aS1; (with_reducible refine' newTupX ?zA ?zB ?zC ?_); (case zA => tb_rel); (case zB => tb_rel); (case zC => tb_rel); intros; tbr_iter pairTrees_cons_walk; tbr_iter cStr; ktn_call 91 Call_; (with_reducible refine' nameG ?zA ?zB ?zC ?zD ?zE ?zF ?_); (case zA => tb_rel); (case zB => tb_rel); (case zC => k_is); (case zD => tb_rel); (case zE => tb_rel); (case zF => tb_rel); (with_reducible refine' callF ?zA ?zB ?zC ?zD ?_); (case zA => tb_rel); (case zB => k_is); (case zC => tb_rel); (case zD => tb_rel); ktn_call 91 args_cons; (with_reducible refine' nameC ?zA ?zB ?zC ?zD ?zE ?zF ?_); (case zA => tb_rel); (case zB => tb_rel); (case zC => tb_rel); (case zD => tb_rel); (case zE => tb_rel); (case zF => tb_rel); ktn_call 91 args_cons; tbr_iter List_; ktn_call 91 args_cons; tbr_iter Tuple_; tbr_iter args_nil; (with_reducible refine' newTupX ?zA ?zB ?zC ?_); (case zA => tb_rel); (case zB => tb_rel); (case zC => tb_rel); intros; ktn_call 91 args_cons; tbr_iter Tuple_; tbr_iter aS1; (with_reducible refine' newTupX ?zA ?zB ?zC ?_); (case zA => tb_rel); (case zB => tb_rel); (case zC => tb_rel); intros; tbr_iter args_nil)
    refine' newLX (ds := [.tuple [], .tuple [sty "Clone"]]) ?zF ?zx ?zs ?_
    case zF => assumption
    case zx => tb_rel
    case zs => exact Nat.le_of_ble_eq_true rfl
    intro tl h₅ s₅ F₅ P₅ X₅ _ _ _ _ nn₅
    have S₅ : SrcAt h₅ l := by tb_rel
    have ntl : tl ≠ l := SrcAt.ne (by tb_rel) nn₅
    (tbr_iter args_nil; (with_reducible refine' And.intro (Fm.G ?zF) ?_; (case zF => assumption)))
    refine one_spec (hA'.le (by omega)) F₅.G S₅ P₅.isList X₅ ntl (by simp) (by simp) fun y dj h₆ tk₆ hdj s₆ S₆ x₆ => ?_
    have F₆ := F₅.upD s₆ (.inr (by simp)) nl nc
    (tbr_iter pairTrees_nil_walk)
    have nb2 := (fun (e : Addr) (q : bd ≠ e) => show bd ∉ e :: [l] by simp [q, nbl]) _ nbi.1
    have no2 := (fun (e : Addr) (q : od ≠ e) => show od ∉ e :: [l] by simp [q, nol]) _ nodi.1
    have nc2 := (fun (e : Addr) (q : cl ≠ e) => show cl ∉ e :: [l] by simp [q, ncll]) _ necl
    have nd2 := (fun (e : Addr) (q : dl ≠ e) => show dl ∉ e :: [l] by simp [q, ndll]) _ nedl
    have nf2 := (fun (e : Addr) (q : fl ≠ e) => show fl ∉ e :: [l] by simp [q, nfl4]) _ nfll'
    have ne2 := (fun (e : Addr) (q : el ≠ e) => show el ∉ e :: [l] by simp [q, nel4]) _ nell'
    have D₄' := D₄.ofE F₆ nb2
    refine ⟨_, _, rfl, rfl, (by show List.Nodup [Str.ofString "X", Str.ofString "Y"]; decide), D₄', fun h₇ s₇ D₇ => ?_⟩
    have F₆' := F₄.join F₆ (by simp)
    have F₇ := F₆'.upD s₇ nbi.2.1.symm nbi.1 nbi.2.2
    have Do₆ := (D₃.up F₃.G s₄ (fun q => nomatch q)).ofE F₆ no2
    have nob : od ≠ bd := neG D₃.there.choose_spec nbd
    have up4 : ∀ {a : Addr} {its : Array Value}, h₃.IsList a its → h₄.IsList a its := fun x => IsList.up F₃.G s₄ x (fun q => nomatch q)
    have nb : ∀ {a : Addr} {its : Array Value}, h₃.IsList a its → a ∉ [bd] := fun x => by simpa using list_ne_dct D₄ (up4 x)
    have to7 : ∀ {a : Addr} {its : Array Value}, h₃.IsList a its → a ∉ (Env.locals _) :: [l] → h₇.IsList a its := fun x q => IsList.up F₆'.G s₇ (IsList.up F₄.G F₆.st (up4 x) q) (nb x)
    have Do₇ := Do₆.up F₆'.G s₇ (by simpa using nob)
    have Lc₇ := to7 Pc₃.isList nc2
    have Ld₇ := to7 Pd₃.isList nd2
    have Lf₇ := to7 Lf₃ nf2
    have Le₇ := to7 Le₃ ne2
    have sx : Step w mg mb ((Env.locals _) :: [l]) h₄ h₆ := F₆.st
    have S₇ := S₆.up F₆.G s₇ (by simpa using nbl.symm)
    refine hideG fun gP kP => ?_; obtain ⟨xa, xb, xc, xd⟩ := xs₃; refine kP ?_; clear kP gP
    ((with_reducible refine' nL ?zA ?zB ?zC ?_); (case zA => tb_rel); (case zB => tb_rel); (case zC => tb_rel); tbr_iter cStr)
    refine setD F₇ Do₇ god (Nat.le_of_ble_eq_true rfl) fun h₈ s₈ D₈ _ => ?_
    have F₈ := F₇.upD s₈ nodi.2.1.symm nodi.1 nodi.2.2
    have S₈ := S₇.up F₇.G s₈ (by simpa using nol.symm)
    have D₈b := D₇.up F₇.G s₈ (by simpa using nob.symm)
    (tbr_iter xReturn; (with_reducible refine' nL ?zA ?zB ?zC ?_); (case zA => tb_rel); (case zB => tb_rel); (case zC => tb_rel); tbr_iter back_ret)
    obtain ⟨yb, rfl⟩ : ∃ yb : Bool, dj = .tuple (if yb then [sty "Clone"] else []) := by
      simp only [List.mem_cons, List.not_mem_nil, or_false] at hdj
      rcases hdj with rfl | rfl
      · exact ⟨false, rfl⟩
      · exact ⟨true, rfl⟩
    refine k (.ref od) ⟨fs, es, c 0, c 1, c' 0, c' 1, _, yb⟩ h₈ _ ⟨fs2, es2, by show fs.length ≤ 3; omega, by show es.length ≤ 2; omega⟩ F₈.st S₈
      ⟨od, fl, el, cl, dl, .ref bd, fv, ev, cv, dv, rfl, god, D₈, IsList.up F₇.G s₈ Lf₇ (by simpa using nfo), (((xc.up s₄).up sx).up s₇).up s₈, IsList.up F₇.G s₈ Le₇ (by simpa using neo), (((xd.up s₄).up sx).up s₇).up s₈,
        IsList.up F₇.G s₈ Lc₇ (by simpa using nco), (((xa.up s₄).up sx).up s₇).up s₈, IsList.up F₇.G s₈ Ld₇ (by simpa using ndo), (((xb.up s₄).up sx).up s₇).up s₈, bd, _, _, rfl, gbd, D₈b, ?_, ?_⟩
    · refine XT.up s₈ (XT.up s₇ (XT.up s₆ ?_))
      tb_rel
    · exact (x₆.up s₇).up s₈
end

section
variable {prog : Program} {w : World} {mg mb : Str → Option Value} {A : Around} {E : Value → Shared → Prop} {hE h : Heap} {env : Env} {m cm : Str → Option Value} {wr : List Addr}
  {g : Array GenState} {d : Drawn} {tk : Nat} {os : OsState}
theorem mkWorld {n : Nat} {Q : Value → Shared → Prop} (F : Fm w mg mb wr hE env m cm h) (hA : Cx A (n + 2))
    (k : ∀ x dx h' tk' mo ad il, Step w mg mb [] h h' → Fm w mg mb wr hE env m cm h' → Ins h' x dx 172 mo 8 → mo (Str.ofString "adts") = some (.ref ad) → mo (Str.ofString "impls") = some (.ref il) → Dct prog w h' ad [] → h'.PlainList il #[] → 241 < ad → 241 < il →
      h.get? x = none → h.get? dx = none → h.get? ad = none → h.get? il = none → x ∉ [ad, il] → dx ∉ [ad, il] → Q (.ref x) ⟨h', g, d, tk', os⟩) : wpAny (model prog w) A (call (.ref 172) []) Q E ⟨h, g, d, tk, os⟩ := by
  refine callCls (n := n + 1) (fI := 162) F hA (by k_is) (by k_is) (by k_is) fun x dx h₁ A' hA' ex nx ndx I => ?_
  have F₁ := F.up (.of_ext ex)
  refine world_init hA' F₁.G I fun h' tk' mo ad il st I' e1 e2 D P la li na ni => ⟨rfl, ?_⟩
  have no : ∀ {a : Addr}, h₁.get? a = none → h.get? a = none := fun {a} q => by
    cases e : h.get? a with
    | none => rfl
    | some o => rw [ex a o e] at q; cases q
  have st' : Step w mg mb [] h h' := Step.off (.of_ext ex) st ndx
  have ne1 : x ≠ ad ∧ x ≠ il := ⟨neG I.ox na, neG I.ox ni⟩
  have ne2 : dx ≠ ad ∧ dx ≠ il := by
    refine hideG fun gP kP => ?_; obtain ⟨es, n, e, _⟩ := I.od; refine kP ?_; clear kP gP
    exact ⟨neG e na, neG e ni⟩
  exact k x dx h' tk' mo ad il st' (F.up st') I' e1 e2 D P la li nx ndx (no na) (no ni) (by simp [ne1.1, ne1.2]) (by simp [ne2.1, ne2.2])
theorem mkAdt {n : Nat} {v1 v2 v3 v4 v5 : Value} {Q : Value → Shared → Prop} (F : Fm w mg mb wr hE env m cm h) (hA : Cx A (n + 2))
    (k : ∀ x dx h' tk' mo, Step w mg mb [] h h' → Fm w mg mb wr hE env m cm h' → Ins h' x dx 121 mo 7 → mo (Str.ofString "regions") = some v2 → mo (Str.ofString "params") = some v3 → mo (Str.ofString "variants") = some v4 →
      h.get? x = none → h.get? dx = none → Q (.ref x) ⟨h', g, d, tk', os⟩) : wpAny (model prog w) A (call (.ref 121) [v1, v2, v3, v4, v5]) Q E ⟨h, g, d, tk, os⟩ := by
  refine callCls (n := n + 1) (fI := 118) F hA (by k_is) (by k_is) (by k_is) fun x dx h₁ A' hA' ex nx ndx I => ?_
  have F₁ := F.up (.of_ext ex)
  refine adt_init hA' F₁.G I fun h' tk' mo st I' e1 e2 e3 => ⟨rfl, ?_⟩
  have st' : Step w mg mb [] h h' := Step.off (.of_ext ex) st ndx
  exact k x dx h' tk' mo st' (F.up st') I' e1 e2 e3 nx ndx
theorem mkImp {n : Nat} {v1 v2 v3 v4 v5 v6 v7 : Value} {Q : Value → Shared → Prop} (F : Fm w mg mb wr hE env m cm h) (hA : Cx A (n + 2))
    (k : ∀ x dx h' tk' mo, Step w mg mb [] h h' → Fm w mg mb wr hE env m cm h' → Ins h' x dx 143 mo 8 → mo (Str.ofString "params") = some v3 → mo (Str.ofString "trait") = some v4 → mo (Str.ofString "self_type") = some v6 →
      h.get? x = none → h.get? dx = none → Q (.ref x) ⟨h', g, d, tk', os⟩) : wpAny (model prog w) A (call (.ref 143) [v1, v2, v3, v4, v5, v6, v7]) Q E ⟨h, g, d, tk, os⟩ := by
  refine callCls (n := n + 1) (fI := 140) F hA (by k_is) (by k_is) (by k_is) fun x dx h₁ A' hA' ex nx ndx I => ?_
  have F₁ := F.up (.of_ext ex)
  refine implrow_init hA' F₁.G I fun h' tk' mo st I' e1 e2 e3 => ⟨rfl, ?_⟩
  have st' : Step w mg mb [] h h' := Step.off (.of_ext ex) st ndx
  exact k x dx h' tk' mo st' (F.up st') I' e1 e2 e3 nx ndx
theorem mkAdtX {n : Nat} {X : List Addr} {v1 v2 v3 v5 : Value} {vl : Addr} {vv : List Value} {ps : List PyData} {vars : List (List Ty)} {Q : Value → Shared → Prop} (F : Fm w mg mb wr hE env m cm h) (hA : Cx A (n + 2)) (hX : ∀ b ∈ X, b ≠ 87 ∧ ∃ o, h.get? b = some o)
    (x2 : XT h v2 (.tuple [])) (x3 : XT h v3 (.tuple ps)) (lv : h.IsList vl vv.toArray) (V : VarsAreX X h vv vars) (nl : vl ∉ X)
    (k : ∀ x h' tk', Step w mg mb [] h h' → Fm w mg mb wr hE env m cm h' → AdtIsX X h' (.ref x) ps vars → Q (.ref x) ⟨h', g, d, tk', os⟩) : wpAny (model prog w) A (call (.ref 121) [v1, v2, v3, .ref vl, v5]) Q E ⟨h, g, d, tk, os⟩ :=
  mkAdt F hA fun x dx h' tk' mo st F' I e1 e2 e3 nx ndx =>
    k x h' tk' st F' ⟨x, dx, mo, v2, v3, vl, vv, rfl, I, e1, x2.up st, e2, x3.up st, e3, IsList.up F.G st lv (fun q => nomatch q), V.up F.G st (fun _ q => nomatch q), new_off (fun b q => (hX b q).2) nx, new_off (fun b q => (hX b q).2) ndx, nl⟩
theorem mkImpX {n : Nat} {X : List Addr} {v1 v2 v4 v5 v6 v7 : Value} {pl : Addr} {vs : List Value} {i : ImpD} {Q : Value → Shared → Prop} (F : Fm w mg mb wr hE env m cm h) (hA : Cx A (n + 2)) (hX : ∀ b ∈ X, b ≠ 87 ∧ ∃ o, h.get? b = some o)
    (lv : h.IsList pl vs.toArray) (xv : XTs h vs i.params) (nl : pl ∉ X) (x4 : XT h v4 (if i.cp then sty "Copy" else sty "Drop")) (x6 : XT h v6 (enc i.self))
    (k : ∀ x h' tk', Step w mg mb [] h h' → Fm w mg mb wr hE env m cm h' → ImpIsX X h' (.ref x) i → Q (.ref x) ⟨h', g, d, tk', os⟩) : wpAny (model prog w) A (call (.ref 143) [v1, v2, .ref pl, v4, v5, v6, v7]) Q E ⟨h, g, d, tk, os⟩ :=
  mkImp F hA fun x dx h' tk' mo st F' I e1 e2 e3 nx ndx =>
    k x h' tk' st F' ⟨x, dx, mo, v4, v6, pl, vs, rfl, I, e2, x4.up st, e3, x6.up st, e1, IsList.up F.G st lv (fun q => nomatch q), xv.up st, new_off (fun b q => (hX b q).2) nx, new_off (fun b q => (hX b q).2) ndx, nl⟩
end

theorem xCp {h : Heap} {b : Bool} {tr : Str} {t : Tok} (e : tr = (if b then Str.ofString "Copy" else Str.ofString "Drop")) : XT h (.str tr t) (if b = true then sty "Copy" else sty "Drop") := by
  subst e; cases b <;> exact Reads.str _ _
theorem xSelf {h : Heap} {cp ask f : Bool} {vS vE : Value} (xS : XT h vS (enc .S)) (xE : XT h vE (enc (.E (.prm .T)))) : XT h (if f = true then vE else vS) (enc (impOf cp ask f).self) := by cases f; exact xS; exact xE
theorem hSE {f : Bool} {vS vE : Value} : valueAt [(Str.ofString "S", vS), (Str.ofString "E", vE)] (if f = true then Str.ofString "E" else Str.ofString "S") = some (if f = true then vE else vS) := by cases f <;> rfl
section
variable {prog : Program} {w : World} {mg mb : Str → Option Value}
theorem world_spec {A : Around} {E : Value → Shared → Prop} {h : Heap} {g : Array GenState} {d : Drawn} {tk : Nat} {os : OsState} {ov : Value} {o : OD} {Q : Value → Shared → Prop} (hA : Cx A 10) (G : Gd w mg mb h) (OI : OwnIs prog w h ov o) (ok : WOk o.W)
    (k : ∀ x h' tk', Step w mg mb [] h h' → WorldIs prog w h' x o.W → Q x ⟨h', g, d, tk', os⟩) : wpAny (model prog w) A (call (.ref 221) [ov]) Q E ⟨h, g, d, tk, os⟩ := by
  refine' enter [] (fun _ q => nomatch q) (m := nom) (cm := upd nom (Str.ofString "own") ov) G hA ?k1 ?k2 ?k3 ?k4 ?k5 ?k6 ?k7 ?k8 ?k9 ?_
  case k1 => k_is
  case k2 => k_is
  case k3 => exact BindsTo.of_eq rfl
  case k4 => rfl
  case k5 => intro _; rfl
  case k6 => intro _; rfl
  case k7 => rfl
  case k8 => rfl
  case k9 => rfl
  intro L0 h₁ tk₁ E' st F CN hA' NL
  generalize A.deeper _ = A2 at hA' ⊢
  obtain ⟨od, fl, el, cl, dl, bd, fv, ev, cv, dv, rfl, lod, OD0, OLf, Oxf, OLe, Oxe, OLc, Oxc, OLd, Oxd, OB⟩ := OI
  (ktn_call 2 xAssignSw2; tbr_iter Tuple_; ktn_call 91 args_cons; ktn_call 91 Call_; (with_reducible refine' nameG ?zA ?zB ?zC ?zD ?zE ?zF ?_); (case zA => tb_rel); (case zB => tb_rel); (case zC => k_is); (case zD => tb_rel); (case zE => tb_rel); (case zF => tb_rel); (with_reducible refine' callF0 ?zF ?zk ?_); (case zF => assumption); (case zk => k_is))
  refine mkWorld (n := 0) F (hA'.le (by omega)) fun wx wdx h₂ tk₂ mo ad il s₂ F₂ I₂ e1 e2 D₂ P₂ la li nwx nwdx na ni nx ndx => ?_
  (ktn_call 91 args_cons; tbr_iter Tuple_; tbr_iter aS; tbr_iter aS1; (with_reducible refine' newTupX ?zA ?zB ?zC ?_); (case zA => tb_rel); (case zB => tb_rel); (case zC => tb_rel); intros; tbr_iter args_nil)
  rename_i vT hT sT FT xT
  have IT := I₂.up0 sT
  have DT := D₂.up F₂.G sT (fun q => nomatch q)
  have PT := PL.up F₂.G sT P₂ (fun q => nomatch q)
  have FBT := FT.base []
  clear I₂ D₂ P₂ F₂
  refine' newTup ?zF ?zs ?_
  case zF => assumption
  case zs => exact Nat.le_of_ble_eq_true rfl
  intro ta h₃ s₃ F₃ T₃
  refine unp2 F₃ hA' T₃ fun h₄ s₄ F₄ => ?_
  (ktn_call 2 sL; intros; ktn_call 2 sL; intros; ktn_call 1 xAssign)
  rename_i hy sy Fy
  clear F₃ F₄ FBT
  refine' dictE ?zF ?a ?b ?c ?d ?_
  (case zF => exact Fy)
  (case a => rfl)
  (case b => rfl)
  (case c => exact List.cons_ne_nil _ _)
  (case d => exact Nat.le_of_ble_eq_true rfl)
  intro hdd h₅ s₅ F₅ D₅ ghd nhd
  have nhi := Fy.newI nhd
  have nhX : hdd ∉ [ad, il] := by
    have e1 := (DT.up FT.G Fy.st (by simpa using (F.newI na).1)).there
    obtain ⟨n, e2⟩ := PL.up FT.G Fy.st PT (by simpa using (F.newI ni).1)
    obtain ⟨o1, e1⟩ := e1
    simp only [List.mem_cons, List.not_mem_nil, or_false, not_or]
    exact ⟨(neG e1 nhd).symm, (neG e2 nhd).symm⟩
  have FB₅ := F₅.base []
  (tbr_iter pairTrees_cons_walk; tbr_iter cStr; tbr_iter Tuple_; tbr_iter aS; tbr_iter aS; ktn_call 91 args_cons; tbr_iter Tuple_; tbr_iter args_nil; (with_reducible refine' newTupX ?zA ?zB ?zC ?_); (case zA => tb_rel); (case zB => tb_rel); (case zC => tb_rel); intros; ktn_call 91 args_cons; tbr_iter Tuple_; tbr_iter args_nil; (with_reducible refine' newTupX ?zA ?zB ?zC ?_); (case zA => tb_rel); (case zB => tb_rel); (case zC => tb_rel); intros; tbr_iter args_nil; (with_reducible refine' newTupX ?zA ?zB ?zC ?_); (case zA => tb_rel); (case zB => tb_rel); (case zC => tb_rel); intros; tbr_iter pairTrees_cons_walk; tbr_iter cStr; tbr_iter Tuple_; tbr_iter aS; tbr_iter aS; ktn_call 91 args_cons; tbr_iter Tuple_; tbr_iter args_nil; (with_reducible refine' newTupX ?zA ?zB ?zC ?_); (case zA => tb_rel); (case zB => tb_rel); (case zC => tb_rel); intros; ktn_call 91 args_cons; tbr_iter Tuple_; (with_reducible refine' aL1 ?zA ?zB ?zC ?_); (case zA => tb_rel); (case zB => tb_rel); (case zC => tb_rel); (with_reducible refine' newTupX ?zA ?zB ?zC ?_); (case zA => tb_rel); (case zB => tb_rel); (case zC => tb_rel); intros; tbr_iter args_nil; (with_reducible refine' newTupX ?zA ?zB ?zC ?_); (case zA => tb_rel); (case zB => tb_rel); (case zC => tb_rel); intros; tbr_iter pairTrees_nil_walk)
  rename_i vS hS sS FS xS _ _ _ _ _ _ _ _ _ _ vE hE sE FE xE
  refine ⟨_, _, rfl, rfl, (by show List.Nodup [Str.ofString "S", Str.ofString "E"]; decide), D₅.ofE FE (by simpa using nhi.1), fun h₆ s₆ D₆ => ?_⟩
  have F₆ := (F₅.jn FE).upD s₆ nhi.2.1.symm nhi.1 nhi.2.2
  have xS₆ : XT h₆ vS (enc .S) := XT.up s₆ (by tb_rel)
  have xE₆ : XT h₆ vE (enc (.E (.prm .T))) := xE.up s₆
  (ktn_call 2 sL; intros)
  rename_i h₇ s₇ F₇
  have FA := FT.jn F₇
  have fx : ∀ {a : Addr}, h₁.get? a = none → a ∉ [Env.locals _] := fun q => by simpa using (F.newI q).1
  have I₇ := IT.up F₇.st (fx nwx) (fx nwdx)
  have Da₇ := DT.up FT.G F₇.st (fx na)
  have P₇ := PL.up FT.G F₇.st PT (fx ni)
  have Dh₇ := D₆.up F₆.G s₇ (by simpa using nhi.1)
  have xS₇ := xS₆.up s₇
  have xE₇ := xE₆.up s₇
  have xT₇ : XT h₇ vT (enc (.prm .T)) := xT.up F₇.st
  have Do₇ := OD0.ofE FA (fun q => nomatch q)
  have Lf₇ := IsList.ofE FA OLf (fun q => nomatch q)
  have Le₇ := IsList.ofE FA OLe (fun q => nomatch q)
  have xf₇ := Oxf.up FA.st
  have xe₇ := Oxe.up FA.st
  clear FE FB₅ F₅ F₆ D₆ D₅ s₆ xS₆ xE₆ xS xE Fy sy s₅ s₇ F₇ IT DT PT xT FT sT FS sE sS
  refine' xAssignComp ?c0 ?c1 ?c2 ?c3 ?c4 ?_
  (case c0 => rfl); (case c1 => rfl); (case c2 => rfl); (case c3 => decide); (case c4 => exact fun _ => rfl)
  (tbr_iter List_; tbr_iter aS; tbr_iter aS1)
  replace Dh₇ : Dct prog w h₇ hdd [(Str.ofString "S", vS), (Str.ofString "E", vE)] := Dh₇
  refine newLn FA (Nat.le_of_ble_eq_true rfl) fun nl h₈ s₈ F₈ P₈ gn nn nen ncn nnn => ?_
  have up8 : ∀ {a : Addr} {its : Array Value}, h₇.IsList a its → h₈.IsList a its := fun x => IsList.up FA.G s₈ x (fun q => nomatch q)
  have Do₈ := Do₇.up FA.G s₈ (fun q => nomatch q)
  have Da₈ := Da₇.up FA.G s₈ (fun q => nomatch q)
  have Ph₈ := PL.up FA.G s₈ P₇ (fun q => nomatch q)
  have hX : ∀ b ∈ [ad, il], b ≠ 87 ∧ ∃ o, h₈.get? b = some o := by
    refine all2 ⟨ne87 la, Da₈.there⟩ ?_
    obtain ⟨n, e⟩ := Ph₈
    exact ⟨ne87 li, _, e⟩
  generalize tk₂ + _ = tk₃
  refine comp_listR F₈ hA' P₈.isList (Nat.le_of_ble_eq_true rfl) (by decide) rfl (by tb_rel) rfl rfl (fun I C D i ys h' => Gd w mg mb h' ∧ RowsAre (C :: D :: I :: L0 :: [ad, il]) h' ys ([o.S, o.E].take i))
    (fun I C D h' ex => ⟨F₈.G.ext ex, trivial⟩) (fun I C D i ys ha hb st ⟨Ga, R⟩ => ⟨st.gd Ga, R.up Ga st fun b q => List.mem_append_left [ad, il] q⟩) ?_ ?_
  · rintro I C D i ys v m₃ h₃ tk₃ E3 hv ⟨Ga, R⟩ hI hD nC nD' nI st₃ F₃ hl
    have hvi : ∃ x t lx fx, ∃ vx : List Value, v = .str x t ∧ valueAt [(Str.ofString "S", .ref fl), (Str.ofString "E", .ref el), (Str.ofString "copied", .ref cl), (Str.ofString "dropped", .ref dl), (Str.ofString "asks", .bool o.ask), (Str.ofString "bounds", bd)] x = some (.ref lx) ∧
        h₇.IsList lx vx.toArray ∧ XTs h₇ vx (fx.map enc) ∧ [o.S, o.E].take (i + 1) = [o.S, o.E].take i ++ [fx] ∧ fx.length ≤ 3 := by
      match i, hv with
      | 0, hv => cases hv; exact ⟨_, _, fl, o.S, fv, rfl, rfl, Lf₇, xf₇, rfl, ok.s3⟩
      | 1, hv => cases hv; exact ⟨_, _, el, o.E, ev, rfl, rfl, Le₇, xe₇, rfl, Nat.le_succ_of_le ok.e2⟩
      | i + 2, hv => simp at hv
    obtain ⟨x, t, lx, fx', vx, rfl, hval, Lx, xx, hti, hfx⟩ := hvi
    have s78 := s₈.trans st₃
    have D₃ := Do₇.up FA.G s78 (fun q => nomatch q)
    have L₃ := IsList.up FA.G s78 Lx (fun q => nomatch q)
    have x₃ := xx.up s78
    have hX₃ := there_up F₈.G st₃ hX
    refine wpAny_assign_Name ?_
    (ktn_call 2 sL; intros)
    rename_i h₄ s₄ F₄
    have nL0 : ∃ o, h₃.get? L0 = some o := let ⟨o, _, _, e, _⟩ := F₈.ns; ⟨o, st₃.keep _ o (ne87 F₈.lo) (fun q => nomatch q) e⟩
    have nC4 : ∀ {a : Addr}, h₇.get? a = none → a ∉ [C] → a ∉ [C] := fun _ q => q
    have nCof : ∀ {a : Addr} {ob : Obj}, h₇.get? a = some ob → a ≠ 87 → a ∉ [C] := fun {a ob} e h87 q => by
      rw [List.mem_singleton.mp q] at e h87
      have := s₈.keep C ob h87 (fun q => nomatch q) e
      rw [nC] at this; cases this
    have D₄ := D₃.up F₃.G s₄ (let ⟨_, e⟩ := Do₇.there; nCof e (ne87 lod))
    have L₄ := IsList.up F₃.G s₄ L₃ (let ⟨_, e, _⟩ := Lx; nCof e (IsList.ne87 FA.G Lx))
    have x₄ := x₃.up s₄
    clear D₃ L₃ x₃ s78
    refine' compEn (by assumption) hA' ?c1 ?c2 ?c3 ?c4 ?c5 ?c6 ?_
    (case c1 => rfl); (case c2 => rfl); (case c3 => decide); (case c4 => exact fun _ => rfl); (case c5 => decide); (case c6 => tb_rel)
    (ktn_call 91 Call_; (with_reducible refine' nameB_enumerate ?zA ?zB ?zC ?zD ?zE ?zF ?_); (case zA => tb_rel); (case zB => tb_rel); (case zC => k_is); (case zD => tb_rel); (case zE => tb_rel); (case zF => tb_rel); ktn_call 2 callT; ktn_call 91 args_cons; tbr_iter Subscript_; (with_reducible refine' nameC ?zA ?zB ?zC ?zD ?zE ?zF ?_); (case zA => tb_rel); (case zB => tb_rel); (case zC => tb_rel); (case zD => tb_rel); (case zE => tb_rel); (case zF => tb_rel); (with_reducible refine' nL ?zA ?zB ?zC ?_); (case zA => tb_rel); (case zB => tb_rel); (case zC => tb_rel))
    refine subD D₄ hval (by with_unfolding_all rfl) ?_
    (tbr_iter args_nil)
    refine callEn (.inr L₄) fun xv s₁ hE => ⟨_, _, hE, by assumption, ?_, CompAt.map (rowsOf fx') ?_ ?_ ?_⟩
    · rw [x₄.len, List.length_map, sizeLine_eq]; omega
    · rw [x₄.len, rows_len, List.length_map]
    · rintro i v ei C m₃ h₃ tk₃ E3 hei ⟨T, u, x, rfl, hx, hT₃⟩ st₃ hC F₃ hl
      obtain ⟨p, hp, rfl⟩ := rows_get hei
      obtain ⟨x', hx', xx⟩ := (x₄.up st₃).at (j := i) (dj := enc p) (by rw [List.getElem?_map, hp]; rfl)
      rw [hx] at hx'; cases hx'
      have hi : i < 1000 := by
        have h1 := (List.getElem?_eq_some_iff.mp hp).1
        omega
      refine asg2 F₃ hA' hT₃ fun h₄ st₄ F₄ => ?_
      (ktn_call 2 sL; intros; ktn_call 2 sL; intros; tbr_iter Tuple_; ktn_call 91 args_cons; ktn_call 91 Call_; (with_reducible refine' nameB_str ?zA ?zB ?zC ?zD ?zE ?zF ?_); (case zA => tb_rel); (case zB => tb_rel); (case zC => k_is); (case zD => tb_rel); (case zE => tb_rel); (case zF => tb_rel); ktn_call 2 callT; (with_reducible refine' aL1 ?zA ?zB ?zC ?_); (case zA => tb_rel); (case zB => tb_rel); (case zC => tb_rel))
      refine strI hi ?_
      ((with_reducible refine' aL1 ?zA ?zB ?zC ?_); (case zA => tb_rel); (case zB => tb_rel); (case zC => tb_rel); (with_reducible refine' newTupX ?zA ?zB ?zC ?_); (case zA => tb_rel); (case zB => tb_rel); (case zC => tb_rel); intros)
      exact ⟨_, _, _, rfl, by assumption, by tb_rel⟩
    · intro D' ys' h' tk' st' hD' h1 hL xs
      refine ⟨h', tk', _, rfl, F₄.up st', st'.gd F₄.G, ?_⟩
      rw [hti]
      have nD : ∀ {a : Addr} {ob : Obj}, h₃.get? a = some ob → a ≠ 87 → D' ≠ a := fun {a ob} e h87 q => by
        by_cases hc : a = C
        · rw [q, hc] at hD'
          obtain ⟨o', _, _, e', _⟩ := F₄.ns
          rw [hl] at e'; rw [hD'] at e'; cases e'
        · have := s₄.keep a ob h87 (by simpa [hl] using hc) e
          rw [← q, hD'] at this; cases this
      refine RowsAre.snoc ((R.up Ga s₄ ?_).up F₄.G st' (fun _ q => nomatch q)) hL xs ?_
      · intro b q
        rw [List.mem_singleton.mp q, hl]; simp
      · have nDC : D' ≠ C := fun q => by
          obtain ⟨o', _, _, e', _⟩ := F₄.ns
          rw [hl, ← q, hD'] at e'; cases e'
        obtain ⟨oI, eI⟩ := hI
        obtain ⟨oD, eD⟩ := hD
        obtain ⟨oL, eL⟩ := nL0
        obtain ⟨oa, ea⟩ := (hX₃ ad (by simp)).2
        obtain ⟨oi, ei⟩ := (hX₃ il (by simp)).2
        simp only [List.mem_cons, List.not_mem_nil, or_false, not_or]
        exact ⟨nDC, nD eD (new87 F₈.G nD'), nD eI (new87 F₈.G nI), nD eL (ne87 F₈.lo), nD ea (ne87 la), nD ei (ne87 li)⟩
  intro I C D ys h₉ tk₉ ⟨_, R⟩ st₉ nD gD LD F₉
  have hO : ∀ {a : Addr}, (∃ o, h.get? a = some o) → a ∉ [L0, ad, il] := by
    rintro a ⟨o, e⟩
    have n1 := (F.newI na).2.1
    have n2 := (F.newI ni).2.1
    simp only [List.mem_cons, List.not_mem_nil, or_false, false_or, not_or] at n1 n2 ⊢
    exact ⟨neG e NL, neG e n1, neG e n2⟩
  have I₉ := (I₇.up0 s₈).up st₉ (fx nwx) (fx nwdx)
  have Da₉ := Da₈.up F₈.G st₉ (fx na)
  have Pi₉ := PL.up F₈.G st₉ Ph₈ (fx ni)
  have Dh₉ := (Dh₇.up FA.G s₈ (fun q => nomatch q)).up F₈.G st₉ (by simpa using nhi.1)
  have xS₉ := (xS₇.up s₈).up st₉
  have xE₉ := (xE₇.up s₈).up st₉
  have xT₉ := (xT₇.up s₈).up st₉
  have gx : ∀ {a : Addr}, a ∉ [L0] → a ∉ [ad, il] → a ∉ [L0, ad, il] := fun h1 h2 => by
    simp only [List.mem_cons, List.not_mem_nil, or_false, not_or] at *
    exact ⟨h1, h2⟩
  have nwX := gx (fx nwx) nx
  have nwdX := gx (fx nwdx) ndx
  have nhX' := gx (fun q => nhi.1 (List.mem_singleton.mp q)) nhX
  have nDX : D ∉ [L0, ad, il] := gx (fun q => list_ne_locals F₉ LD (List.mem_singleton.mp q)) (new_off (fun b q => (hX b q).2) nD)
  obtain ⟨r0, r1', rs0, rs1, rfl, R0, Rx0, n0, R1, Rx1, n1⟩ := RowsAre.two (show RowsAre [L0, ad, il] h₉ ys [o.S, o.E] from R.mono fun a q => List.mem_append_right [C, D, I] q)
  have FB := F₉.base [ad, il]
  have ia : il ≠ ad := list_ne_dct Da₉ Pi₉.isList
  have nai := F.newI na
  have nii := F.newI ni
  have mv : ∀ {hh : Heap}, Step w mg mb [L0, ad, il] h₉ hh → Ins hh wx wdx 172 mo 8 ∧ Dct prog w hh hdd [(Str.ofString "S", vS), (Str.ofString "E", vE)] ∧ XT hh vS (enc .S) ∧ XT hh vE (enc (.E (.prm .T))) ∧ XT hh vT (enc (.prm .T)) ∧
      hh.IsList D ([.ref r0, .ref r1'] : List Value).toArray ∧ (hh.IsList r0 rs0.toArray ∧ XTs hh rs0 (rowsOf o.S)) ∧ hh.IsList r1' rs1.toArray ∧ XTs hh rs1 (rowsOf o.E) := fun st =>
    ⟨I₉.up st nwX nwdX, Dh₉.up F₉.G st nhX', xS₉.up st, xE₉.up st, xT₉.up st, IsList.up F₉.G st LD nDX, ⟨IsList.up F₉.G st R0 n0, Rx0.up st⟩, IsList.up F₉.G st R1 n1, Rx1.up st⟩
  clear I₇ Da₇ P₇ Dh₇ xS₇ xE₇ xT₇ Do₇ Lf₇ Le₇ xf₇ xe₇ up8 Do₈ Da₈ Ph₈ hX P₈ R nnn FA F₈ s₈
  clear I₉ Dh₉ xS₉ xE₉ xT₉ LD R0 Rx0 R1 Rx1
  obtain ⟨I₁, H₁, xS₁, xE₁, xT₁, LD₁, ⟨R0₁, Rx0₁⟩, R1₁, Rx1₁⟩ := mv FB.st
  have B₁ := FB.base []
  (ktn_call 1 xAssignSub; ktn_call 91 Call_; (with_reducible refine' nameG ?zA ?zB ?zC ?zD ?zE ?zF ?_); (case zA => tb_rel); (case zB => tb_rel); (case zC => k_is); (case zD => tb_rel); (case zE => tb_rel); (case zF => tb_rel); (with_reducible refine' callF ?zA ?zB ?zC ?zD ?_); (case zA => tb_rel); (case zB => k_is); (case zC => tb_rel); (case zD => tb_rel); tbr_iter aS; ktn_call 91 args_cons; tbr_iter Tuple_; tbr_iter args_nil)
  ((with_reducible refine' newTupX ?zA ?zB ?zC ?_); (case zA => tb_rel); (case zB => tb_rel); (case zC => tb_rel); intros)
  (ktn_call 91 args_cons; tbr_iter Tuple_; tbr_iter args_nil)
  ((with_reducible refine' newTupX ?zA ?zB ?zC ?_); (case zA => tb_rel); (case zB => tb_rel); (case zC => tb_rel); intros)
  (ktn_call 91 args_cons; tbr_iter List_; ktn_call 91 args_cons; tbr_iter Tuple_; tbr_iter aS; tbr_iter aS; ktn_call 91 args_cons; tbr_iter Subscript_; (with_reducible refine' nL ?zA ?zB ?zC ?_); (case zA => tb_rel); (case zB => tb_rel); (case zC => tb_rel); tbr_iter cInt; (with_reducible refine' subLV ?zl ?zy ?z0 ?zh ?zs ?_); (case zl => tb_rel); (case zy => rfl); (case z0 => decide); (case zh => decide); (case zs => with_unfolding_all rfl); tbr_iter args_nil)
  refine newTup (by assumption) (Nat.le_of_ble_eq_true rfl) fun t₁ h₁₀ s₁₀ F₁₀ T₁₀ => ?_
  (tbr_iter args_nil)
  refine newLn F₁₀ (Nat.le_of_ble_eq_true rfl) fun l₁ h₁₁ s₁₁ F₁₁ P₁₁ _ _ _ _ nn₁ => ?_
  (tbr_iter aB1; (with_reducible refine' And.intro (Fm.G ?zF) ?_; (case zF => assumption)))
  refine mkAdtX (n := 0) (X := [L0, ad, il]) F₁₁ (hA'.le (by omega)) (there3 F₁₁ (Da₉.ofE F₁₁ (fx na)) (PL.up F₉.G F₁₁.st Pi₉ (fx ni)) la li) (by tb_rel) (by tb_rel) P₁₁.isList (vars := [o.S])
    ⟨⟨t₁, _, _, r0, rs0, rfl, IsTup.up s₁₁ T₁₀, IsList.ofE F₁₁ R0₁ (fun q => n0 (List.mem_append_left [ad, il] q)), Rx0₁.up F₁₁.st, n0⟩, trivial⟩ (new_off (fun b q => (there3 F₁₀ (Da₉.ofE F₁₀ (fx na)) (PL.up F₉.G F₁₀.st Pi₉ (fx ni)) la li b q).2) nn₁) fun xs h₁₂ tk₁₂ s₁₂ F₁₂ AS => ?_
  ((with_reducible refine' Attribute_any_ ?_ ?zs); (case zs => with_unfolding_all rfl); (with_reducible refine' nL ?zA ?zB ?zC ?_); (case zA => tb_rel); (case zB => tb_rel); (case zC => tb_rel))
  refine getI F₁₂.G (I₁.up F₁₂.st (fx nwx) (fx nwdx)) e1 (by k_is) (by k_is) (by k_is) rfl ?_
  (tbr_iter cStr)
  refine setD F₁₂ (Da₉.ofE F₁₂ (fx na)) la (Nat.le_of_ble_eq_true rfl) fun h₁₃ s₁₃ Da₁₃ _ => ?_
  have Pi₁₃ := PL.up F₁₂.G s₁₃ (PL.up F₉.G F₁₂.st Pi₉ (fx ni)) (by simpa using ia)
  have FX := (FB.jn F₁₂).upD s₁₃ (.inr (by simp)) nai.1 nai.2.2
  replace AS := AS.up F₁₂.G s₁₃ (by simp)
  replace Da₁₃ : Dct prog w h₁₃ ad [(Str.ofString "S", .ref xs)] := Da₁₃
  clear I₁ H₁ xS₁ xE₁ xT₁ LD₁ R0₁ Rx0₁ R1₁ Rx1₁ B₁ F₁₀ F₁₁ F₁₂ s₁₀ s₁₁ s₁₂ T₁₀ P₁₁ s₁₃ Da₉ Pi₉ FB
  obtain ⟨I₁, H₁, xS₁, xE₁, xT₁, LD₁, ⟨R0₁, Rx0₁⟩, R1₁, Rx1₁⟩ := mv FX.st
  have B₁ := FX.base []
  (ktn_call 1 xAssignSub; ktn_call 91 Call_; (with_reducible refine' nameG ?zA ?zB ?zC ?zD ?zE ?zF ?_); (case zA => tb_rel); (case zB => tb_rel); (case zC => k_is); (case zD => tb_rel); (case zE => tb_rel); (case zF => tb_rel); (with_reducible refine' callF ?zA ?zB ?zC ?zD ?_); (case zA => tb_rel); (case zB => k_is); (case zC => tb_rel); (case zD => tb_rel); tbr_iter aS; ktn_call 91 args_cons; tbr_iter Tuple_; tbr_iter args_nil)
  ((with_reducible refine' newTupX ?zA ?zB ?zC ?_); (case zA => tb_rel); (case zB => tb_rel); (case zC => tb_rel); intros)
  (ktn_call 91 args_cons; tbr_iter Tuple_; tbr_iter aS1)
  ((with_reducible refine' newTupX ?zA ?zB ?zC ?_); (case zA => tb_rel); (case zB => tb_rel); (case zC => tb_rel); intros)
  (ktn_call 91 args_cons; tbr_iter List_; ktn_call 91 args_cons; tbr_iter Tuple_; tbr_iter aS; tbr_iter aS; ktn_call 91 args_cons; tbr_iter List_; ktn_call 91 args_cons; tbr_iter Tuple_; tbr_iter aS; (with_reducible refine' aL1 ?zA ?zB ?zC ?_); (case zA => tb_rel); (case zB => tb_rel); (case zC => tb_rel))
  ((with_reducible refine' newTupX ?zA ?zB ?zC ?_); (case zA => tb_rel); (case zB => tb_rel); (case zC => tb_rel); intros)
  (tbr_iter args_nil)
  rename_i x1 r1 s1 F1 _ x2 r2 s2 F2 _ x3 r3 s3 F3 X3
  refine newLX F3 (XTs.cons X3 XTs.nil) (Nat.le_of_ble_eq_true rfl) fun l₂ h₁₄ s₁₄ F₁₄ P₁₄ X₁₄ _ _ _ _ nn₂ => ?_
  (tbr_iter args_nil)
  refine newTup F₁₄ (Nat.le_of_ble_eq_true rfl) fun t₂ h₁₅ s₁₅ F₁₅ T₁₅ => ?_
  (ktn_call 91 args_cons; tbr_iter Tuple_; tbr_iter aS; tbr_iter aS; ktn_call 91 args_cons; tbr_iter Subscript_; (with_reducible refine' nL ?zA ?zB ?zC ?_); (case zA => tb_rel); (case zB => tb_rel); (case zC => tb_rel); tbr_iter cInt; (with_reducible refine' subLV ?zl ?zy ?z0 ?zh ?zs ?_); (case zl => tb_rel); (case zy => rfl); (case z0 => decide); (case zh => decide); (case zs => with_unfolding_all rfl); tbr_iter args_nil)
  refine newTup F₁₅ (Nat.le_of_ble_eq_true rfl) fun t₃ h₁₆ s₁₆ F₁₆ T₁₆ => ?_
  (tbr_iter args_nil)
  refine newLn F₁₆ (Nat.le_of_ble_eq_true rfl) fun l₃ h₁₇ s₁₇ F₁₇ P₁₇ _ _ _ _ nn₃ => ?_
  (tbr_iter aB1; (with_reducible refine' And.intro (Fm.G ?zF) ?_; (case zF => assumption)))
  have S17 := (s₁₅.trans s₁₆).trans s₁₇
  refine mkAdtX (n := 0) (X := [L0, ad, il]) F₁₇ (hA'.le (by omega)) (there3 F₁₇ (Da₁₃.ofE F₁₇ (fx na)) (PL.up FX.G F₁₇.st Pi₁₃ (fx ni)) la li) (by tb_rel) (by tb_rel) P₁₇.isList (vars := [[.prm .T], o.E])
    ⟨⟨t₂, _, _, l₂, _, rfl, IsTup.up (s₁₆.trans s₁₇) T₁₅, IsList.up F₁₄.G S17 P₁₄.isList (fun q => nomatch q), X₁₄.up S17, new_off (fun b q => (there3 F3 (Da₁₃.ofE F3 (fx na)) (PL.up FX.G F3.st Pi₁₃ (fx ni)) la li b q).2) nn₂⟩,
     ⟨t₃, _, _, r1', rs1, rfl, IsTup.up s₁₇ T₁₆, IsList.ofE F₁₇ R1₁ (fun q => n1 (List.mem_append_left [ad, il] q)), Rx1₁.up F₁₇.st, n1⟩, trivial⟩
    (new_off (fun b q => (there3 F₁₆ (Da₁₃.ofE F₁₆ (fx na)) (PL.up FX.G F₁₆.st Pi₁₃ (fx ni)) la li b q).2) nn₃) fun xe h₁₈ tk₁₈ s₁₈ F₁₈ AE => ?_
  ((with_reducible refine' Attribute_any_ ?_ ?zs); (case zs => with_unfolding_all rfl); (with_reducible refine' nL ?zA ?zB ?zC ?_); (case zA => tb_rel); (case zB => tb_rel); (case zC => tb_rel))
  refine getI F₁₈.G (I₁.up F₁₈.st (fx nwx) (fx nwdx)) e1 (by k_is) (by k_is) (by k_is) rfl ?_
  (tbr_iter cStr)
  refine setD F₁₈ (Da₁₃.ofE F₁₈ (fx na)) la (Nat.le_of_ble_eq_true rfl) fun h₁₉ s₁₉ Da₁₉ _ => ?_
  have Pi₁₉ := PL.up F₁₈.G s₁₉ (PL.up FX.G F₁₈.st Pi₁₃ (fx ni)) (by simpa using ia)
  replace AS : AdtIsX [L0, ad, il] h₁₉ (.ref xs) [] [o.S] := (AS.up FX.G F₁₈.st (fun b q => List.mem_append_left [ad, il] q)).up F₁₈.G s₁₉ (by simp)
  replace AE := AE.up F₁₈.G s₁₉ (by simp)
  have FY := (FX.jn F₁₈).upD s₁₉ (.inr (by simp)) nai.1 nai.2.2
  replace Da₁₉ : Dct prog w h₁₉ ad [(Str.ofString "S", .ref xs), (Str.ofString "E", .ref xe)] := Da₁₉
  clear I₁ H₁ xS₁ xE₁ xT₁ LD₁ R0₁ Rx0₁ R1₁ Rx1₁ B₁ F₁₄ F₁₅ F₁₆ F₁₇ F₁₈ s₁₄ s₁₅ s₁₆ s₁₇ s₁₈ T₁₅ T₁₆ P₁₇ P₁₄ X₁₄ s₁₉ S17 Da₁₃ Pi₁₃ FX F3 F2 F1 s1 s2 s3 X3
  obtain ⟨I₁, H₁, xS₁, xE₁, xT₁, LD₁, ⟨R0₁, Rx0₁⟩, R1₁, Rx1₁⟩ := mv FY.st
  have B₁ := FY.base []
  (ktn_call 1 xAssign; tbr_iter List_; ktn_call 91 args_cons; tbr_iter Tuple_; tbr_iter aS; ktn_call 91 args_cons; tbr_iter Tuple_; tbr_iter aS; ktn_call 91 args_cons; tbr_iter Tuple_; tbr_iter aS; tbr_iter aS; ktn_call 91 args_cons; tbr_iter Tuple_; tbr_iter args_nil; (with_reducible refine' newTupX ?zA ?zB ?zC ?_); (case zA => tb_rel); (case zB => tb_rel); (case zC => tb_rel); intros; ktn_call 91 args_cons; tbr_iter Tuple_; tbr_iter args_nil; (with_reducible refine' newTupX ?zA ?zB ?zC ?_); (case zA => tb_rel); (case zB => tb_rel); (case zC => tb_rel); intros; tbr_iter args_nil; (with_reducible refine' newTupX ?zA ?zB ?zC ?_); (case zA => tb_rel); (case zB => tb_rel); (case zC => tb_rel); intros; tbr_iter args_nil; (with_reducible refine' newTupX ?zA ?zB ?zC ?_); (case zA => tb_rel); (case zB => tb_rel); (case zC => tb_rel); intros; tbr_iter args_nil; (with_reducible refine' newTupX ?zA ?zB ?zC ?_); (case zA => tb_rel); (case zB => tb_rel); (case zC => tb_rel); intros; tbr_iter args_nil)
  rename_i _ _ _ _ _ _ _ _ _ _ _ _ _ _ _ _ _ _ _ _ x3 r3 s3 F3 X3
  refine newLX (ds := rowsOf [.box .L]) F3 (XTs.cons X3 XTs.nil) (Nat.le_of_ble_eq_true rfl) fun l₄ h₂₀ s₂₀ F₂₀ P₂₀ X₂₀ _ _ ne₄ _ nn₄ => ?_
  (ktn_call 2 sL; intros)
  rename_i h₂₁ s₂₁ F₂₁
  have n₄ : l₄ ∉ [L0, ad, il] := new_off (fun b q => (there3 F3 (Da₁₉.ofE F3 (fx na)) (PL.up FY.G F3.st Pi₁₉ (fx ni)) la li b q).2) nn₄
  have P₂₁ := PL.up F₂₀.G s₂₁ P₂₀ (by simpa using ne₄)
  have X₂₁ := X₂₀.up s₂₁
  have B₂ := F₂₁.base []
  (ktn_call 1 xAssignSub; ktn_call 91 Call_; (with_reducible refine' nameG ?zA ?zB ?zC ?zD ?zE ?zF ?_); (case zA => tb_rel); (case zB => tb_rel); (case zC => k_is); (case zD => tb_rel); (case zE => tb_rel); (case zF => tb_rel); (with_reducible refine' callF ?zA ?zB ?zC ?zD ?_); (case zA => tb_rel); (case zB => k_is); (case zC => tb_rel); (case zD => tb_rel); tbr_iter aS; ktn_call 91 args_cons; tbr_iter Tuple_; tbr_iter args_nil)
  ((with_reducible refine' newTupX ?zA ?zB ?zC ?_); (case zA => tb_rel); (case zB => tb_rel); (case zC => tb_rel); intros)
  (ktn_call 91 args_cons; tbr_iter Tuple_; tbr_iter args_nil)
  ((with_reducible refine' newTupX ?zA ?zB ?zC ?_); (case zA => tb_rel); (case zB => tb_rel); (case zC => tb_rel); intros)
  (ktn_call 91 args_cons; tbr_iter List_; ktn_call 91 args_cons; tbr_iter Tuple_; tbr_iter aS; tbr_iter aS; ktn_call 91 args_cons; tbr_iter List_; tbr_iter args_nil)
  rename_i x5 r5 s5 F5 X5
  refine newLn F5 (Nat.le_of_ble_eq_true rfl) fun l₅ h₂₂ s₂₂ F₂₂ P₂₂ _ _ _ _ nn₅ => ?_
  (tbr_iter args_nil)
  refine newTup F₂₂ (Nat.le_of_ble_eq_true rfl) fun t₅ h₂₃ s₂₃ F₂₃ T₂₃ => ?_
  (ktn_call 91 args_cons; tbr_iter Tuple_; tbr_iter aS; tbr_iter aS; (with_reducible refine' aL1 ?zA ?zB ?zC ?_); (case zA => tb_rel); (case zB => tb_rel); (case zC => tb_rel))
  refine newTup F₂₃ (Nat.le_of_ble_eq_true rfl) fun t₆ h₂₄ s₂₄ F₂₄ T₂₄ => ?_
  (tbr_iter args_nil)
  refine newLn F₂₄ (Nat.le_of_ble_eq_true rfl) fun l₆ h₂₅ s₂₅ F₂₅ P₂₅ _ _ _ _ nn₆ => ?_
  (tbr_iter aB1; (with_reducible refine' And.intro (Fm.G ?zF) ?_; (case zF => assumption)))
  have Da₂₁ := Da₁₉.ofE F₂₁ (fx na)
  have Pi₂₁ := PL.up FY.G F₂₁.st Pi₁₉ (fx ni)
  have S25 := (s₂₃.trans s₂₄).trans s₂₅
  have up21 : ∀ {hh : Heap}, Step w mg mb [L0] h₂₁ hh → ad ∉ [L0] ∧ il ∉ [L0] := fun _ => ⟨fx na, fx ni⟩
  refine mkAdtX (n := 0) (X := [L0, ad, il]) F₂₅ (hA'.le (by omega)) (there3 F₂₅ (Da₂₁.ofE F₂₅ (fx na)) (PL.up F₂₁.G F₂₅.st Pi₂₁ (fx ni)) la li) (by tb_rel) (by tb_rel) P₂₅.isList (vars := [[], [.box .L]])
    ⟨⟨t₅, _, _, l₅, [], rfl, IsTup.up (s₂₄.trans s₂₅) T₂₃, IsList.up F₂₂.G S25 P₂₂.isList (fun q => nomatch q), XTs.nil, new_off (fun b q => (there3 F5 (Da₂₁.ofE F5 (fx na)) (PL.up F₂₁.G F5.st Pi₂₁ (fx ni)) la li b q).2) nn₅⟩,
     ⟨t₆, _, _, l₄, _, rfl, IsTup.up s₂₅ T₂₄, IsList.up F₂₁.G F₂₅.st P₂₁.isList (fun q => n₄ (List.mem_append_left [ad, il] q)), X₂₁.up F₂₅.st, n₄⟩, trivial⟩
    (new_off (fun b q => (there3 F₂₄ (Da₂₁.ofE F₂₄ (fx na)) (PL.up F₂₁.G F₂₄.st Pi₂₁ (fx ni)) la li b q).2) nn₆) fun xl h₂₆ tk₂₆ s₂₆ F₂₆ AL => ?_
  ((with_reducible refine' Attribute_any_ ?_ ?zs); (case zs => with_unfolding_all rfl); (with_reducible refine' nL ?zA ?zB ?zC ?_); (case zA => tb_rel); (case zB => tb_rel); (case zC => tb_rel))
  have F₂₆' := F₂₁.jn F₂₆
  refine getI F₂₆.G (I₁.up F₂₆'.st (fx nwx) (fx nwdx)) e1 (by k_is) (by k_is) (by k_is) rfl ?_
  (tbr_iter cStr)
  refine setD F₂₆ (Da₂₁.ofE F₂₆ (fx na)) la (Nat.le_of_ble_eq_true rfl) fun h₂₇ s₂₇ Da₂₇ _ => ?_
  have Pi₂₇ := PL.up F₂₆.G s₂₇ (PL.up F₂₁.G F₂₆.st Pi₂₁ (fx ni)) (by simpa using ia)
  replace AS : AdtIsX [L0, ad, il] h₂₇ (.ref xs) [] [o.S] := (AS.up FY.G F₂₆'.st (fun b q => List.mem_append_left [ad, il] q)).up F₂₆.G s₂₇ (by simp)
  replace AE : AdtIsX [L0, ad, il] h₂₇ (.ref xe) [sty "T"] [[.prm .T], o.E] := (AE.up FY.G F₂₆'.st (fun b q => List.mem_append_left [ad, il] q)).up F₂₆.G s₂₇ (by simp)
  replace AL := AL.up F₂₆.G s₂₇ (by simp)
  have FZ := (FY.jn F₂₆').upD s₂₇ (.inr (by simp)) nai.1 nai.2.2
  replace Da₂₇ : Dct prog w h₂₇ ad [(Str.ofString "S", .ref xs), (Str.ofString "E", .ref xe), (Str.ofString "L", .ref xl)] := Da₂₇
  clear I₁ H₁ xS₁ xE₁ xT₁ LD₁ R0₁ Rx0₁ R1₁ Rx1₁ B₁ B₂ F₂₀ F₂₁ F₂₂ F₂₃ F₂₄ F₂₅ F₂₆ F₂₆' s₂₀ s₂₁ s₂₂ s₂₃ s₂₄ s₂₅ s₂₆ T₂₃ T₂₄ P₂₀ P₂₁ P₂₂ P₂₅ X₂₀ X₂₁ s₂₇ S25 Da₂₁ Pi₂₁ Da₁₉ Pi₁₉ FY F3 s3 X3 F5 s5 X5 up21
  obtain ⟨I₁, H₁, xS₁, xE₁, xT₁, -⟩ := mv FZ.st
  have FW := F₉.joinN FZ (by
    exact all2 nai.2.1.symm nii.2.1.symm)
  have Do := OD0.ofE FW (fun q => nomatch q)
  have Lc := IsList.ofE FW OLc (fun q => nomatch q)
  have Ld := IsList.ofE FW OLd (fun q => nomatch q)
  have xc := Oxc.up FW.st
  have xd := Oxd.up FW.st
  have nodX := hO OD0.there
  have nclX := hO (let ⟨_, e, _⟩ := OLc; ⟨_, e⟩)
  have ndlX := hO (let ⟨_, e, _⟩ := OLd; ⟨_, e⟩)
  have sx : ∀ {a : Addr}, a ∉ [L0, ad, il] → a ∉ [L0, il] := fun h1 q => h1 (by
    simp only [List.mem_cons, List.not_mem_nil, or_false] at q ⊢
    rcases q with q | q
    · exact .inl q
    · exact .inr (.inr q))
  have mw : ∀ {hh : Heap}, Step w mg mb [L0, il] h₂₇ hh → Ins hh wx wdx 172 mo 8 ∧ Dct prog w hh hdd [(Str.ofString "S", vS), (Str.ofString "E", vE)] ∧ XT hh vS (enc .S) ∧ XT hh vE (enc (.E (.prm .T))) ∧
      Dct prog w hh od [(Str.ofString "S", .ref fl), (Str.ofString "E", .ref el), (Str.ofString "copied", .ref cl), (Str.ofString "dropped", .ref dl), (Str.ofString "asks", .bool o.ask), (Str.ofString "bounds", bd)] := fun st =>
    ⟨I₁.up st (sx nwX) (sx nwdX), H₁.up FW.G st (sx nhX'), xS₁.up st, xE₁.up st, Do.up FW.G st (sx nodX)⟩
  clear mv FZ F₉ OD0 OLf Oxf OLe Oxe OLc Oxc OLd Oxd OB st₉ T₃ s₃ s₄ st
  refine' xForL (wr := []) ?hF [Str.ofString "trait", Str.ofString "names", Str.ofString "name", Str.ofString "asked", Str.ofString "params"] [il] hA' ?hs ?_
  case hF => exact FW
  case hs => exact fun _ => rfl
  (tbr_iter List_; ktn_call 91 args_cons; tbr_iter Tuple_; tbr_iter aS; ktn_call 91 args_cons; tbr_iter Subscript_; (with_reducible refine' nameC ?zA ?zB ?zC ?zD ?zE ?zF ?_); (case zA => tb_rel); (case zB => tb_rel); (case zC => tb_rel); (case zD => tb_rel); (case zE => tb_rel); (case zF => tb_rel); tbr_iter cStr)
  refine subD Do rfl (by with_unfolding_all rfl) ?_
  (tbr_iter args_nil)
  refine newTup FW (Nat.le_of_ble_eq_true rfl) fun ta' h₂₈ s₂₈ F₂₈ Ta => ?_
  (ktn_call 91 args_cons; tbr_iter Tuple_; tbr_iter aS; ktn_call 91 args_cons; tbr_iter Subscript_; (with_reducible refine' nameC ?zA ?zB ?zC ?zD ?zE ?zF ?_); (case zA => tb_rel); (case zB => tb_rel); (case zC => tb_rel); (case zD => tb_rel); (case zE => tb_rel); (case zF => tb_rel); tbr_iter cStr)
  refine subD (Do.up FW.G s₂₈ (fun q => nomatch q)) rfl (by with_unfolding_all rfl) ?_
  (tbr_iter args_nil)
  refine newTup F₂₈ (Nat.le_of_ble_eq_true rfl) fun tb' h₂₉ s₂₉ F₂₉ Tb => ?_
  (tbr_iter args_nil)
  refine newLn F₂₉ (Nat.le_of_ble_eq_true rfl) fun ll h₃₀ s₃₀ F₃₀ P₃₀ gll nll nel' ncl' nnl => ?_
  have S29 := s₂₈.trans s₂₉
  have S30 := S29.trans s₃₀
  have Pi₂₉ := PL.up FW.G S29 Pi₂₇ (fun q => nomatch q)
  have Pi₃₀ := PL.up FW.G S30 Pi₂₇ (fun q => nomatch q)
  refine ⟨h₃₀, _, ll, _, rfl, rfl, F₃₀, P₃₀.isList, by simpa using PL.ne Pi₂₉ nnl, ?_, fun i h' => Gd w mg mb h' ∧ ∃ rv : List Value, h'.PlainList il rv.toArray ∧ ImpsAreX [L0, ad, il] h' rv (rws o i), ?_, ?_, ?_, ?_⟩
  · intro a ha
    rw [List.mem_singleton.mp ha]
    obtain ⟨n, e⟩ := Pi₃₀
    exact ⟨⟨_, e⟩, nii.2.1⟩
  · exact ⟨F₃₀.G, [], Pi₃₀, by rw [show rws o 0 = [] from rfl]; trivial⟩
  · rintro i ha hb L st hL ⟨Ga, rv, Pv, Iv⟩
    exact ⟨st.gd Ga, rv, PL.its st Ga Pv (fun a q => (hL a q).2), Iv.its Ga st (fun a q => (hL a q).2)⟩
  · rintro i v u h₃₁ tk₃₁ E3 hv ⟨Ga, rv, Pv, Iv⟩ st₃₁ Fo F₃₁
    have hvi : ∃ tt tr tok lc a b cp, ∃ lv : List Value, v = .ref tt ∧ IsTup h₃₀ tt #[.str tr tok, .ref lc] ∧ tr = (if cp then Str.ofString "Copy" else Str.ofString "Drop") ∧ h₂₇.IsList lc lv.toArray ∧ XTs h₂₇ lv (names a b) ∧ lc ∉ [L0, ad, il] ∧ rws o (i + 1) = rws o i ++ (flags a b).map (impOf cp o.ask) := by
      match i, hv with
      | 0, hv => cases hv; exact ⟨ta', _, _, cl, o.cS, o.cE, true, cv, rfl, IsTup.up (s₂₉.trans s₃₀) Ta, rfl, Lc, xc, nclX, rws_one o⟩
      | 1, hv => cases hv; exact ⟨tb', _, _, dl, o.dS, o.dE, false, dv, rfl, IsTup.up s₃₀ Tb, rfl, Ld, xd, ndlX, rws_two' o⟩
      | i + 2, hv => simp at hv
    obtain ⟨tt, tr, tok, lc, a, b, cp, lv, rfl, Tt, htr, Llc, xlv, nlc, hrw⟩ := hvi
    have s27 : Step w mg mb [L0, il] h₂₇ h₃₁ := (S30.mono (fun _ q => nomatch q)).trans st₃₁
    have L₃₁ := IsList.up FW.G s27 Llc (sx nlc)
    have x₃₁ := xlv.up s27
    have BB := F₃₁.base [il]
    refine asg2 F₃₁ hA' (IsTup.up st₃₁ Tt) fun h₃₂ s₃₂ F₃₂ => ?_
    (ktn_call 2 sL; intros)
    (ktn_call 2 sL; intros)
    rename_i ha₁ sa₁ Fa₁ hb₁ sb₁ Fb₁
    have Lb₁ := IsList.ofE Fb₁ L₃₁ (sx nlc)
    have S31 : Step w mg mb [L0] h₃₁ hb₁ := (s₃₂.mono (fun _ q => nomatch q)).trans (sa₁.trans sb₁)
    have Pb₁ := PL.up F₃₁.G S31 Pv (fx ni)
    have Ib₁ := Iv.up F₃₁.G S31 (fun b q => List.mem_append_left [ad, il] q)
    have s27b := s27.trans Fb₁.st
    refine' xForL (wr := [L0, il]) ?hF [Str.ofString "name", Str.ofString "asked", Str.ofString "params"] [il] hA' ?hs ?_
    case hF => exact Fb₁
    case hs => exact fun _ => rfl
    ((with_reducible refine' nL ?zA ?zB ?zC ?_); (case zA => tb_rel); (case zB => tb_rel); (case zC => tb_rel))
    refine ⟨hb₁, _, lc, lv, rfl, rfl, Fb₁, Lb₁, ?_, ?_, fun j h' => Gd w mg mb h' ∧ ∃ rv : List Value, h'.PlainList il rv.toArray ∧ ImpsAreX [L0, ad, il] h' rv (rws o i ++ ((flags a b).take j).map (impOf cp o.ask)), ?_, ?_, ?_, ?_⟩
    · intro q
      exact nlc (List.mem_append_right [L0, ad] q)
    · intro a ha
      rw [List.mem_singleton.mp ha]
      obtain ⟨n, e⟩ := Pb₁
      exact ⟨⟨_, e⟩, .inl (by simp)⟩
    · exact ⟨Fb₁.G, rv, Pb₁, by simpa using Ib₁⟩
    · rintro j ha hb L st hL ⟨Ga, rv, Pv, Iv⟩
      exact ⟨st.gd Ga, rv, PL.its st Ga Pv (fun a q => (hL a q).2), Iv.its Ga st (fun a q => (hL a q).2)⟩
    · rintro j v u₂ h₃₃ tk₃₃ E4 hv ⟨Gb, rv', Pv', Iv'⟩ st₃₃ Fo' F₃₃
      obtain ⟨f, tn, hf, rfl⟩ := names_get xlv hv
      refine wpAny_assign_Name ?_
      (ktn_call 2 sL; intros)
      rename_i h₃₄ s₃₄ F₃₄
      have s27c := (s27b.trans st₃₃).trans (s₃₄.mono (wr' := [L0, il]) (fun _ q => List.mem_append_left [il] q))
      obtain ⟨I₃₄, H₃₄, xS₃₄, xE₃₄, D₃₄⟩ := mw s27c
      have P₃₄ := PL.up F₃₃.G s₃₄ Pv' (fx ni)
      have A₃₄ : ImpsAreX [L0, ad, il] h₃₄ rv' _ := Iv'.up F₃₃.G s₃₄ (fun b q => List.mem_append_left [ad, il] q)
      have nadX : ad ∉ [L0, il] := fun q => by
        rcases List.mem_cons.mp q with q | q
        · exact nai.1 q
        · exact ia (List.mem_singleton.mp q).symm
      have Da₃₄ := Da₂₇.up FW.G s27c nadX
      have X₃₄ := there3 F₃₄ Da₃₄ P₃₄ la li
      have B₃₄ := F₃₄.base []
      clear Pv' Iv' Fo' s₃₄ Ib₁ Pb₁ Fb₁ sb₁ Fa₁ sa₁ F₃₂ s₃₂ BB Fo Pv Iv Pi₂₉ Pi₃₀ L₃₁ x₃₁ S29 S30 F₃₀ F₂₉ F₂₈ s₂₈ s₂₉ s₃₀
      (ktn_call 1 xAssign)
      refine wpAny_mono (show wpAny _ _ _ (fun v s => ∃ h' tk', s = ⟨h', g, d, tk', os⟩ ∧ Step w mg mb [] h₃₄ h' ∧ XT h' v (.tuple (if cp && o.ask then [sty "Copy"] else []))) _ _ from ?_) (fun va s₁ q => ?_) fun _ _ x => x
      · subst htr
        cases cp with
        | false =>
          (tbr_iter wpAny_IfExp; tbr_iter wpAny_isTrue_BoolOp; tbr_iter wpAny_allTrue_And_cons; (with_reducible refine' tN ?zA ?zB ?zC ?_); (case zA => tb_rel); (case zB => tb_rel); (case zC => tb_rel); ktn_call 1 ifF; ktn_call 1 ifF; tbr_iter Tuple_; tbr_iter args_nil; (with_reducible refine' newTupX ?zA ?zB ?zC ?_); (case zA => tb_rel); (case zB => tb_rel); (case zC => tb_rel); intros)
          exact ⟨_, _, rfl, by assumption, by assumption⟩
        | true =>
          (tbr_iter wpAny_IfExp; tbr_iter wpAny_isTrue_BoolOp; tbr_iter wpAny_allTrue_And_cons; (with_reducible refine' tN ?zA ?zB ?zC ?_); (case zA => tb_rel); (case zB => tb_rel); (case zC => tb_rel); ktn_call 1 ifT; tbr_iter wpAny_allTrue_And_cons; ktn_call 91 isTrue_plain; tbr_iter Subscript_; (with_reducible refine' nameC ?zA ?zB ?zC ?zD ?zE ?zF ?_); (case zA => tb_rel); (case zB => tb_rel); (case zC => tb_rel); (case zD => tb_rel); (case zE => tb_rel); (case zF => tb_rel); tbr_iter cStr)
          refine subD D₃₄ rfl (by with_unfolding_all rfl) ?_
          cases hask : o.ask with
          | false =>
            (tbr_iter wpAny_truthy_bool; ktn_call 1 ifF; ktn_call 1 ifF; tbr_iter Tuple_; tbr_iter args_nil; (with_reducible refine' newTupX ?zA ?zB ?zC ?_); (case zA => tb_rel); (case zB => tb_rel); (case zC => tb_rel); intros)
            exact ⟨_, _, rfl, by assumption, by assumption⟩
          | true =>
            (tbr_iter wpAny_truthy_bool; ktn_call 1 ifT; tbr_iter wpAny_allTrue_And_nil; ktn_call 1 ifT; tbr_iter Tuple_; tbr_iter aS1; (with_reducible refine' newTupX ?zA ?zB ?zC ?_); (case zA => tb_rel); (case zB => tb_rel); (case zC => tb_rel); intros)
            exact ⟨_, _, rfl, by assumption, by assumption⟩
      obtain ⟨h₃₅, tk₃₅, rfl, s₃₅, xa⟩ := q
      have F₃₅ := B₃₄.up s₃₅
      (ktn_call 2 sL; intros)
      rename_i h₃₆ s₃₆ F₃₆
      have xa₃₆ := xa.up s₃₆
      (ktn_call 1 xAssign)
      refine wpAny_mono (show wpAny _ _ _ (fun v s => ∃ pl, ∃ vs : List Value, ∃ h' tk', v = .ref pl ∧ s = ⟨h', g, d, tk', os⟩ ∧ Step w mg mb [] h₃₆ h' ∧ h'.PlainList pl vs.toArray ∧ XTs h' vs (impOf cp o.ask f).params ∧ pl ∉ [L0, ad, il]) _ _ from ?_) (fun vp s₁ q => ?_) fun _ _ x => x
      · cases f with
        | false =>
          (tbr_iter wpAny_IfExp; (with_reducible refine' tN ?zA ?zB ?zC ?_); (case zA => tb_rel); (case zB => tb_rel); (case zC => tb_rel); ktn_call 1 ifF; tbr_iter List_; tbr_iter args_nil)
          refine newLn F₃₆ (Nat.le_of_ble_eq_true rfl) fun pl h₃₇ s₃₇ F₃₇ P₃₇ _ npl nel₂ _ _ => ?_
          exact ⟨pl, [], _, _, rfl, rfl, s₃₇, P₃₇, XTs.nil, fun q => new_off (X := [ad, il]) (fun b q => (X₃₄ b (.tail _ q)).2) (npl.resolve_right (by simpa using nel₂)) ((List.mem_cons.mp q).resolve_left nel₂)⟩
        | true =>
          (tbr_iter wpAny_IfExp; (with_reducible refine' tN ?zA ?zB ?zC ?_); (case zA => tb_rel); (case zB => tb_rel); (case zC => tb_rel); ktn_call 1 ifT; tbr_iter List_; ktn_call 91 args_cons; tbr_iter Tuple_; tbr_iter aS; (with_reducible refine' aL1 ?zA ?zB ?zC ?_); (case zA => tb_rel); (case zB => tb_rel); (case zC => tb_rel); (with_reducible refine' newTupX ?zA ?zB ?zC ?_); (case zA => tb_rel); (case zB => tb_rel); (case zC => tb_rel); intros; tbr_iter args_nil)
          rename_i x7 r7 s7 F7 X7
          refine newLn F7 (Nat.le_of_ble_eq_true rfl) fun pl h₃₇ s₃₇ F₃₇ P₃₇ _ npl nel₂ _ _ => ?_
          exact ⟨pl, _, _, _, rfl, rfl, s7.trans s₃₇, P₃₇, XTs.cons (X7.up s₃₇) XTs.nil, fun q => new_off (X := [ad, il]) (fun b q => (X₃₄ b (.tail _ q)).2) (npl.resolve_right (by simpa using nel₂)) ((List.mem_cons.mp q).resolve_left nel₂)⟩
      obtain ⟨pl, pvs, h₃₇, tk₃₇, rfl, rfl, s₃₇, P₃₇, xp₃₇, npl⟩ := q
      have F₃₇ := F₃₆.up s₃₇
      (ktn_call 2 sL; intros)
      rename_i h₃₈ s₃₈ F₃₈
      have npl1 : pl ∉ [L0] := fun q => npl (List.mem_append_left [ad, il] q)
      have P₃₈ := PL.up F₃₇.G s₃₈ P₃₇ npl1
      have xp₃₈ := xp₃₇.up s₃₈
      have Il₃₈ := PL.up F₃₄.G F₃₈.st P₃₄ (fx ni)
      have I₃₈ := I₃₄.up F₃₈.st (fx nwx) (fx nwdx)
      have H₃₈ := H₃₄.up F₃₄.G F₃₈.st (by simpa using (show hdd ≠ Env.locals _ from nhi.1))
      have B₃₈ := F₃₈.base []
      refine xExpr rfl rfl ?_
      refine mApp (mg := mg) (mb := mb) rfl rfl rfl ?_
      ((with_reducible refine' Attribute_any_ ?_ ?zs); (case zs => with_unfolding_all rfl); (with_reducible refine' nL ?zA ?zB ?zC ?_); (case zA => tb_rel); (case zB => tb_rel); (case zC => tb_rel))
      refine getI F₃₈.G I₃₈ e2 (by k_is) (by k_is) (by k_is) rfl ?_
      refine ⟨il, rv', rfl, li, Il₃₈, ?_⟩
      (ktn_call 91 Call_; (with_reducible refine' nameG ?zA ?zB ?zC ?zD ?zE ?zF ?_); (case zA => tb_rel); (case zB => tb_rel); (case zC => k_is); (case zD => tb_rel); (case zE => tb_rel); (case zF => tb_rel); (with_reducible refine' callF ?zA ?zB ?zC ?zD ?_); (case zA => tb_rel); (case zB => k_is); (case zC => tb_rel); (case zD => tb_rel); ktn_call 91 args_cons; ktn_call 91 Call_; (with_reducible refine' nameB_len ?zA ?zB ?zC ?zD ?zE ?zF ?_); (case zA => tb_rel); (case zB => tb_rel); (case zC => k_is); (case zD => tb_rel); (case zE => tb_rel); (case zF => tb_rel); ktn_call 2 callB; ktn_call 91 args_cons; (with_reducible refine' Attribute_any_ ?_ ?zs); (case zs => with_unfolding_all rfl); (with_reducible refine' nL ?zA ?zB ?zC ?_); (case zA => tb_rel); (case zB => tb_rel); (case zC => tb_rel))
      refine getI F₃₈.G I₃₈ e2 (by k_is) (by k_is) (by k_is) rfl ?_
      (tbr_iter args_nil)
      have hlen : rv'.length ≤ 6 := by
        rw [A₃₄.len, List.length_append, List.length_map]
        have h1 := rws_len o i
        have h2 := flags_len a b
        have h3 : ((flags a b).take j).length ≤ (flags a b).length := by rw [List.length_take]; exact Nat.min_le_right _ _
        omega
      have hH : valueAt [(Str.ofString "S", vS), (Str.ofString "E", vE)] (if f = true then Str.ofString "E" else Str.ofString "S") = some (if f = true then vE else vS) := hSE
      have nh1 : hdd ∉ [L0] := fun q => nhi.1 (List.mem_singleton.mp q)
      refine lenL Il₃₈.isList (by omega) ?_
      (ktn_call 91 args_cons; tbr_iter Tuple_; tbr_iter args_nil; (with_reducible refine' newTupX ?zA ?zB ?zC ?_); (case zA => tb_rel); (case zB => tb_rel); (case zC => tb_rel); intros; (with_reducible refine' aL ?zA ?zB ?zC ?_); (case zA => tb_rel); (case zB => tb_rel); (case zC => tb_rel); (with_reducible refine' aL ?zA ?zB ?zC ?_); (case zA => tb_rel); (case zB => tb_rel); (case zC => tb_rel); ktn_call 91 args_cons; tbr_iter Tuple_; tbr_iter args_nil; (with_reducible refine' newTupX ?zA ?zB ?zC ?_); (case zA => tb_rel); (case zB => tb_rel); (case zC => tb_rel); intros; ktn_call 91 args_cons; tbr_iter Subscript_; (with_reducible refine' nL ?zA ?zB ?zC ?_); (case zA => tb_rel); (case zB => tb_rel); (case zC => tb_rel); (with_reducible refine' nL ?zA ?zB ?zC ?_); (case zA => tb_rel); (case zB => tb_rel); (case zC => tb_rel))
      refine subD (H₃₈.ofE (by assumption) nh1) hH (by with_unfolding_all rfl) ?_
      (ktn_call 91 args_cons)
      refine newDn (by assumption) fun td h₃₉ s₃₉ F₃₉ _ _ _ _ _ _ => ?_
      (tbr_iter args_nil; (with_reducible refine' And.intro (Fm.G ?zF) ?_; (case zF => assumption)))
      have FJ := F₃₈.jn F₃₉
      refine mkImpX (n := 0) (X := [L0, ad, il]) (i := impOf cp o.ask f) F₃₉ (hA'.le (by omega)) (there3 F₃₉ (Da₃₄.up F₃₄.G FJ.st (fx na)) (PL.up F₃₄.G FJ.st P₃₄ (fx ni)) la li) (PL.up F₃₈.G F₃₉.st P₃₈ npl1).isList (xp₃₈.up F₃₉.st) npl
        (xCp htr) (xSelf (xS₃₄.up FJ.st) (xE₃₄.up FJ.st)) fun xr h₄₀ tk₄₀ s₄₀ F₄₀ IR => ?_
      have FK := F₃₈.jn F₄₀
      have Il₄₀ := PL.up F₃₄.G FK.st P₃₄ (fx ni)
      refine ⟨_, _, rfl, Il₄₀, by rw [sizeLine_eq]; omega, fun h₄₁ s₄₁ P₄₁ => ?_⟩
      have F₄₁ := (F₃₄.jn FK).upD s₄₁ (.inr (by simp)) nii.1 nii.2.2
      (tbr_iter xNil; tbr_iter turn_next)
      refine ⟨_, _, _, rfl, F₄₁, by tb_rel, F₄₁.G, _, P₄₁, ?_⟩
      rw [take_snoc hf, List.map_append, ← List.append_assoc]
      exact ((A₃₄.up F₃₄.G FK.st (fun b q => List.mem_append_left [ad, il] q)).snoc IR).up F₄₀.G s₄₁ (by simp)
    · rintro u₂ h' tk' ⟨Gb, rv', Pv', Iv'⟩ st' F'
      (tbr_iter xNil; tbr_iter turn_next)
      have e : ((flags a b).take lv.length).map (impOf cp o.ask) = (flags a b).map (impOf cp o.ask) := by
        rw [xlv.len, names_flags, List.length_map, List.take_length]
      rw [e, ← hrw] at Iv'
      exact ⟨_, _, _, rfl, F', Agr.ovrS rfl (by tb_rel), Gb, rv', Pv', Iv'⟩
  · rintro u h' tk' ⟨Ga, rv, Pv, Iv⟩ st' F'
    (tbr_iter xReturn; (with_reducible refine' nL ?zA ?zB ?zC ?_); (case zA => tb_rel); (case zB => tb_rel); (case zC => tb_rel); tbr_iter back_ret)
    have s27 : Step w mg mb [L0, il] h₂₇ h' := (S30.mono (fun _ q => nomatch q)).trans st'
    obtain ⟨I', -⟩ := mw s27
    have sX : ∀ b ∈ [L0, il], b ∈ [L0, ad, il] := by simp
    have nadX : ad ∉ [L0, il] := fun q => by
      rcases List.mem_cons.mp q with q | q
      · exact nai.1 q
      · exact ia (List.mem_singleton.mp q).symm
    rw [show rws o [Value.ref ta', Value.ref tb'].length = o.rows from rws_two o] at Iv
    exact k _ _ _ F'.st ⟨wx, wdx, mo, ad, il, .ref xs, .ref xe, .ref xl, rv, rfl, I', e1, e2, la, Da₂₇.up FW.G s27 nadX, (AS.up FW.G s27 sX).is, (AE.up FW.G s27 sX).is, (AL.up FW.G s27 sX).is, Pv.isList, Iv.is⟩
end

theorem noT_parts {t p : Ty} (h : p ∈ parts t) (hk : t.kind = Str.ofString "tuple") (hT : noT t = true) : noT p = true := by
  cases t <;> first | (exfalso; simp only [Ty.kind] at hk; revert hk; decide) | skip
  · cases h
  · simp [parts] at h; simp [noT] at hT
    rcases h with rfl | rfl
    · exact hT.1
    · exact hT.2
section
variable {prog : Program} {w : World} {mg mb : Str → Option Value}
theorem is_copied_spec : ∀ (n : Nat) {A : Around} {E : Value → Shared → Prop} {h : Heap} {g : Array GenState} {d : Drawn} {tk : Nat} {os : OsState} {ov v : Value} {o : OD} {t : Ty} {Q : Value → Shared → Prop}, t.dep ≤ n → n ≤ 20 → Cx A (n + 2) → Gd w mg mb h → XT h v (enc t) → OwnIs prog w h ov o → noT t = true →
    (∀ h' tk', Step w mg mb [] h h' → Q (.bool (isC o.W t)) ⟨h', g, d, tk', os⟩) → wpAny (model prog w) A (call (.ref 226) [ov, v]) Q E ⟨h, g, d, tk, os⟩ := by
  intro n
  induction n using Nat.strongRecOn with
  | ind n ih =>
  intro A E h g d tk os ov v o t Q hn hn20 hA G X OI hT k
  refine' enter [] (fun _ q => nomatch q) (m := upd nom (Str.ofString "thing") v) (cm := upd nom (Str.ofString "own") ov) G hA ?k1 ?k2 ?k3 ?k4 ?k5 ?k6 ?k7 ?k8 ?k9 ?_
  case k1 => k_is
  case k2 => k_is
  case k3 => exact BindsTo.of_eq rfl
  case k4 => rfl
  case k5 => intro _; rfl
  case k6 => intro _; rfl
  case k7 => rfl
  case k8 => rfl
  case k9 => rfl
  intro L h₁ tk₁ E' st F CN hA' NL
  generalize A.deeper _ = A2 at hA' ⊢
  have key : ∀ p, p.dep < t.dep → noT p = true → ∀ {h' : Heap} {v' : Value} {A : Around} {E : Value → Shared → Prop} {tk : Nat} {Q : Value → Shared → Prop}, Step w mg mb [] h h' → Cx A (n + 1) → XT h' v' (enc p) → (∀ h'' tk', Step w mg mb [] h' h'' → Q (.bool (isC o.W p)) ⟨h'', g, d, tk', os⟩) → wpAny (model prog w) A (call (.ref 226) [ov, v']) Q E ⟨h', g, d, tk, os⟩ :=
    fun p hp hT h' v' A E tk Q s hA X' k => ih (n - 1) (by omega) (by omega) (by omega) (hA.le (by omega)) (s.gd G) X' (OI.up G s) hT k
  refine hideG fun gP kP => ?_; obtain ⟨od, fl, el, cl, dl, bd, fv, ev, cv, dv, rfl, lod, OD0, OLf, Oxf, OLe, Oxe, OLc, Oxc, OLd, Oxd, OB⟩ := OI; refine kP ?_; clear kP gP
  by_cases hk : t.kind = Str.ofString "tuple"
  · have X' : XT h v (.tuple (.str t.kind :: t.rest)) := enc_eq t ▸ X
    rw [hk, rest_tuple hk] at X'
    clear X
    ((with_reducible refine' yX ?zA ?zB ?zC ?zD ?zE ?zF ?zG ?_); (case zA => tb_rel); (case zB => tb_rel); (case zC => tb_rel); (case zD => tb_rel); (case zE => tb_rel); (case zF => tb_rel); (case zG => tb_rel); intros; (with_reducible refine' iN ?zA ?zB ?zC ?zD ?_); (case zA => tb_rel); (case zB => tb_rel); (case zC => tb_rel); (case zD => tb_rel); (with_reducible refine' iN ?zA ?zB ?zC ?zD ?_); (case zA => tb_rel); (case zB => tb_rel); (case zC => tb_rel); (case zD => tb_rel); tbr_iter xIf0; (with_reducible refine' tN ?zA ?zB ?zC ?_); (case zA => tb_rel); (case zB => tb_rel); (case zC => tb_rel); ktn_call 1 ifT; tbr_iter xReturn; ktn_call 91 Call_; (with_reducible refine' nameB_all ?zA ?zB ?zC ?zD ?zE ?zF ?_); (case zA => tb_rel); (case zB => tb_rel); (case zC => k_is); (case zD => tb_rel); (case zE => tb_rel); (case zF => tb_rel); ktn_call 2 callB; ktn_call 91 args_cons)
    refine' compT_map (by assumption) ((parts t).map fun p => .bool (isC o.W p)) hA' ?c1 ?c2 ?c3 ?c4 ?c5 ?c6 ?c7 ?_
    (case c1 => rfl); (case c2 => rfl); (case c3 => decide); (case c4 => exact fun _ => rfl); (case c5 => decide); (case c6 => rfl); (case c7 => tb_rel)
    ((with_reducible refine' eN ?zA ?zB ?zC ?zD ?zE ?zF ?_); (case zA => tb_rel); (case zB => tb_rel); (case zC => tb_rel); (case zD => tb_rel); (case zE => tb_rel); (case zF => tb_rel); ktn_call 95 eN)
    rename_i Fc y X₂
    refine ⟨_, _, (parts t).map enc, rfl, Fc, X₂, (by simp), (by rw [List.length_map, sizeLine_eq]; have := parts_le t; omega), ?_, ?_⟩
    · intro i v di ei C m' h₂ h₃ tk₃ E3 hdi hei xv st₃ F₃
      obtain ⟨p, hp, rfl⟩ : ∃ p, (parts t)[i]? = some p ∧ enc p = di := by simpa using hdi
      have he : ei = .bool (isC o.W p) := by rw [List.getElem?_map, hp] at hei; cases hei; rfl
      subst he
      (ktn_call 91 Call_; (with_reducible refine' nameG ?zA ?zB ?zC ?zD ?zE ?zF ?_); (case zA => tb_rel); (case zB => tb_rel); (case zC => k_is); (case zD => tb_rel); (case zE => tb_rel); (case zF => tb_rel); (with_reducible refine' callF ?zA ?zB ?zC ?zD ?_); (case zA => tb_rel); (case zB => k_is); (case zC => tb_rel); (case zD => tb_rel); ktn_call 91 args_cons; (with_reducible refine' nameC ?zA ?zB ?zC ?zD ?zE ?zF ?_); (case zA => tb_rel); (case zB => tb_rel); (case zC => tb_rel); (case zD => tb_rel); (case zE => tb_rel); (case zF => tb_rel); (with_reducible refine' aL1 ?zA ?zB ?zC ?_); (case zA => tb_rel); (case zB => tb_rel); (case zC => tb_rel); (with_reducible refine' And.intro (Fm.G ?zF) ?_; (case zF => assumption)))
      refine key p (dep_parts (List.mem_of_getElem? hp)) (noT_parts (List.mem_of_getElem? hp) hk hT) (Fc.st.trans st₃) hA' xv fun h' tk' s' => ?_
      exact ⟨_, _, _, rfl, F₃.up s', Reads.bool _⟩
    · intro D vs h' tk' st' F' hL xs
      (tbr_iter args_nil)
      refine allL (bs := (parts t).map (isC o.W)) F' hA' hL (by rw [List.map_map]; exact xs) fun h'' tk'' s'' F'' => ?_
      have e : ((parts t).map (isC o.W)).all id = isC o.W t := by rw [isC_tup hk, List.all_map]; rfl
      rw [e]
      (tbr_iter after_ret; tbr_iter back_ret)
      exact k _ _ F''.st
  cases t with
  | int b => ((with_reducible refine' yX ?zA ?zB ?zC ?zD ?zE ?zF ?zG ?_); (case zA => tb_rel); (case zB => tb_rel); (case zC => tb_rel); (case zD => tb_rel); (case zE => tb_rel); (case zF => tb_rel); (case zG => tb_rel); intros; (with_reducible refine' iN ?zA ?zB ?zC ?zD ?_); (case zA => tb_rel); (case zB => tb_rel); (case zC => tb_rel); (case zD => tb_rel); (with_reducible refine' iN ?zA ?zB ?zC ?zD ?_); (case zA => tb_rel); (case zB => tb_rel); (case zC => tb_rel); (case zD => tb_rel); (with_reducible refine' iN ?zA ?zB ?zC ?zD ?_); (case zA => tb_rel); (case zB => tb_rel); (case zC => tb_rel); (case zD => tb_rel); (with_reducible refine' iN ?zA ?zB ?zC ?zD ?_); (case zA => tb_rel); (case zB => tb_rel); (case zC => tb_rel); (case zD => tb_rel); tbr_iter xReturn; tbr_iter BoolOp_or; tbr_iter wpAny_Compare1; (with_reducible refine' nL ?zA ?zB ?zC ?_); (case zA => tb_rel); (case zB => tb_rel); (case zC => tb_rel); tbr_iter Tuple_; tbr_iter aS; tbr_iter aS; tbr_iter aS1; (with_reducible refine' newTupX ?zA ?zB ?zC ?_); (case zA => tb_rel); (case zB => tb_rel); (case zC => tb_rel); intros; (with_reducible refine' inX ?zA ?zc ?zx ?zs ?zd ?ze ?_); (case zA => assumption); (case zc => tb_rel); (case zx => tb_rel); (case zs => decide +kernel); (case zd => decide +kernel); (case ze => decide +kernel); tbr_iter wpAny_truthy_bool; ktn_call 1 ifT; tbr_iter back_ret); exact k _ _ (by ktr_room)
  | bool => ((with_reducible refine' yX ?zA ?zB ?zC ?zD ?zE ?zF ?zG ?_); (case zA => tb_rel); (case zB => tb_rel); (case zC => tb_rel); (case zD => tb_rel); (case zE => tb_rel); (case zF => tb_rel); (case zG => tb_rel); intros; (with_reducible refine' iN ?zA ?zB ?zC ?zD ?_); (case zA => tb_rel); (case zB => tb_rel); (case zC => tb_rel); (case zD => tb_rel); (with_reducible refine' iN ?zA ?zB ?zC ?zD ?_); (case zA => tb_rel); (case zB => tb_rel); (case zC => tb_rel); (case zD => tb_rel); (with_reducible refine' iN ?zA ?zB ?zC ?zD ?_); (case zA => tb_rel); (case zB => tb_rel); (case zC => tb_rel); (case zD => tb_rel); (with_reducible refine' iN ?zA ?zB ?zC ?zD ?_); (case zA => tb_rel); (case zB => tb_rel); (case zC => tb_rel); (case zD => tb_rel); tbr_iter xReturn; tbr_iter BoolOp_or; tbr_iter wpAny_Compare1; (with_reducible refine' nL ?zA ?zB ?zC ?_); (case zA => tb_rel); (case zB => tb_rel); (case zC => tb_rel); tbr_iter Tuple_; tbr_iter aS; tbr_iter aS; tbr_iter aS1; (with_reducible refine' newTupX ?zA ?zB ?zC ?_); (case zA => tb_rel); (case zB => tb_rel); (case zC => tb_rel); intros; (with_reducible refine' inX ?zA ?zc ?zx ?zs ?zd ?ze ?_); (case zA => assumption); (case zc => tb_rel); (case zx => tb_rel); (case zs => decide +kernel); (case zd => decide +kernel); (case ze => decide +kernel); tbr_iter wpAny_truthy_bool; ktn_call 1 ifT; tbr_iter back_ret); exact k _ _ (by ktr_room)
  | never => ((with_reducible refine' yX ?zA ?zB ?zC ?zD ?zE ?zF ?zG ?_); (case zA => tb_rel); (case zB => tb_rel); (case zC => tb_rel); (case zD => tb_rel); (case zE => tb_rel); (case zF => tb_rel); (case zG => tb_rel); intros; (with_reducible refine' iN ?zA ?zB ?zC ?zD ?_); (case zA => tb_rel); (case zB => tb_rel); (case zC => tb_rel); (case zD => tb_rel); (with_reducible refine' iN ?zA ?zB ?zC ?zD ?_); (case zA => tb_rel); (case zB => tb_rel); (case zC => tb_rel); (case zD => tb_rel); (with_reducible refine' iN ?zA ?zB ?zC ?zD ?_); (case zA => tb_rel); (case zB => tb_rel); (case zC => tb_rel); (case zD => tb_rel); (with_reducible refine' iN ?zA ?zB ?zC ?zD ?_); (case zA => tb_rel); (case zB => tb_rel); (case zC => tb_rel); (case zD => tb_rel); tbr_iter xReturn; tbr_iter BoolOp_or; tbr_iter wpAny_Compare1; (with_reducible refine' nL ?zA ?zB ?zC ?_); (case zA => tb_rel); (case zB => tb_rel); (case zC => tb_rel); tbr_iter Tuple_; tbr_iter aS; tbr_iter aS; tbr_iter aS1; (with_reducible refine' newTupX ?zA ?zB ?zC ?_); (case zA => tb_rel); (case zB => tb_rel); (case zC => tb_rel); intros; (with_reducible refine' inX ?zA ?zc ?zx ?zs ?zd ?ze ?_); (case zA => assumption); (case zc => tb_rel); (case zx => tb_rel); (case zs => decide +kernel); (case zd => decide +kernel); (case ze => decide +kernel); tbr_iter wpAny_truthy_bool; ktn_call 1 ifT; tbr_iter back_ret); exact k _ _ (by ktr_room)
  | box t => ((with_reducible refine' yX ?zA ?zB ?zC ?zD ?zE ?zF ?zG ?_); (case zA => tb_rel); (case zB => tb_rel); (case zC => tb_rel); (case zD => tb_rel); (case zE => tb_rel); (case zF => tb_rel); (case zG => tb_rel); intros; (with_reducible refine' iN ?zA ?zB ?zC ?zD ?_); (case zA => tb_rel); (case zB => tb_rel); (case zC => tb_rel); (case zD => tb_rel); (with_reducible refine' iN ?zA ?zB ?zC ?zD ?_); (case zA => tb_rel); (case zB => tb_rel); (case zC => tb_rel); (case zD => tb_rel); (with_reducible refine' iN ?zA ?zB ?zC ?zD ?_); (case zA => tb_rel); (case zB => tb_rel); (case zC => tb_rel); (case zD => tb_rel); (with_reducible refine' iN ?zA ?zB ?zC ?zD ?_); (case zA => tb_rel); (case zB => tb_rel); (case zC => tb_rel); (case zD => tb_rel); tbr_iter xReturn; tbr_iter BoolOp_or; tbr_iter wpAny_Compare1; (with_reducible refine' nL ?zA ?zB ?zC ?_); (case zA => tb_rel); (case zB => tb_rel); (case zC => tb_rel); tbr_iter Tuple_; tbr_iter aS; tbr_iter aS; tbr_iter aS1; (with_reducible refine' newTupX ?zA ?zB ?zC ?_); (case zA => tb_rel); (case zB => tb_rel); (case zC => tb_rel); intros; (with_reducible refine' inX ?zA ?zc ?zx ?zs ?zd ?ze ?_); (case zA => assumption); (case zc => tb_rel); (case zx => tb_rel); (case zs => decide +kernel); (case zd => decide +kernel); (case ze => decide +kernel); tbr_iter wpAny_truthy_bool; ktn_call 1 ifF; tbr_iter BoolOp_one; tbr_iter BoolOp_and; tbr_iter wpAny_Compare1; (with_reducible refine' nL ?zA ?zB ?zC ?_); (case zA => tb_rel); (case zB => tb_rel); (case zC => tb_rel); tbr_iter cStr; tbr_iter eq_str; tbr_iter wpAny_truthy_bool; ktn_call 1 ifF; tbr_iter back_ret); exact k _ _ (by ktr_room)
  | ref r m t =>
    ((with_reducible refine' yX ?zA ?zB ?zC ?zD ?zE ?zF ?zG ?_); (case zA => tb_rel); (case zB => tb_rel); (case zC => tb_rel); (case zD => tb_rel); (case zE => tb_rel); (case zF => tb_rel); (case zG => tb_rel); intros; (with_reducible refine' iN ?zA ?zB ?zC ?zD ?_); (case zA => tb_rel); (case zB => tb_rel); (case zC => tb_rel); (case zD => tb_rel); (with_reducible refine' iN ?zA ?zB ?zC ?zD ?_); (case zA => tb_rel); (case zB => tb_rel); (case zC => tb_rel); (case zD => tb_rel); (with_reducible refine' iN ?zA ?zB ?zC ?zD ?_); (case zA => tb_rel); (case zB => tb_rel); (case zC => tb_rel); (case zD => tb_rel); (with_reducible refine' iN ?zA ?zB ?zC ?zD ?_); (case zA => tb_rel); (case zB => tb_rel); (case zC => tb_rel); (case zD => tb_rel); tbr_iter xReturn; tbr_iter BoolOp_or; tbr_iter wpAny_Compare1; (with_reducible refine' nL ?zA ?zB ?zC ?_); (case zA => tb_rel); (case zB => tb_rel); (case zC => tb_rel); tbr_iter Tuple_; tbr_iter aS; tbr_iter aS; tbr_iter aS1; (with_reducible refine' newTupX ?zA ?zB ?zC ?_); (case zA => tb_rel); (case zB => tb_rel); (case zC => tb_rel); intros; (with_reducible refine' inX ?zA ?zc ?zx ?zs ?zd ?ze ?_); (case zA => assumption); (case zc => tb_rel); (case zx => tb_rel); (case zs => decide +kernel); (case zd => decide +kernel); (case ze => decide +kernel); tbr_iter wpAny_truthy_bool; ktn_call 1 ifF; tbr_iter BoolOp_one; tbr_iter BoolOp_and; tbr_iter wpAny_Compare1; (with_reducible refine' nL ?zA ?zB ?zC ?_); (case zA => tb_rel); (case zB => tb_rel); (case zC => tb_rel); tbr_iter cStr; tbr_iter eq_str; tbr_iter wpAny_truthy_bool; ktn_call 1 ifT; tbr_iter BoolOp_one; tbr_iter wpAny_Compare1; (with_reducible refine' eNb ?zA ?zB ?zC ?zD ?zE ?zF ?_); (case zA => tb_rel); (case zB => tb_rel); (case zC => tb_rel); (case zD => tb_rel); (case zE => tb_rel); (case zF => tb_rel); tbr_iter cBool; tbr_iter is_bool; tbr_iter back_ret)
    have e : (m == false) = isC o.W (.ref r m t) := by cases m <;> rfl
    rw [e]
    exact k _ _ (by ktr_room)
  | unit => exact absurd rfl hk
  | pair a b => exact absurd rfl hk
  | arr t =>
    ((with_reducible refine' yX ?zA ?zB ?zC ?zD ?zE ?zF ?zG ?_); (case zA => tb_rel); (case zB => tb_rel); (case zC => tb_rel); (case zD => tb_rel); (case zE => tb_rel); (case zF => tb_rel); (case zG => tb_rel); intros; (with_reducible refine' iN ?zA ?zB ?zC ?zD ?_); (case zA => tb_rel); (case zB => tb_rel); (case zC => tb_rel); (case zD => tb_rel); (with_reducible refine' iN ?zA ?zB ?zC ?zD ?_); (case zA => tb_rel); (case zB => tb_rel); (case zC => tb_rel); (case zD => tb_rel); (with_reducible refine' iN ?zA ?zB ?zC ?zD ?_); (case zA => tb_rel); (case zB => tb_rel); (case zC => tb_rel); (case zD => tb_rel); tbr_iter xIf0; (with_reducible refine' tN ?zA ?zB ?zC ?_); (case zA => tb_rel); (case zB => tb_rel); (case zC => tb_rel); ktn_call 1 ifT; tbr_iter xReturn; ktn_call 91 Call_; (with_reducible refine' nameG ?zA ?zB ?zC ?zD ?zE ?zF ?_); (case zA => tb_rel); (case zB => tb_rel); (case zC => k_is); (case zD => tb_rel); (case zE => tb_rel); (case zF => tb_rel); (with_reducible refine' callF ?zA ?zB ?zC ?zD ?_); (case zA => tb_rel); (case zB => k_is); (case zC => tb_rel); (case zD => tb_rel); ktn_call 91 args_cons; (with_reducible refine' nameC ?zA ?zB ?zC ?zD ?zE ?zF ?_); (case zA => tb_rel); (case zB => tb_rel); (case zC => tb_rel); (case zD => tb_rel); (case zE => tb_rel); (case zF => tb_rel); ktn_call 91 args_cons; (with_reducible refine' eN ?zA ?zB ?zC ?zD ?zE ?zF ?_); (case zA => tb_rel); (case zB => tb_rel); (case zC => tb_rel); (case zD => tb_rel); (case zE => tb_rel); (case zF => tb_rel); ktn_call 95 eN; tbr_iter args_nil; (with_reducible refine' And.intro (Fm.G ?zF) ?_; (case zF => assumption)))
    refine key t (by simp only [Ty.dep]; omega) hT (by ktr_room) hA' (by tb_rel) fun h' tk' s' => ?_
    have F' := Fm.up (by assumption) s'
    (tbr_iter after_ret; tbr_iter back_ret)
    exact k _ _ F'.st
  | prm p =>
    refine hideG fun gP kP => ?_; obtain ⟨bd, vx, vy, rfl, lb, BD, bx, by_⟩ := OB; refine kP ?_; clear kP gP
    ((with_reducible refine' yX ?zA ?zB ?zC ?zD ?zE ?zF ?zG ?_); (case zA => tb_rel); (case zB => tb_rel); (case zC => tb_rel); (case zD => tb_rel); (case zE => tb_rel); (case zF => tb_rel); (case zG => tb_rel); intros; (with_reducible refine' iN ?zA ?zB ?zC ?zD ?_); (case zA => tb_rel); (case zB => tb_rel); (case zC => tb_rel); (case zD => tb_rel); tbr_iter xIf0; (with_reducible refine' tN ?zA ?zB ?zC ?_); (case zA => tb_rel); (case zB => tb_rel); (case zC => tb_rel); ktn_call 1 ifT; tbr_iter xReturn; tbr_iter wpAny_Compare1; tbr_iter cStr; tbr_iter Subscript_; tbr_iter Subscript_; (with_reducible refine' nameC ?zA ?zB ?zC ?zD ?zE ?zF ?_); (case zA => tb_rel); (case zB => tb_rel); (case zC => tb_rel); (case zD => tb_rel); (case zE => tb_rel); (case zF => tb_rel); tbr_iter cStr)
    refine subD (OD0.ofE (by assumption) (by simp)) rfl (by with_unfolding_all rfl) ?_
    ((with_reducible refine' eNs ?zA ?zB ?zC ?zD ?zE ?zF ?_); (case zA => tb_rel); (case zB => tb_rel); (case zC => tb_rel); (case zD => tb_rel); (case zE => tb_rel); (case zF => tb_rel); intros)
    cases p with
    | T => cases hT
    | X =>
      refine subD (BD.ofE (by assumption) (by simp)) rfl (by with_unfolding_all rfl) ?_
      refine inX hA' (bx.up (by ktr_room)) (Reads.str _ _) (by decide +kernel) (by decide +kernel) (by decide +kernel) ?_
      (tbr_iter after_ret; tbr_iter back_ret)
      exact k _ _ (by ktr_room)
    | Y =>
      refine subD (BD.ofE (by assumption) (by simp)) rfl (by with_unfolding_all rfl) ?_
      refine inX hA' (by_.up (by ktr_room)) (Reads.str _ _) (by cases o.yb <;> decide +kernel) (by decide +kernel) (by decide +kernel) ?_
      have e : ((if o.yb = true then [sty "Clone"] else []).any fun y => PyData.eqv y (.str (Str.ofString "Copy"))) = isC o.W (.prm .Y) := by
        show _ = (Pn.Y == Pn.X)
        cases o.yb <;> decide +kernel
      rw [e]
      (tbr_iter after_ret; tbr_iter back_ret)
      exact k _ _ (by ktr_room)
  | S =>
    ((with_reducible refine' yX ?zA ?zB ?zC ?zD ?zE ?zF ?zG ?_); (case zA => tb_rel); (case zB => tb_rel); (case zC => tb_rel); (case zD => tb_rel); (case zE => tb_rel); (case zF => tb_rel); (case zG => tb_rel); intros; tbr_iter xIf0; (with_reducible refine' tN ?zA ?zB ?zC ?_); (case zA => tb_rel); (case zB => tb_rel); (case zC => tb_rel); ktn_call 1 ifT; tbr_iter xIf0; tbr_iter wpAny_isTrue_Compare1; (with_reducible refine' eNs ?zA ?zB ?zC ?zD ?zE ?zF ?_); (case zA => tb_rel); (case zB => tb_rel); (case zC => tb_rel); (case zD => tb_rel); (case zE => tb_rel); (case zF => tb_rel); intros; tbr_iter Subscript_; (with_reducible refine' nameC ?zA ?zB ?zC ?zD ?zE ?zF ?_); (case zA => tb_rel); (case zB => tb_rel); (case zC => tb_rel); (case zD => tb_rel); (case zE => tb_rel); (case zF => tb_rel); tbr_iter cStr)
    refine subD (OD0.ofE (by assumption) (by simp)) rfl (by with_unfolding_all rfl) ?_
    refine ninL hA' (IsList.ofE (by assumption) OLc (by simp)) (Oxc.up (by ktr_room)) (Reads.str _ _) (names_lay _ _) (by decide +kernel) (by decide +kernel) ?_
    rw [show (names o.cS o.cE).any (fun y => PyData.eqv y (.str (Str.ofString "S"))) = o.cS from names_S _ _]
    rw [isC_S] at k
    cases hc : o.cS with
    | false =>
      rw [hc] at k
      (tbr_iter wpAny_truthy_bool; ktn_call 1 ifT; tbr_iter rB; tbr_iter after_ret; tbr_iter after_ret; tbr_iter back_ret)
      exact k _ _ (by ktr_room)
    | true =>
      rw [hc] at k
      (tbr_iter wpAny_truthy_bool; ktn_call 1 ifF; tbr_iter xReturn; tbr_iter BoolOp_or; tbr_iter wpAny_Compare1; (with_reducible refine' eNs ?zA ?zB ?zC ?zD ?zE ?zF ?_); (case zA => tb_rel); (case zB => tb_rel); (case zC => tb_rel); (case zD => tb_rel); (case zE => tb_rel); (case zF => tb_rel); intros; tbr_iter cStr; tbr_iter eq_str; tbr_iter wpAny_truthy_bool; ktn_call 1 ifT; tbr_iter after_ret; tbr_iter back_ret)
      exact k _ _ (by ktr_room)
  | L =>
    ((with_reducible refine' yX ?zA ?zB ?zC ?zD ?zE ?zF ?zG ?_); (case zA => tb_rel); (case zB => tb_rel); (case zC => tb_rel); (case zD => tb_rel); (case zE => tb_rel); (case zF => tb_rel); (case zG => tb_rel); intros; tbr_iter xIf0; (with_reducible refine' tN ?zA ?zB ?zC ?_); (case zA => tb_rel); (case zB => tb_rel); (case zC => tb_rel); ktn_call 1 ifT; tbr_iter xIf0; tbr_iter wpAny_isTrue_Compare1; (with_reducible refine' eNs ?zA ?zB ?zC ?zD ?zE ?zF ?_); (case zA => tb_rel); (case zB => tb_rel); (case zC => tb_rel); (case zD => tb_rel); (case zE => tb_rel); (case zF => tb_rel); intros; tbr_iter Subscript_; (with_reducible refine' nameC ?zA ?zB ?zC ?zD ?zE ?zF ?_); (case zA => tb_rel); (case zB => tb_rel); (case zC => tb_rel); (case zD => tb_rel); (case zE => tb_rel); (case zF => tb_rel); tbr_iter cStr)
    refine subD (OD0.ofE (by assumption) (by simp)) rfl (by with_unfolding_all rfl) ?_
    refine ninL hA' (IsList.ofE (by assumption) OLc (by simp)) (Oxc.up (by ktr_room)) (Reads.str _ _) (names_lay _ _) (by decide +kernel) (by decide +kernel) ?_
    rw [show (names o.cS o.cE).any (fun y => PyData.eqv y (.str (Str.ofString "L"))) = false from names_L _ _]
    (tbr_iter wpAny_truthy_bool; ktn_call 1 ifT; tbr_iter rB; tbr_iter after_ret; tbr_iter after_ret; tbr_iter back_ret)
    exact k _ _ (by ktr_room)
  | E t =>
    ((with_reducible refine' yX ?zA ?zB ?zC ?zD ?zE ?zF ?zG ?_); (case zA => tb_rel); (case zB => tb_rel); (case zC => tb_rel); (case zD => tb_rel); (case zE => tb_rel); (case zF => tb_rel); (case zG => tb_rel); intros; tbr_iter xIf0; (with_reducible refine' tN ?zA ?zB ?zC ?_); (case zA => tb_rel); (case zB => tb_rel); (case zC => tb_rel); ktn_call 1 ifT; tbr_iter xIf0; tbr_iter wpAny_isTrue_Compare1; (with_reducible refine' eNs ?zA ?zB ?zC ?zD ?zE ?zF ?_); (case zA => tb_rel); (case zB => tb_rel); (case zC => tb_rel); (case zD => tb_rel); (case zE => tb_rel); (case zF => tb_rel); intros; tbr_iter Subscript_; (with_reducible refine' nameC ?zA ?zB ?zC ?zD ?zE ?zF ?_); (case zA => tb_rel); (case zB => tb_rel); (case zC => tb_rel); (case zD => tb_rel); (case zE => tb_rel); (case zF => tb_rel); tbr_iter cStr)
    refine subD (OD0.ofE (by assumption) (by simp)) rfl (by with_unfolding_all rfl) ?_
    refine ninL hA' (IsList.ofE (by assumption) OLc (by simp)) (Oxc.up (by ktr_room)) (Reads.str _ _) (names_lay _ _) (by decide +kernel) (by decide +kernel) ?_
    rw [show (names o.cS o.cE).any (fun y => PyData.eqv y (.str (Str.ofString "E"))) = o.cE from names_E _ _]
    rw [isC_E] at k
    cases hc : o.cE with
    | false =>
      rw [hc] at k
      (tbr_iter wpAny_truthy_bool; ktn_call 1 ifT; tbr_iter rB; tbr_iter after_ret; tbr_iter after_ret; tbr_iter back_ret)
      exact k _ _ (by ktr_room)
    | true =>
      rw [hc] at k
      (tbr_iter wpAny_truthy_bool; ktn_call 1 ifF; tbr_iter xReturn; tbr_iter BoolOp_or; tbr_iter wpAny_Compare1; (with_reducible refine' eNs ?zA ?zB ?zC ?zD ?zE ?zF ?_); (case zA => tb_rel); (case zB => tb_rel); (case zC => tb_rel); (case zD => tb_rel); (case zE => tb_rel); (case zF => tb_rel); intros; tbr_iter cStr; tbr_iter eq_str; tbr_iter wpAny_truthy_bool; ktn_call 1 ifF; tbr_iter BoolOp_or; tbr_iter UnaryOp_; tbr_iter Subscript_; (with_reducible refine' nameC ?zA ?zB ?zC ?zD ?zE ?zF ?_); (case zA => tb_rel); (case zB => tb_rel); (case zC => tb_rel); (case zD => tb_rel); (case zE => tb_rel); (case zF => tb_rel); tbr_iter cStr)
      refine subD (OD0.ofE (by assumption) (by simp)) rfl (by with_unfolding_all rfl) ?_
      cases ha : o.ask with
      | false =>
        rw [ha] at k
        (tbr_iter not_of; tbr_iter wpAny_truthy_bool; tbr_iter wpAny_truthy_bool; ktn_call 1 ifT; tbr_iter after_ret; tbr_iter back_ret)
        exact k _ _ (by ktr_room)
      | true =>
        rw [ha] at k
        (tbr_iter not_of; tbr_iter wpAny_truthy_bool; tbr_iter wpAny_truthy_bool; ktn_call 1 ifF; tbr_iter BoolOp_one; ktn_call 91 Call_; (with_reducible refine' nameG ?zA ?zB ?zC ?zD ?zE ?zF ?_); (case zA => tb_rel); (case zB => tb_rel); (case zC => k_is); (case zD => tb_rel); (case zE => tb_rel); (case zF => tb_rel); (with_reducible refine' callF ?zA ?zB ?zC ?zD ?_); (case zA => tb_rel); (case zB => k_is); (case zC => tb_rel); (case zD => tb_rel); ktn_call 91 args_cons; (with_reducible refine' nameC ?zA ?zB ?zC ?zD ?zE ?zF ?_); (case zA => tb_rel); (case zB => tb_rel); (case zC => tb_rel); (case zD => tb_rel); (case zE => tb_rel); (case zF => tb_rel); ktn_call 91 args_cons; tbr_iter Subscript_; (with_reducible refine' eN ?zA ?zB ?zC ?zD ?zE ?zF ?_); (case zA => tb_rel); (case zB => tb_rel); (case zC => tb_rel); (case zD => tb_rel); (case zE => tb_rel); (case zF => tb_rel); ktn_call 95 eN; tbr_iter cInt; (with_reducible refine' subX ?zx ?zj ?z0 ?zh ?zs ?_); (case zx => tb_rel); (case zj => rfl); (case z0 => decide); (case zh => decide); (case zs => (intro _; with_unfolding_all rfl)); ktn_call 95 rfl; tbr_iter args_nil; (with_reducible refine' And.intro (Fm.G ?zF) ?_; (case zF => assumption)))
        refine key t (by simp only [Ty.dep]; omega) hT (by ktr_room) hA' (by tb_rel) fun h' tk' s' => ?_
        have F' := Fm.up (by assumption) s'
        (tbr_iter after_ret; tbr_iter back_ret)
        exact k _ _ F'.st
end

section
variable {prog : Program} {w : World} {mg mb : Str → Option Value}
theorem is_dropped_spec : ∀ (n : Nat) {A : Around} {E : Value → Shared → Prop} {h : Heap} {g : Array GenState} {d : Drawn} {tk : Nat} {os : OsState} {ov v : Value} {o : OD} {t : Ty} {Q : Value → Shared → Prop}, rk t ≤ n → t.dep ≤ 10 → n ≤ 20 → Cx A (n + 2) → Gd w mg mb h → XT h v (enc t) → OwnIs prog w h ov o → WOk o.W →
    (∀ h' tk', Step w mg mb [] h h' → Q (.bool (nd o.W t)) ⟨h', g, d, tk', os⟩) → wpAny (model prog w) A (call (.ref 231) [ov, v]) Q E ⟨h, g, d, tk, os⟩ := by
  intro n
  induction n using Nat.strongRecOn with
  | ind n ih =>
  intro A E h g d tk os ov v o t Q hn hdep hn20 hA G X OI ok k
  refine' enter [] (fun _ q => nomatch q) (m := upd nom (Str.ofString "thing") v) (cm := upd nom (Str.ofString "own") ov) G hA ?k1 ?k2 ?k3 ?k4 ?k5 ?k6 ?k7 ?k8 ?k9 ?_
  case k1 => k_is
  case k2 => k_is
  case k3 => exact BindsTo.of_eq rfl
  case k4 => rfl
  case k5 => intro _; rfl
  case k6 => intro _; rfl
  case k7 => rfl
  case k8 => rfl
  case k9 => rfl
  intro L h₁ tk₁ E' st F CN hA' NL
  generalize A.deeper _ = A2 at hA' ⊢
  have key : ∀ p, rk p < rk t ∧ p.dep ≤ 10 → ∀ {h' : Heap} {v' : Value} {A : Around} {E : Value → Shared → Prop} {tk : Nat} {Q : Value → Shared → Prop}, Step w mg mb [] h h' → Cx A (n + 1) → XT h' v' (enc p) → (∀ h'' tk', Step w mg mb [] h' h'' → Q (.bool (nd o.W p)) ⟨h'', g, d, tk', os⟩) → wpAny (model prog w) A (call (.ref 231) [ov, v']) Q E ⟨h', g, d, tk, os⟩ :=
    fun p hp h' v' A E tk Q s hA X' k => ih (n - 1) (by omega) (by omega) hp.2 (by omega) (hA.le (by omega)) (s.gd G) X' (OI.up G s) ok k
  refine hideG fun gP kP => ?_; obtain ⟨od, fl, el, cl, dl, bd, fv, ev, cv, dv, rfl, lod, OD0, OLf, Oxf, OLe, Oxe, OLc, Oxc, OLd, Oxd, OB⟩ := OI; refine kP ?_; clear kP gP
  by_cases hk : t.kind = Str.ofString "tuple"
  · have X' : XT h v (.tuple (.str t.kind :: t.rest)) := enc_eq t ▸ X
    rw [hk, rest_tuple hk] at X'
    ((with_reducible refine' yX ?zA ?zB ?zC ?zD ?zE ?zF ?zG ?_); (case zA => tb_rel); (case zB => tb_rel); (case zC => tb_rel); (case zD => tb_rel); (case zE => tb_rel); (case zF => tb_rel); (case zG => tb_rel); intros; tbr_iter xIf0; tbr_iter wpAny_isTrue_BoolOp; tbr_iter wpAny_allTrue_Or_cons; tbr_iter wpAny_isTrue_Compare1; (with_reducible refine' nL ?zA ?zB ?zC ?_); (case zA => tb_rel); (case zB => tb_rel); (case zC => tb_rel); tbr_iter Tuple_; tbr_iter aS; tbr_iter aS1; (with_reducible refine' newTupX ?zA ?zB ?zC ?_); (case zA => tb_rel); (case zB => tb_rel); (case zC => tb_rel); intros; (with_reducible refine' inX ?zA ?zc ?zx ?zs ?zd ?ze ?_); (case zA => assumption); (case zc => tb_rel); (case zx => tb_rel); (case zs => decide +kernel); (case zd => decide +kernel); (case ze => decide +kernel); tbr_iter wpAny_truthy_bool; ktn_call 1 ifF; tbr_iter wpAny_allTrue_Or_cons; tbr_iter wpAny_isTrue_Compare1; (with_reducible refine' nL ?zA ?zB ?zC ?_); (case zA => tb_rel); (case zB => tb_rel); (case zC => tb_rel); tbr_iter Tuple_; tbr_iter aS; tbr_iter aS; ktn_call 91 args_cons; tbr_iter Tuple_; tbr_iter args_nil; (with_reducible refine' newTupX ?zA ?zB ?zC ?_); (case zA => tb_rel); (case zB => tb_rel); (case zC => tb_rel); intros; ktn_call 91 args_cons; tbr_iter Tuple_; tbr_iter args_nil; (with_reducible refine' newTupX ?zA ?zB ?zC ?_); (case zA => tb_rel); (case zB => tb_rel); (case zC => tb_rel); intros; tbr_iter args_nil; (with_reducible refine' newTupX ?zA ?zB ?zC ?_); (case zA => tb_rel); (case zB => tb_rel); (case zC => tb_rel); intros)
    refine eqX (db := enc .L) hA' (X.up (by ktr_room)) (by tb_rel) (enc_shaped t (by omega)) (by decide +kernel) ?_
    rw [eqv_L, decide_eq_false (show t ≠ .L by rintro rfl; exact absurd hk (by decide))]
    clear X
    (tbr_iter wpAny_truthy_bool; ktn_call 1 ifF; tbr_iter wpAny_allTrue_Or_nil; ktn_call 1 ifF; tbr_iter xIf0; (with_reducible refine' tN ?zA ?zB ?zC ?_); (case zA => tb_rel); (case zB => tb_rel); (case zC => tb_rel); ktn_call 1 ifT; tbr_iter xReturn; ktn_call 91 Call_; (with_reducible refine' nameB_any ?zA ?zB ?zC ?zD ?zE ?zF ?_); (case zA => tb_rel); (case zB => tb_rel); (case zC => k_is); (case zD => tb_rel); (case zE => tb_rel); (case zF => tb_rel); ktn_call 2 callB; ktn_call 91 args_cons)
    refine' compT_map (by assumption) ((parts t).map fun p => .bool (nd o.W p)) hA' ?c1 ?c2 ?c3 ?c4 ?c5 ?c6 ?c7 ?_
    (case c1 => rfl); (case c2 => rfl); (case c3 => decide); (case c4 => exact fun _ => rfl); (case c5 => decide); (case c6 => rfl); (case c7 => tb_rel)
    ((with_reducible refine' eN ?zA ?zB ?zC ?zD ?zE ?zF ?_); (case zA => tb_rel); (case zB => tb_rel); (case zC => tb_rel); (case zD => tb_rel); (case zE => tb_rel); (case zF => tb_rel); ktn_call 95 eN)
    rename_i Fc _ y X₂
    refine ⟨_, _, (parts t).map enc, rfl, Fc, X₂, (by simp), (by rw [List.length_map, sizeLine_eq]; have := parts_le t; omega), ?_, ?_⟩
    · intro i v di ei C m' h₂ h₃ tk₃ E3 hdi hei xv st₃ F₃
      obtain ⟨p, hp, rfl⟩ : ∃ p, (parts t)[i]? = some p ∧ enc p = di := by simpa using hdi
      have he : ei = .bool (nd o.W p) := by rw [List.getElem?_map, hp] at hei; cases hei; rfl
      subst he
      (ktn_call 91 Call_; (with_reducible refine' nameG ?zA ?zB ?zC ?zD ?zE ?zF ?_); (case zA => tb_rel); (case zB => tb_rel); (case zC => k_is); (case zD => tb_rel); (case zE => tb_rel); (case zF => tb_rel); (with_reducible refine' callF ?zA ?zB ?zC ?zD ?_); (case zA => tb_rel); (case zB => k_is); (case zC => tb_rel); (case zD => tb_rel); ktn_call 91 args_cons; (with_reducible refine' nameC ?zA ?zB ?zC ?zD ?zE ?zF ?_); (case zA => tb_rel); (case zB => tb_rel); (case zC => tb_rel); (case zD => tb_rel); (case zE => tb_rel); (case zF => tb_rel); (with_reducible refine' aL1 ?zA ?zB ?zC ?_); (case zA => tb_rel); (case zB => tb_rel); (case zC => tb_rel); (with_reducible refine' And.intro (Fm.G ?zF) ?_; (case zF => assumption)))
      refine key p ⟨rk_parts (List.mem_of_getElem? hp) hk, by have := dep_parts (List.mem_of_getElem? hp); omega⟩ (Fc.st.trans st₃) hA' xv fun h' tk' s' => ?_
      exact ⟨_, _, _, rfl, F₃.up s', Reads.bool _⟩
    · intro D vs h' tk' st' F' hL xs
      (tbr_iter args_nil)
      refine anyL (bs := (parts t).map (nd o.W)) F' hA' hL (by rw [List.map_map]; exact xs) fun h'' tk'' s'' F'' => ?_
      have e : ((parts t).map (nd o.W)).any id = nd o.W t := by rw [nd_tup hk, List.any_map]; rfl
      rw [e]
      (tbr_iter after_ret; tbr_iter back_ret)
      exact k _ _ F''.st
  cases t with
  | box t => ((with_reducible refine' yX ?zA ?zB ?zC ?zD ?zE ?zF ?zG ?_); (case zA => tb_rel); (case zB => tb_rel); (case zC => tb_rel); (case zD => tb_rel); (case zE => tb_rel); (case zF => tb_rel); (case zG => tb_rel); intros; tbr_iter xIf0; tbr_iter wpAny_isTrue_BoolOp; tbr_iter wpAny_allTrue_Or_cons; tbr_iter wpAny_isTrue_Compare1; (with_reducible refine' nL ?zA ?zB ?zC ?_); (case zA => tb_rel); (case zB => tb_rel); (case zC => tb_rel); tbr_iter Tuple_; tbr_iter aS; tbr_iter aS1; (with_reducible refine' newTupX ?zA ?zB ?zC ?_); (case zA => tb_rel); (case zB => tb_rel); (case zC => tb_rel); intros; (with_reducible refine' inX ?zA ?zc ?zx ?zs ?zd ?ze ?_); (case zA => assumption); (case zc => tb_rel); (case zx => tb_rel); (case zs => decide +kernel); (case zd => decide +kernel); (case ze => decide +kernel); tbr_iter wpAny_truthy_bool; ktn_call 1 ifT; ktn_call 1 ifT; tbr_iter rB; tbr_iter after_ret; tbr_iter back_ret); exact k _ _ (by ktr_room)
  | prm p => ((with_reducible refine' yX ?zA ?zB ?zC ?zD ?zE ?zF ?zG ?_); (case zA => tb_rel); (case zB => tb_rel); (case zC => tb_rel); (case zD => tb_rel); (case zE => tb_rel); (case zF => tb_rel); (case zG => tb_rel); intros; tbr_iter xIf0; tbr_iter wpAny_isTrue_BoolOp; tbr_iter wpAny_allTrue_Or_cons; tbr_iter wpAny_isTrue_Compare1; (with_reducible refine' nL ?zA ?zB ?zC ?_); (case zA => tb_rel); (case zB => tb_rel); (case zC => tb_rel); tbr_iter Tuple_; tbr_iter aS; tbr_iter aS1; (with_reducible refine' newTupX ?zA ?zB ?zC ?_); (case zA => tb_rel); (case zB => tb_rel); (case zC => tb_rel); intros; (with_reducible refine' inX ?zA ?zc ?zx ?zs ?zd ?ze ?_); (case zA => assumption); (case zc => tb_rel); (case zx => tb_rel); (case zs => decide +kernel); (case zd => decide +kernel); (case ze => decide +kernel); tbr_iter wpAny_truthy_bool; ktn_call 1 ifT; ktn_call 1 ifT; tbr_iter rB; tbr_iter after_ret; tbr_iter back_ret); exact k _ _ (by ktr_room)
  | L =>
    ((with_reducible refine' yX ?zA ?zB ?zC ?zD ?zE ?zF ?zG ?_); (case zA => tb_rel); (case zB => tb_rel); (case zC => tb_rel); (case zD => tb_rel); (case zE => tb_rel); (case zF => tb_rel); (case zG => tb_rel); intros; tbr_iter xIf0; tbr_iter wpAny_isTrue_BoolOp; tbr_iter wpAny_allTrue_Or_cons; tbr_iter wpAny_isTrue_Compare1; (with_reducible refine' nL ?zA ?zB ?zC ?_); (case zA => tb_rel); (case zB => tb_rel); (case zC => tb_rel); tbr_iter Tuple_; tbr_iter aS; tbr_iter aS1; (with_reducible refine' newTupX ?zA ?zB ?zC ?_); (case zA => tb_rel); (case zB => tb_rel); (case zC => tb_rel); intros; (with_reducible refine' inX ?zA ?zc ?zx ?zs ?zd ?ze ?_); (case zA => assumption); (case zc => tb_rel); (case zx => tb_rel); (case zs => decide +kernel); (case zd => decide +kernel); (case ze => decide +kernel); tbr_iter wpAny_truthy_bool; ktn_call 1 ifF; tbr_iter wpAny_allTrue_Or_cons; tbr_iter wpAny_isTrue_Compare1; (with_reducible refine' nL ?zA ?zB ?zC ?_); (case zA => tb_rel); (case zB => tb_rel); (case zC => tb_rel); tbr_iter Tuple_; tbr_iter aS; tbr_iter aS; ktn_call 91 args_cons; tbr_iter Tuple_; tbr_iter args_nil; (with_reducible refine' newTupX ?zA ?zB ?zC ?_); (case zA => tb_rel); (case zB => tb_rel); (case zC => tb_rel); intros; ktn_call 91 args_cons; tbr_iter Tuple_; tbr_iter args_nil; (with_reducible refine' newTupX ?zA ?zB ?zC ?_); (case zA => tb_rel); (case zB => tb_rel); (case zC => tb_rel); intros; tbr_iter args_nil; (with_reducible refine' newTupX ?zA ?zB ?zC ?_); (case zA => tb_rel); (case zB => tb_rel); (case zC => tb_rel); intros)
    refine eqX (db := enc .L) hA' (X.up (by ktr_room)) (by tb_rel) (enc_shaped _ (by omega)) (by decide +kernel) ?_
    rw [eqv_L, decide_eq_true rfl]
    (tbr_iter wpAny_truthy_bool; ktn_call 1 ifT; ktn_call 1 ifT; tbr_iter rB; tbr_iter after_ret; tbr_iter back_ret)
    exact k _ _ (by ktr_room)
  | int b =>
    ((with_reducible refine' yX ?zA ?zB ?zC ?zD ?zE ?zF ?zG ?_); (case zA => tb_rel); (case zB => tb_rel); (case zC => tb_rel); (case zD => tb_rel); (case zE => tb_rel); (case zF => tb_rel); (case zG => tb_rel); intros; tbr_iter xIf0; tbr_iter wpAny_isTrue_BoolOp; tbr_iter wpAny_allTrue_Or_cons; tbr_iter wpAny_isTrue_Compare1; (with_reducible refine' nL ?zA ?zB ?zC ?_); (case zA => tb_rel); (case zB => tb_rel); (case zC => tb_rel); tbr_iter Tuple_; tbr_iter aS; tbr_iter aS1; (with_reducible refine' newTupX ?zA ?zB ?zC ?_); (case zA => tb_rel); (case zB => tb_rel); (case zC => tb_rel); intros; (with_reducible refine' inX ?zA ?zc ?zx ?zs ?zd ?ze ?_); (case zA => assumption); (case zc => tb_rel); (case zx => tb_rel); (case zs => decide +kernel); (case zd => decide +kernel); (case ze => decide +kernel); tbr_iter wpAny_truthy_bool; ktn_call 1 ifF; tbr_iter wpAny_allTrue_Or_cons; tbr_iter wpAny_isTrue_Compare1; (with_reducible refine' nL ?zA ?zB ?zC ?_); (case zA => tb_rel); (case zB => tb_rel); (case zC => tb_rel); tbr_iter Tuple_; tbr_iter aS; tbr_iter aS; ktn_call 91 args_cons; tbr_iter Tuple_; tbr_iter args_nil; (with_reducible refine' newTupX ?zA ?zB ?zC ?_); (case zA => tb_rel); (case zB => tb_rel); (case zC => tb_rel); intros; ktn_call 91 args_cons; tbr_iter Tuple_; tbr_iter args_nil; (with_reducible refine' newTupX ?zA ?zB ?zC ?_); (case zA => tb_rel); (case zB => tb_rel); (case zC => tb_rel); intros; tbr_iter args_nil; (with_reducible refine' newTupX ?zA ?zB ?zC ?_); (case zA => tb_rel); (case zB => tb_rel); (case zC => tb_rel); intros)
    refine eqX (db := enc .L) hA' (X.up (by ktr_room)) (by tb_rel) (enc_shaped _ (by omega)) (by decide +kernel) ?_
    rw [eqv_L, decide_eq_false (show _ ≠ Ty.L from fun e => by cases e)]
    (tbr_iter wpAny_truthy_bool; ktn_call 1 ifF; tbr_iter wpAny_allTrue_Or_nil; ktn_call 1 ifF; (with_reducible refine' iN ?zA ?zB ?zC ?zD ?_); (case zA => tb_rel); (case zB => tb_rel); (case zC => tb_rel); (case zD => tb_rel); (with_reducible refine' iN ?zA ?zB ?zC ?zD ?_); (case zA => tb_rel); (case zB => tb_rel); (case zC => tb_rel); (case zD => tb_rel); tbr_iter xIf0; (with_reducible refine' tNn ?zA ?zB ?zC ?_); (case zA => tb_rel); (case zB => tb_rel); (case zC => tb_rel); ktn_call 1 ifT; tbr_iter rB; tbr_iter after_ret; tbr_iter back_ret)
    exact k _ _ (by ktr_room)
  | bool =>
    ((with_reducible refine' yX ?zA ?zB ?zC ?zD ?zE ?zF ?zG ?_); (case zA => tb_rel); (case zB => tb_rel); (case zC => tb_rel); (case zD => tb_rel); (case zE => tb_rel); (case zF => tb_rel); (case zG => tb_rel); intros; tbr_iter xIf0; tbr_iter wpAny_isTrue_BoolOp; tbr_iter wpAny_allTrue_Or_cons; tbr_iter wpAny_isTrue_Compare1; (with_reducible refine' nL ?zA ?zB ?zC ?_); (case zA => tb_rel); (case zB => tb_rel); (case zC => tb_rel); tbr_iter Tuple_; tbr_iter aS; tbr_iter aS1; (with_reducible refine' newTupX ?zA ?zB ?zC ?_); (case zA => tb_rel); (case zB => tb_rel); (case zC => tb_rel); intros; (with_reducible refine' inX ?zA ?zc ?zx ?zs ?zd ?ze ?_); (case zA => assumption); (case zc => tb_rel); (case zx => tb_rel); (case zs => decide +kernel); (case zd => decide +kernel); (case ze => decide +kernel); tbr_iter wpAny_truthy_bool; ktn_call 1 ifF; tbr_iter wpAny_allTrue_Or_cons; tbr_iter wpAny_isTrue_Compare1; (with_reducible refine' nL ?zA ?zB ?zC ?_); (case zA => tb_rel); (case zB => tb_rel); (case zC => tb_rel); tbr_iter Tuple_; tbr_iter aS; tbr_iter aS; ktn_call 91 args_cons; tbr_iter Tuple_; tbr_iter args_nil; (with_reducible refine' newTupX ?zA ?zB ?zC ?_); (case zA => tb_rel); (case zB => tb_rel); (case zC => tb_rel); intros; ktn_call 91 args_cons; tbr_iter Tuple_; tbr_iter args_nil; (with_reducible refine' newTupX ?zA ?zB ?zC ?_); (case zA => tb_rel); (case zB => tb_rel); (case zC => tb_rel); intros; tbr_iter args_nil; (with_reducible refine' newTupX ?zA ?zB ?zC ?_); (case zA => tb_rel); (case zB => tb_rel); (case zC => tb_rel); intros)
    refine eqX (db := enc .L) hA' (X.up (by ktr_room)) (by tb_rel) (enc_shaped _ (by omega)) (by decide +kernel) ?_
    rw [eqv_L, decide_eq_false (show _ ≠ Ty.L from fun e => by cases e)]
    (tbr_iter wpAny_truthy_bool; ktn_call 1 ifF; tbr_iter wpAny_allTrue_Or_nil; ktn_call 1 ifF; (with_reducible refine' iN ?zA ?zB ?zC ?zD ?_); (case zA => tb_rel); (case zB => tb_rel); (case zC => tb_rel); (case zD => tb_rel); (with_reducible refine' iN ?zA ?zB ?zC ?zD ?_); (case zA => tb_rel); (case zB => tb_rel); (case zC => tb_rel); (case zD => tb_rel); tbr_iter xIf0; (with_reducible refine' tNn ?zA ?zB ?zC ?_); (case zA => tb_rel); (case zB => tb_rel); (case zC => tb_rel); ktn_call 1 ifT; tbr_iter rB; tbr_iter after_ret; tbr_iter back_ret)
    exact k _ _ (by ktr_room)
  | never =>
    ((with_reducible refine' yX ?zA ?zB ?zC ?zD ?zE ?zF ?zG ?_); (case zA => tb_rel); (case zB => tb_rel); (case zC => tb_rel); (case zD => tb_rel); (case zE => tb_rel); (case zF => tb_rel); (case zG => tb_rel); intros; tbr_iter xIf0; tbr_iter wpAny_isTrue_BoolOp; tbr_iter wpAny_allTrue_Or_cons; tbr_iter wpAny_isTrue_Compare1; (with_reducible refine' nL ?zA ?zB ?zC ?_); (case zA => tb_rel); (case zB => tb_rel); (case zC => tb_rel); tbr_iter Tuple_; tbr_iter aS; tbr_iter aS1; (with_reducible refine' newTupX ?zA ?zB ?zC ?_); (case zA => tb_rel); (case zB => tb_rel); (case zC => tb_rel); intros; (with_reducible refine' inX ?zA ?zc ?zx ?zs ?zd ?ze ?_); (case zA => assumption); (case zc => tb_rel); (case zx => tb_rel); (case zs => decide +kernel); (case zd => decide +kernel); (case ze => decide +kernel); tbr_iter wpAny_truthy_bool; ktn_call 1 ifF; tbr_iter wpAny_allTrue_Or_cons; tbr_iter wpAny_isTrue_Compare1; (with_reducible refine' nL ?zA ?zB ?zC ?_); (case zA => tb_rel); (case zB => tb_rel); (case zC => tb_rel); tbr_iter Tuple_; tbr_iter aS; tbr_iter aS; ktn_call 91 args_cons; tbr_iter Tuple_; tbr_iter args_nil; (with_reducible refine' newTupX ?zA ?zB ?zC ?_); (case zA => tb_rel); (case zB => tb_rel); (case zC => tb_rel); intros; ktn_call 91 args_cons; tbr_iter Tuple_; tbr_iter args_nil; (with_reducible refine' newTupX ?zA ?zB ?zC ?_); (case zA => tb_rel); (case zB => tb_rel); (case zC => tb_rel); intros; tbr_iter args_nil; (with_reducible refine' newTupX ?zA ?zB ?zC ?_); (case zA => tb_rel); (case zB => tb_rel); (case zC => tb_rel); intros)
    refine eqX (db := enc .L) hA' (X.up (by ktr_room)) (by tb_rel) (enc_shaped _ (by omega)) (by decide +kernel) ?_
    rw [eqv_L, decide_eq_false (show _ ≠ Ty.L from fun e => by cases e)]
    (tbr_iter wpAny_truthy_bool; ktn_call 1 ifF; tbr_iter wpAny_allTrue_Or_nil; ktn_call 1 ifF; (with_reducible refine' iN ?zA ?zB ?zC ?zD ?_); (case zA => tb_rel); (case zB => tb_rel); (case zC => tb_rel); (case zD => tb_rel); (with_reducible refine' iN ?zA ?zB ?zC ?zD ?_); (case zA => tb_rel); (case zB => tb_rel); (case zC => tb_rel); (case zD => tb_rel); tbr_iter xIf0; (with_reducible refine' tNn ?zA ?zB ?zC ?_); (case zA => tb_rel); (case zB => tb_rel); (case zC => tb_rel); ktn_call 1 ifT; tbr_iter rB; tbr_iter after_ret; tbr_iter back_ret)
    exact k _ _ (by ktr_room)
  | ref r m t =>
    ((with_reducible refine' yX ?zA ?zB ?zC ?zD ?zE ?zF ?zG ?_); (case zA => tb_rel); (case zB => tb_rel); (case zC => tb_rel); (case zD => tb_rel); (case zE => tb_rel); (case zF => tb_rel); (case zG => tb_rel); intros; tbr_iter xIf0; tbr_iter wpAny_isTrue_BoolOp; tbr_iter wpAny_allTrue_Or_cons; tbr_iter wpAny_isTrue_Compare1; (with_reducible refine' nL ?zA ?zB ?zC ?_); (case zA => tb_rel); (case zB => tb_rel); (case zC => tb_rel); tbr_iter Tuple_; tbr_iter aS; tbr_iter aS1; (with_reducible refine' newTupX ?zA ?zB ?zC ?_); (case zA => tb_rel); (case zB => tb_rel); (case zC => tb_rel); intros; (with_reducible refine' inX ?zA ?zc ?zx ?zs ?zd ?ze ?_); (case zA => assumption); (case zc => tb_rel); (case zx => tb_rel); (case zs => decide +kernel); (case zd => decide +kernel); (case ze => decide +kernel); tbr_iter wpAny_truthy_bool; ktn_call 1 ifF; tbr_iter wpAny_allTrue_Or_cons; tbr_iter wpAny_isTrue_Compare1; (with_reducible refine' nL ?zA ?zB ?zC ?_); (case zA => tb_rel); (case zB => tb_rel); (case zC => tb_rel); tbr_iter Tuple_; tbr_iter aS; tbr_iter aS; ktn_call 91 args_cons; tbr_iter Tuple_; tbr_iter args_nil; (with_reducible refine' newTupX ?zA ?zB ?zC ?_); (case zA => tb_rel); (case zB => tb_rel); (case zC => tb_rel); intros; ktn_call 91 args_cons; tbr_iter Tuple_; tbr_iter args_nil; (with_reducible refine' newTupX ?zA ?zB ?zC ?_); (case zA => tb_rel); (case zB => tb_rel); (case zC => tb_rel); intros; tbr_iter args_nil; (with_reducible refine' newTupX ?zA ?zB ?zC ?_); (case zA => tb_rel); (case zB => tb_rel); (case zC => tb_rel); intros)
    refine eqX (db := enc .L) hA' (X.up (by ktr_room)) (by tb_rel) (enc_shaped _ (by omega)) (by decide +kernel) ?_
    rw [eqv_L, decide_eq_false (show _ ≠ Ty.L from fun e => by cases e)]
    (tbr_iter wpAny_truthy_bool; ktn_call 1 ifF; tbr_iter wpAny_allTrue_Or_nil; ktn_call 1 ifF; (with_reducible refine' iN ?zA ?zB ?zC ?zD ?_); (case zA => tb_rel); (case zB => tb_rel); (case zC => tb_rel); (case zD => tb_rel); (with_reducible refine' iN ?zA ?zB ?zC ?zD ?_); (case zA => tb_rel); (case zB => tb_rel); (case zC => tb_rel); (case zD => tb_rel); tbr_iter xIf0; (with_reducible refine' tNn ?zA ?zB ?zC ?_); (case zA => tb_rel); (case zB => tb_rel); (case zC => tb_rel); ktn_call 1 ifT; tbr_iter rB; tbr_iter after_ret; tbr_iter back_ret)
    exact k _ _ (by ktr_room)
  | unit => exact absurd rfl hk
  | pair a b => exact absurd rfl hk
  | arr t =>
    ((with_reducible refine' yX ?zA ?zB ?zC ?zD ?zE ?zF ?zG ?_); (case zA => tb_rel); (case zB => tb_rel); (case zC => tb_rel); (case zD => tb_rel); (case zE => tb_rel); (case zF => tb_rel); (case zG => tb_rel); intros; tbr_iter xIf0; tbr_iter wpAny_isTrue_BoolOp; tbr_iter wpAny_allTrue_Or_cons; tbr_iter wpAny_isTrue_Compare1; (with_reducible refine' nL ?zA ?zB ?zC ?_); (case zA => tb_rel); (case zB => tb_rel); (case zC => tb_rel); tbr_iter Tuple_; tbr_iter aS; tbr_iter aS1; (with_reducible refine' newTupX ?zA ?zB ?zC ?_); (case zA => tb_rel); (case zB => tb_rel); (case zC => tb_rel); intros; (with_reducible refine' inX ?zA ?zc ?zx ?zs ?zd ?ze ?_); (case zA => assumption); (case zc => tb_rel); (case zx => tb_rel); (case zs => decide +kernel); (case zd => decide +kernel); (case ze => decide +kernel); tbr_iter wpAny_truthy_bool; ktn_call 1 ifF; tbr_iter wpAny_allTrue_Or_cons; tbr_iter wpAny_isTrue_Compare1; (with_reducible refine' nL ?zA ?zB ?zC ?_); (case zA => tb_rel); (case zB => tb_rel); (case zC => tb_rel); tbr_iter Tuple_; tbr_iter aS; tbr_iter aS; ktn_call 91 args_cons; tbr_iter Tuple_; tbr_iter args_nil; (with_reducible refine' newTupX ?zA ?zB ?zC ?_); (case zA => tb_rel); (case zB => tb_rel); (case zC => tb_rel); intros; ktn_call 91 args_cons; tbr_iter Tuple_; tbr_iter args_nil; (with_reducible refine' newTupX ?zA ?zB ?zC ?_); (case zA => tb_rel); (case zB => tb_rel); (case zC => tb_rel); intros; tbr_iter args_nil; (with_reducible refine' newTupX ?zA ?zB ?zC ?_); (case zA => tb_rel); (case zB => tb_rel); (case zC => tb_rel); intros)
    refine eqX (db := enc .L) hA' (X.up (by ktr_room)) (by tb_rel) (enc_shaped _ (by omega)) (by decide +kernel) ?_
    rw [eqv_L, decide_eq_false (show _ ≠ Ty.L from fun e => by cases e)]
    (tbr_iter wpAny_truthy_bool; ktn_call 1 ifF; tbr_iter wpAny_allTrue_Or_nil; ktn_call 1 ifF; (with_reducible refine' iN ?zA ?zB ?zC ?zD ?_); (case zA => tb_rel); (case zB => tb_rel); (case zC => tb_rel); (case zD => tb_rel); tbr_iter xIf0; (with_reducible refine' tN ?zA ?zB ?zC ?_); (case zA => tb_rel); (case zB => tb_rel); (case zC => tb_rel); ktn_call 1 ifT; tbr_iter xReturn; ktn_call 91 Call_; (with_reducible refine' nameG ?zA ?zB ?zC ?zD ?zE ?zF ?_); (case zA => tb_rel); (case zB => tb_rel); (case zC => k_is); (case zD => tb_rel); (case zE => tb_rel); (case zF => tb_rel); (with_reducible refine' callF ?zA ?zB ?zC ?zD ?_); (case zA => tb_rel); (case zB => k_is); (case zC => tb_rel); (case zD => tb_rel); ktn_call 91 args_cons; (with_reducible refine' nameC ?zA ?zB ?zC ?zD ?zE ?zF ?_); (case zA => tb_rel); (case zB => tb_rel); (case zC => tb_rel); (case zD => tb_rel); (case zE => tb_rel); (case zF => tb_rel); ktn_call 91 args_cons; (with_reducible refine' eN ?zA ?zB ?zC ?zD ?zE ?zF ?_); (case zA => tb_rel); (case zB => tb_rel); (case zC => tb_rel); (case zD => tb_rel); (case zE => tb_rel); (case zF => tb_rel); ktn_call 95 eN; tbr_iter args_nil; (with_reducible refine' And.intro (Fm.G ?zF) ?_; (case zF => assumption)))
    refine key t ⟨by simp only [rk]; omega, by simp only [Ty.dep] at hdep; omega⟩ (by ktr_room) hA' (by tb_rel) fun h' tk' s' => ?_
    have F' := Fm.up (by assumption) s'
    (tbr_iter after_ret; tbr_iter back_ret)
    exact k _ _ F'.st
  | S =>
    ((with_reducible refine' yX ?zA ?zB ?zC ?zD ?zE ?zF ?zG ?_); (case zA => tb_rel); (case zB => tb_rel); (case zC => tb_rel); (case zD => tb_rel); (case zE => tb_rel); (case zF => tb_rel); (case zG => tb_rel); intros; tbr_iter xIf0; tbr_iter wpAny_isTrue_BoolOp; tbr_iter wpAny_allTrue_Or_cons; tbr_iter wpAny_isTrue_Compare1; (with_reducible refine' nL ?zA ?zB ?zC ?_); (case zA => tb_rel); (case zB => tb_rel); (case zC => tb_rel); tbr_iter Tuple_; tbr_iter aS; tbr_iter aS1; (with_reducible refine' newTupX ?zA ?zB ?zC ?_); (case zA => tb_rel); (case zB => tb_rel); (case zC => tb_rel); intros; (with_reducible refine' inX ?zA ?zc ?zx ?zs ?zd ?ze ?_); (case zA => assumption); (case zc => tb_rel); (case zx => tb_rel); (case zs => decide +kernel); (case zd => decide +kernel); (case ze => decide +kernel); tbr_iter wpAny_truthy_bool; ktn_call 1 ifF; tbr_iter wpAny_allTrue_Or_cons; tbr_iter wpAny_isTrue_Compare1; (with_reducible refine' nL ?zA ?zB ?zC ?_); (case zA => tb_rel); (case zB => tb_rel); (case zC => tb_rel); tbr_iter Tuple_; tbr_iter aS; tbr_iter aS; ktn_call 91 args_cons; tbr_iter Tuple_; tbr_iter args_nil; (with_reducible refine' newTupX ?zA ?zB ?zC ?_); (case zA => tb_rel); (case zB => tb_rel); (case zC => tb_rel); intros; ktn_call 91 args_cons; tbr_iter Tuple_; tbr_iter args_nil; (with_reducible refine' newTupX ?zA ?zB ?zC ?_); (case zA => tb_rel); (case zB => tb_rel); (case zC => tb_rel); intros; tbr_iter args_nil; (with_reducible refine' newTupX ?zA ?zB ?zC ?_); (case zA => tb_rel); (case zB => tb_rel); (case zC => tb_rel); intros)
    refine eqX (db := enc .L) hA' (X.up (by ktr_room)) (by tb_rel) (enc_shaped _ (by omega)) (by decide +kernel) ?_
    rw [eqv_L, decide_eq_false (show _ ≠ Ty.L from fun e => by cases e)]
    (tbr_iter wpAny_truthy_bool; ktn_call 1 ifF; tbr_iter wpAny_allTrue_Or_nil; ktn_call 1 ifF; (with_reducible refine' iN ?zA ?zB ?zC ?zD ?_); (case zA => tb_rel); (case zB => tb_rel); (case zC => tb_rel); (case zD => tb_rel); (with_reducible refine' iN ?zA ?zB ?zC ?zD ?_); (case zA => tb_rel); (case zB => tb_rel); (case zC => tb_rel); (case zD => tb_rel); tbr_iter xIf0; (with_reducible refine' tNn ?zA ?zB ?zC ?_); (case zA => tb_rel); (case zB => tb_rel); (case zC => tb_rel); ktn_call 1 ifF; ktn_call 1 xAssign; tbr_iter wpAny_IfExp; (with_reducible refine' tX ?zA ?zB ?zC ?zD ?zE ?zF ?_); (case zA => tb_rel); (case zB => tb_rel); (case zC => tb_rel); (case zD => tb_rel); (case zE => tb_rel); (case zF => tb_rel); ktn_call 1 ifT; tbr_iter Subscript_; (with_reducible refine' nameC ?zA ?zB ?zC ?zD ?zE ?zF ?_); (case zA => tb_rel); (case zB => tb_rel); (case zC => tb_rel); (case zD => tb_rel); (case zE => tb_rel); (case zF => tb_rel); tbr_iter cStr)
    refine subD (OD0.ofE (by assumption) (by simp)) rfl (by with_unfolding_all rfl) ?_
    (ktn_call 2 sL; intros)
    rename_i hX sX FX
    have fld : ∀ p, p ∈ o.S → rk p < rk .S ∧ p.dep ≤ 10 := fun p hp => ⟨by rw [plain_rk (ok.S p hp)]; decide, by have := (plain_nd (W := o.W) (ok.S p hp)).2.2.2.1; omega⟩
    (tbr_iter xReturn; tbr_iter BoolOp_or; tbr_iter wpAny_Compare1; (with_reducible refine' eNs ?zA ?zB ?zC ?zD ?zE ?zF ?_); (case zA => tb_rel); (case zB => tb_rel); (case zC => tb_rel); (case zD => tb_rel); (case zE => tb_rel); (case zF => tb_rel); intros; tbr_iter Subscript_; (with_reducible refine' nameC ?zA ?zB ?zC ?zD ?zE ?zF ?_); (case zA => tb_rel); (case zB => tb_rel); (case zC => tb_rel); (case zD => tb_rel); (case zE => tb_rel); (case zF => tb_rel); tbr_iter cStr)
    refine subD (OD0.ofE (by assumption) (by simp)) rfl (by with_unfolding_all rfl) ?_
    refine inL hA' (IsList.ofE (by assumption) OLd (by simp)) (Oxd.up (by ktr_room)) (Reads.str _ _) (names_lay _ _) (by decide +kernel) (by decide +kernel) ?_
    rw [show (names o.dS o.dE).any (fun y => PyData.eqv y (.str (Str.ofString "S"))) = o.dS from names_S _ _]
    rw [nd_S] at k
    cases hd : o.dS with
    | true =>
      rw [hd] at k
      (tbr_iter wpAny_truthy_bool; ktn_call 1 ifT; tbr_iter back_ret)
      exact k _ _ (by ktr_room)
    | false =>
      rw [hd] at k
      (tbr_iter wpAny_truthy_bool; ktn_call 1 ifF; tbr_iter BoolOp_one; ktn_call 91 Call_; (with_reducible refine' nameB_any ?zA ?zB ?zC ?zD ?zE ?zF ?_); (case zA => tb_rel); (case zB => tb_rel); (case zC => k_is); (case zD => tb_rel); (case zE => tb_rel); (case zF => tb_rel); ktn_call 2 callB; ktn_call 91 args_cons)
      refine' compE ?c1 ?c2 ?c3 ?c4 ?_
      (case c1 => rfl); (case c2 => rfl); (case c3 => decide); (case c4 => exact fun _ => rfl)
      ((with_reducible refine' nL ?zA ?zB ?zC ?_); (case zA => tb_rel); (case zB => tb_rel); (case zC => tb_rel))
      have xX := Oxf.up FX.st
      refine comp_list (wr := []) FX hA' (IsList.ofE FX OLf (fun q => nomatch q)) (by rw [xX.len, List.length_map, sizeLine_eq]; have := ok.s3; exact Nat.le_trans this (by decide)) (by decide) rfl (by tb_rel) (fun _ q => nomatch q) (CompAt.map (o.S.map fun p => .bool (nd o.W p)) (by rw [xX.len]; simp) ?_ ?_)
      · intro i v ei C m₃ h₃ tk₃ E3 hei hv st₃ hC F₃ hl
        obtain ⟨p, hp, rfl⟩ : ∃ p, o.S[i]? = some p ∧ PyData.bool (nd o.W p) = ei := by simpa only [List.getElem?_map, Option.map_eq_some_iff] using hei
        obtain ⟨v', hv', xv⟩ := (xX.up st₃).at (j := i) (dj := enc p) (by rw [List.getElem?_map, hp]; rfl)
        rw [hv] at hv'; cases hv'
        refine wpAny_assign_Name ?_
        (ktn_call 2 sL; intros; ktn_call 91 Call_; (with_reducible refine' nameG ?zA ?zB ?zC ?zD ?zE ?zF ?_); (case zA => tb_rel); (case zB => tb_rel); (case zC => k_is); (case zD => tb_rel); (case zE => tb_rel); (case zF => tb_rel); (with_reducible refine' callF ?zA ?zB ?zC ?zD ?_); (case zA => tb_rel); (case zB => k_is); (case zC => tb_rel); (case zD => tb_rel); ktn_call 91 args_cons; (with_reducible refine' nameC ?zA ?zB ?zC ?zD ?zE ?zF ?_); (case zA => tb_rel); (case zB => tb_rel); (case zC => tb_rel); (case zD => tb_rel); (case zE => tb_rel); (case zF => tb_rel); (with_reducible refine' aL1 ?zA ?zB ?zC ?_); (case zA => tb_rel); (case zB => tb_rel); (case zC => tb_rel); (with_reducible refine' And.intro (Fm.G ?zF) ?_; (case zF => assumption)))
        rename_i F₄
        refine key p (fld p (List.mem_of_getElem? hp)) (FX.st.trans (st₃.off F₄.st hC)) hA' (by tb_rel) fun h' tk' s' => ?_
        exact ⟨_, _, _, rfl, F₄.up s', Reads.bool _⟩
      · intro D ys h' tk' st' hD h1 hL xs
        have F' := FX.up st'
        (tbr_iter args_nil)
        refine anyL (bs := o.S.map (nd o.W)) F' hA' hL (by rw [List.map_map]; exact xs) fun h'' tk'' s'' F'' => ?_
        rw [show (o.S.map (nd o.W)).any id = o.S.any isBox from by rw [List.any_map]; exact plains_any ok.S]
        (tbr_iter back_ret)
        exact k _ _ F''.st
  | E t =>
    ((with_reducible refine' yX ?zA ?zB ?zC ?zD ?zE ?zF ?zG ?_); (case zA => tb_rel); (case zB => tb_rel); (case zC => tb_rel); (case zD => tb_rel); (case zE => tb_rel); (case zF => tb_rel); (case zG => tb_rel); intros; tbr_iter xIf0; tbr_iter wpAny_isTrue_BoolOp; tbr_iter wpAny_allTrue_Or_cons; tbr_iter wpAny_isTrue_Compare1; (with_reducible refine' nL ?zA ?zB ?zC ?_); (case zA => tb_rel); (case zB => tb_rel); (case zC => tb_rel); tbr_iter Tuple_; tbr_iter aS; tbr_iter aS1; (with_reducible refine' newTupX ?zA ?zB ?zC ?_); (case zA => tb_rel); (case zB => tb_rel); (case zC => tb_rel); intros; (with_reducible refine' inX ?zA ?zc ?zx ?zs ?zd ?ze ?_); (case zA => assumption); (case zc => tb_rel); (case zx => tb_rel); (case zs => decide +kernel); (case zd => decide +kernel); (case ze => decide +kernel); tbr_iter wpAny_truthy_bool; ktn_call 1 ifF; tbr_iter wpAny_allTrue_Or_cons; tbr_iter wpAny_isTrue_Compare1; (with_reducible refine' nL ?zA ?zB ?zC ?_); (case zA => tb_rel); (case zB => tb_rel); (case zC => tb_rel); tbr_iter Tuple_; tbr_iter aS; tbr_iter aS; ktn_call 91 args_cons; tbr_iter Tuple_; tbr_iter args_nil; (with_reducible refine' newTupX ?zA ?zB ?zC ?_); (case zA => tb_rel); (case zB => tb_rel); (case zC => tb_rel); intros; ktn_call 91 args_cons; tbr_iter Tuple_; tbr_iter args_nil; (with_reducible refine' newTupX ?zA ?zB ?zC ?_); (case zA => tb_rel); (case zB => tb_rel); (case zC => tb_rel); intros; tbr_iter args_nil; (with_reducible refine' newTupX ?zA ?zB ?zC ?_); (case zA => tb_rel); (case zB => tb_rel); (case zC => tb_rel); intros)
    refine eqX (db := enc .L) hA' (X.up (by ktr_room)) (by tb_rel) (enc_shaped _ (by omega)) (by decide +kernel) ?_
    rw [eqv_L, decide_eq_false (show _ ≠ Ty.L from fun e => by cases e)]
    (tbr_iter wpAny_truthy_bool; ktn_call 1 ifF; tbr_iter wpAny_allTrue_Or_nil; ktn_call 1 ifF; (with_reducible refine' iN ?zA ?zB ?zC ?zD ?_); (case zA => tb_rel); (case zB => tb_rel); (case zC => tb_rel); (case zD => tb_rel); (with_reducible refine' iN ?zA ?zB ?zC ?zD ?_); (case zA => tb_rel); (case zB => tb_rel); (case zC => tb_rel); (case zD => tb_rel); tbr_iter xIf0; (with_reducible refine' tNn ?zA ?zB ?zC ?_); (case zA => tb_rel); (case zB => tb_rel); (case zC => tb_rel); ktn_call 1 ifF; ktn_call 1 xAssign; tbr_iter wpAny_IfExp; (with_reducible refine' tX ?zA ?zB ?zC ?zD ?zE ?zF ?_); (case zA => tb_rel); (case zB => tb_rel); (case zC => tb_rel); (case zD => tb_rel); (case zE => tb_rel); (case zF => tb_rel); ktn_call 1 ifF; tbr_iter wpAny_BinOp; tbr_iter Subscript_; (with_reducible refine' nameC ?zA ?zB ?zC ?zD ?zE ?zF ?_); (case zA => tb_rel); (case zB => tb_rel); (case zC => tb_rel); (case zD => tb_rel); (case zE => tb_rel); (case zF => tb_rel); tbr_iter cStr)
    refine subD (OD0.ofE (by assumption) (by simp)) rfl (by with_unfolding_all rfl) ?_
    have fld : ∀ p, p ∈ o.E ++ [t] → rk p < rk (.E t) ∧ p.dep ≤ 10 := fun p hp => by
      rcases List.mem_append.mp hp with hp | hp
      · exact ⟨by rw [plain_rk (ok.E p hp)]; simp only [rk]; omega, by have := (plain_nd (W := o.W) (ok.E p hp)).2.2.2.1; omega⟩
      · rw [List.mem_singleton.mp hp]; exact ⟨by simp only [rk]; omega, by simp only [Ty.dep] at hdep; omega⟩
    (tbr_iter List_; ktn_call 91 args_cons; tbr_iter Subscript_; (with_reducible refine' eN ?zA ?zB ?zC ?zD ?zE ?zF ?_); (case zA => tb_rel); (case zB => tb_rel); (case zC => tb_rel); (case zD => tb_rel); (case zE => tb_rel); (case zF => tb_rel); ktn_call 95 eN; tbr_iter cInt; (with_reducible refine' subX ?zx ?zj ?z0 ?zh ?zs ?_); (case zx => tb_rel); (case zj => rfl); (case z0 => decide); (case zh => decide); (case zs => (intro _; with_unfolding_all rfl)); ktn_call 95 rfl; tbr_iter args_nil)
    rename_i F3 _ _ _ yt Xt
    refine newLX F3 (XTs.cons Xt XTs.nil) (Nat.le_of_ble_eq_true rfl) fun l₄ h₄ s₄ F₄ P₄ X₄ _ _ _ _ nn₄ => ?_
    refine addL F₄ (IsList.ofE F₄ OLe (fun q => nomatch q)) P₄.isList (by rw [Oxe.len, List.length_map, sizeLine_eq]; have : o.E.length ≤ 2 := ok.e2; simp; omega) fun l₅ h₅ s₅ F₅ P₅ g₅ nn₅ => ?_
    (ktn_call 2 sL; intros)
    rename_i hX sX FX
    have LI := (PL.up F₅.G sX P₅ (fun q => (F₄.newI nn₅).1 (List.mem_singleton.mp q))).isList
    have XI : XTs hX (ev ++ [yt]) ((o.E ++ [t]).map enc) := by rw [List.map_append]; exact XTs.app (Oxe.up FX.st) ((X₄.up s₅).up sX)
    have XX := X.up FX.st
    clear F₄ s₄ P₄ X₄ F₅ s₅ P₅ F3
    (tbr_iter xReturn; tbr_iter BoolOp_or; tbr_iter wpAny_Compare1; (with_reducible refine' eNs ?zA ?zB ?zC ?zD ?zE ?zF ?_); (case zA => tb_rel); (case zB => tb_rel); (case zC => tb_rel); (case zD => tb_rel); (case zE => tb_rel); (case zF => tb_rel); intros; tbr_iter Subscript_; (with_reducible refine' nameC ?zA ?zB ?zC ?zD ?zE ?zF ?_); (case zA => tb_rel); (case zB => tb_rel); (case zC => tb_rel); (case zD => tb_rel); (case zE => tb_rel); (case zF => tb_rel); tbr_iter cStr)
    refine subD (OD0.ofE (by assumption) (by simp)) rfl (by with_unfolding_all rfl) ?_
    refine inL hA' (IsList.ofE (by assumption) OLd (by simp)) (Oxd.up (by ktr_room)) (Reads.str _ _) (names_lay _ _) (by decide +kernel) (by decide +kernel) ?_
    rw [show (names o.dS o.dE).any (fun y => PyData.eqv y (.str (Str.ofString "E"))) = o.dE from names_E _ _]
    rw [nd_E] at k
    cases hd : o.dE with
    | true =>
      rw [hd] at k
      (tbr_iter wpAny_truthy_bool; ktn_call 1 ifT; tbr_iter back_ret)
      exact k _ _ (by ktr_room)
    | false =>
      rw [hd] at k
      (tbr_iter wpAny_truthy_bool; ktn_call 1 ifF; tbr_iter BoolOp_one; ktn_call 91 Call_; (with_reducible refine' nameB_any ?zA ?zB ?zC ?zD ?zE ?zF ?_); (case zA => tb_rel); (case zB => tb_rel); (case zC => k_is); (case zD => tb_rel); (case zE => tb_rel); (case zF => tb_rel); ktn_call 2 callB; ktn_call 91 args_cons)
      refine' compE ?c1 ?c2 ?c3 ?c4 ?_
      (case c1 => rfl); (case c2 => rfl); (case c3 => decide); (case c4 => exact fun _ => rfl)
      ((with_reducible refine' nL ?zA ?zB ?zC ?_); (case zA => tb_rel); (case zB => tb_rel); (case zC => tb_rel))
      have xX := XI
      refine comp_list (wr := []) FX hA' LI (by rw [xX.len, List.length_map, sizeLine_eq]; have : o.E.length ≤ 2 := ok.e2; simp; omega) (by decide) rfl (by tb_rel) (fun _ q => nomatch q) (CompAt.map ((o.E ++ [t]).map fun p => .bool (nd o.W p)) (by rw [xX.len]; simp) ?_ ?_)
      · intro i v ei C m₃ h₃ tk₃ E3 hei hv st₃ hC F₃ hl
        obtain ⟨p, hp, rfl⟩ : ∃ p, (o.E ++ [t])[i]? = some p ∧ PyData.bool (nd o.W p) = ei := by simpa only [List.getElem?_map, Option.map_eq_some_iff] using hei
        obtain ⟨v', hv', xv⟩ := (xX.up st₃).at (j := i) (dj := enc p) (by rw [List.getElem?_map, hp]; rfl)
        rw [hv] at hv'; cases hv'
        refine wpAny_assign_Name ?_
        (ktn_call 2 sL; intros; ktn_call 91 Call_; (with_reducible refine' nameG ?zA ?zB ?zC ?zD ?zE ?zF ?_); (case zA => tb_rel); (case zB => tb_rel); (case zC => k_is); (case zD => tb_rel); (case zE => tb_rel); (case zF => tb_rel); (with_reducible refine' callF ?zA ?zB ?zC ?zD ?_); (case zA => tb_rel); (case zB => k_is); (case zC => tb_rel); (case zD => tb_rel); ktn_call 91 args_cons; (with_reducible refine' nameC ?zA ?zB ?zC ?zD ?zE ?zF ?_); (case zA => tb_rel); (case zB => tb_rel); (case zC => tb_rel); (case zD => tb_rel); (case zE => tb_rel); (case zF => tb_rel); (with_reducible refine' aL1 ?zA ?zB ?zC ?_); (case zA => tb_rel); (case zB => tb_rel); (case zC => tb_rel); (with_reducible refine' And.intro (Fm.G ?zF) ?_; (case zF => assumption)))
        rename_i F₄
        refine key p (fld p (List.mem_of_getElem? hp)) (FX.st.trans (st₃.off F₄.st hC)) hA' (by tb_rel) fun h' tk' s' => ?_
        exact ⟨_, _, _, rfl, F₄.up s', Reads.bool _⟩
      · intro D ys h' tk' st' hD h1 hL xs
        have F' := FX.up st'
        (tbr_iter args_nil)
        refine anyL (bs := (o.E ++ [t]).map (nd o.W)) F' hA' hL (by rw [List.map_map]; exact xs) fun h'' tk'' s'' F'' => ?_
        rw [show ((o.E ++ [t]).map (nd o.W)).any id = (nd o.W t || o.E.any isBox) from by rw [List.any_map, Function.comp_def, List.any_append]; simp only [id]; rw [show (o.E.any fun x => nd o.W x) = o.E.any isBox from plains_any ok.E, Bool.or_comm]; simp]
        (tbr_iter back_ret)
        exact k _ _ F''.st
end

section
variable {prog : Program} {w : World} {mg mb : Str → Option Value}
theorem fields_one_spec {A : Around} {E : Value → Shared → Prop} {h : Heap} {g : Array GenState} {d : Drawn} {tk : Nat} {os : OsState} {v wv : Value} {t : Ty} {k : Nat} {u : Tok} {n : Nat} {Q : Value → Shared → Prop} (hA : Cx A (n + 20)) (G : Gd w mg mb h) (X : XT h v (.tuple [sty "tuple", .tuple [enc t]]))
    (q : ∀ h' tk' l, ∀ rs : List Value, Step w mg mb [] h h' → h'.IsList l rs.toArray → XTs h' rs (rowsOf [t]) → Q (.ref l) ⟨h', g, d, tk', os⟩) : wpAny (model prog w) A (call (.ref 90) [v, .int k u, wv]) Q E ⟨h, g, d, tk, os⟩ := by
  refine' enter [] (fun _ q => nomatch q) (m := upd (upd (upd nom (Str.ofString "told") v) (Str.ofString "variant") (.int k u)) (Str.ofString "world") wv) (cm := nom) G hA ?k1 ?k2 ?k3 ?k4 ?k5 ?k6 ?k7 ?k8 ?k9 ?_
  case k1 => k_is
  case k2 => k_is
  case k3 => exact BindsTo.of_eq rfl
  case k4 => rfl
  case k5 => intro _; rfl
  case k6 => intro _; rfl
  case k7 => rfl
  case k8 => rfl
  case k9 => rfl
  intro L h₁ tk₁ E' st F CN hA' NL
  generalize A.deeper _ = A2 at hA' ⊢
  (tbr_iter xIf0; (with_reducible refine' tX ?zA ?zB ?zC ?zD ?zE ?zF ?_); (case zA => tb_rel); (case zB => tb_rel); (case zC => tb_rel); (case zD => tb_rel); (case zE => tb_rel); (case zF => tb_rel); ktn_call 1 ifT; tbr_iter xReturn)
  refine' compEn (by assumption) hA' ?c1 ?c2 ?c3 ?c4 ?c5 ?c6 ?_
  (case c1 => rfl); (case c2 => rfl); (case c3 => decide); (case c4 => exact fun _ => rfl); (case c5 => decide); (case c6 => tb_rel)
  (ktn_call 91 Call_; (with_reducible refine' nameB_enumerate ?zA ?zB ?zC ?zD ?zE ?zF ?_); (case zA => tb_rel); (case zB => tb_rel); (case zC => k_is); (case zD => tb_rel); (case zE => tb_rel); (case zF => tb_rel); ktn_call 2 callT; ktn_call 91 args_cons; (with_reducible refine' eN ?zA ?zB ?zC ?zD ?zE ?zF ?_); (case zA => tb_rel); (case zB => tb_rel); (case zC => tb_rel); (case zD => tb_rel); (case zE => tb_rel); (case zF => tb_rel); ktn_call 95 eN; tbr_iter args_nil)
  rename_i y X₂
  refine hideG fun gP kP => ?_; obtain ⟨t0, vs, rfl, hT, xs⟩ := X₂.tup; refine kP ?_; clear kP gP
  refine callEn (.inl hT) fun xv s₁ hE => ⟨_, _, hE, by assumption, ?_, CompAt.map (rowsOf [t]) ?_ ?_ ?_⟩
  · rw [xs.len]; exact Nat.le_of_ble_eq_true rfl
  · rw [xs.len, rows_len]; rfl
  · rintro i v ei C m₃ h₃ tk₃ E3 hei ⟨T, u, x, rfl, hx, hT₃⟩ st₃ hC F₃ hl
    refine hideG fun gP kP => ?_; obtain ⟨p, hp, rfl⟩ := rows_get hei; refine kP ?_; clear kP gP
    obtain ⟨x', hx', xx⟩ := (xs.up st₃).at (j := i) (dj := enc p) (by
      match i, hp with
      | 0, hp => cases hp; rfl
      | i + 1, hp => simp at hp)
    rw [hx] at hx'; cases hx'
    have hi : i < 1000 := by
      have h1 := (List.getElem?_eq_some_iff.mp hp).1
      simp at h1; omega
    refine asg2 F₃ hA' hT₃ fun h₄ st₄ F₄ => ?_
    (ktn_call 2 sL; intros; ktn_call 2 sL; intros; tbr_iter Tuple_; ktn_call 91 args_cons; ktn_call 91 Call_; (with_reducible refine' nameB_str ?zA ?zB ?zC ?zD ?zE ?zF ?_); (case zA => tb_rel); (case zB => tb_rel); (case zC => k_is); (case zD => tb_rel); (case zE => tb_rel); (case zF => tb_rel); ktn_call 2 callT; (with_reducible refine' aL1 ?zA ?zB ?zC ?_); (case zA => tb_rel); (case zB => tb_rel); (case zC => tb_rel))
    refine strI hi ?_
    ((with_reducible refine' aL1 ?zA ?zB ?zC ?_); (case zA => tb_rel); (case zB => tb_rel); (case zC => tb_rel); (with_reducible refine' newTupX ?zA ?zB ?zC ?_); (case zA => tb_rel); (case zB => tb_rel); (case zC => tb_rel); intros)
    exact ⟨_, _, _, rfl, by assumption, by tb_rel⟩
  · intro D ys h' tk' st' hD h1 hL xs
    exact q _ _ _ _ ((by ktr_room : Step w mg mb [] _ _).trans st') hL xs
/-- what is due of a row: fields_of tells fs -/
def FldFor (prog : Program) (w : World) (mg mb : Str → Option Value) (L : List Addr) (h hb : Heap) (wv vw : Value) (k : Nat) (fs : List Ty) : Prop :=
  ∀ {hh : Heap}, Step w mg mb L hb hh → Step w mg mb [] h hh → ∀ {A : Around} {E : Value → Shared → Prop} {g : Array GenState} {d : Drawn} {tk : Nat} {os : OsState} {u : Tok} {Q : Value → Shared → Prop}, Cx A 20 →
    (∀ h' tk' l, ∀ rs : List Value, Step w mg mb [] hh h' → h'.IsList l rs.toArray → XTs h' rs (rowsOf fs) → Q (.ref l) ⟨h', g, d, tk', os⟩) → wpAny (model prog w) A (call (.ref 90) [vw, .int k u, wv]) Q E ⟨hh, g, d, tk, os⟩
theorem fields_right_spec {A : Around} {E : Value → Shared → Prop} {h : Heap} {g : Array GenState} {d : Drawn} {tk : Nat} {os : OsState} {ov wv v : Value} {o : OD} {t : Ty} {Q : Value → Shared → Prop} (hA : Cx A 21) (G : Gd w mg mb h) (X : XT h v (enc t)) (ht : t.dep ≤ 8) (OI : OwnIs prog w h ov o) (WI : WorldIs prog w h wv o.W) (ok : WOk o.W)
    (k : ∀ h' tk', Step w mg mb [] h h' → Q (.bool true) ⟨h', g, d, tk', os⟩) : wpAny (model prog w) A (call (.ref 236) [ov, wv, v]) Q E ⟨h, g, d, tk, os⟩ := by
  refine' enter [] (fun _ q => nomatch q) (m := upd (upd (upd nom (Str.ofString "own") ov) (Str.ofString "around") wv) (Str.ofString "thing") v) (cm := nom) G hA ?k1 ?k2 ?k3 ?k4 ?k5 ?k6 ?k7 ?k8 ?k9 ?_
  case k1 => k_is
  case k2 => k_is
  case k3 => exact BindsTo.of_eq rfl
  case k4 => rfl
  case k5 => intro _; rfl
  case k6 => intro _; rfl
  case k7 => rfl
  case k8 => rfl
  case k9 => rfl
  intro L h₁ tk₁ E' st F CN hA' NL
  generalize A.deeper _ = A2 at hA' ⊢
  refine hideG fun gP kP => ?_; obtain ⟨od, fl, el, cl, dl, bd, fv, ev, cv, dv, rfl, lod, OD0, OLf, Oxf, OLe, Oxe, -⟩ := OI; refine kP ?_; clear kP gP
  (ktn_call 1 xAssign; tbr_iter List_; ktn_call 91 args_cons; tbr_iter Tuple_; ktn_call 91 args_cons; tbr_iter Tuple_; tbr_iter aS; tbr_iter aS; ktn_call 91 args_cons; tbr_iter Tuple_; tbr_iter args_nil; (with_reducible refine' newTupX ?zA ?zB ?zC ?_); (case zA => tb_rel); (case zB => tb_rel); (case zC => tb_rel); intros; ktn_call 91 args_cons; tbr_iter Tuple_; tbr_iter args_nil; (with_reducible refine' newTupX ?zA ?zB ?zC ?_); (case zA => tb_rel); (case zB => tb_rel); (case zC => tb_rel); intros; tbr_iter args_nil; (with_reducible refine' newTupX ?zA ?zB ?zC ?_); (case zA => tb_rel); (case zB => tb_rel); (case zC => tb_rel); intros; ktn_call 91 args_cons; tbr_iter cInt; ktn_call 91 args_cons; tbr_iter Subscript_; (with_reducible refine' nL ?zA ?zB ?zC ?_); (case zA => tb_rel); (case zB => tb_rel); (case zC => tb_rel); tbr_iter cStr)
  refine subD (OD0.ofE (by assumption) (by simp)) rfl (by with_unfolding_all rfl) ?_
  (tbr_iter args_nil)
  rename_i _ _ _ _ _ _ _ _ _ _ va ha sa Fa Xa
  refine newTup Fa (Nat.le_of_ble_eq_true rfl) fun ta h₂ s₂ F₂ T₂ => ?_
  (ktn_call 91 args_cons; tbr_iter Tuple_; ktn_call 91 args_cons; tbr_iter Tuple_; tbr_iter aS; tbr_iter aS; ktn_call 91 args_cons; tbr_iter Tuple_; tbr_iter args_nil; (with_reducible refine' newTupX ?zA ?zB ?zC ?_); (case zA => tb_rel); (case zB => tb_rel); (case zC => tb_rel); intros; ktn_call 91 args_cons; tbr_iter Tuple_; (with_reducible refine' aL1 ?zA ?zB ?zC ?_); (case zA => tb_rel); (case zB => tb_rel); (case zC => tb_rel); (with_reducible refine' newTupX ?zA ?zB ?zC ?_); (case zA => tb_rel); (case zB => tb_rel); (case zC => tb_rel); intros; tbr_iter args_nil; (with_reducible refine' newTupX ?zA ?zB ?zC ?_); (case zA => tb_rel); (case zB => tb_rel); (case zC => tb_rel); intros; ktn_call 91 args_cons; tbr_iter cInt; ktn_call 91 args_cons; tbr_iter Subscript_; (with_reducible refine' nL ?zA ?zB ?zC ?_); (case zA => tb_rel); (case zB => tb_rel); (case zC => tb_rel); tbr_iter cStr)
  refine subD (OD0.ofE (by assumption) (by simp)) rfl (by with_unfolding_all rfl) ?_
  (tbr_iter args_nil)
  rename_i vb hb sb Fb Xb
  refine newTup Fb (Nat.le_of_ble_eq_true rfl) fun tb h₃ s₃ F₃ T₃ => ?_
  (tbr_iter args_nil)
  refine newLn F₃ (Nat.le_of_ble_eq_true rfl) fun l₄ h₄ s₄ F₄ P₄ _ _ nl₄ _ nn₄ => ?_
  (ktn_call 2 sL; intros)
  rename_i h₅ s₅ F₅
  have P₅ := PL.up F₄.G s₅ P₄ (fun q => nl₄ (List.mem_singleton.mp q))
  have X₅ := X.up F₅.st
  (ktn_call 1 xAssign; tbr_iter wpAny_BinOp; (with_reducible refine' nL ?zA ?zB ?zC ?_); (case zA => tb_rel); (case zB => tb_rel); (case zC => tb_rel); tbr_iter List_; ktn_call 91 args_cons; tbr_iter Tuple_; ktn_call 91 args_cons; tbr_iter Tuple_; tbr_iter aS; ktn_call 91 args_cons; tbr_iter Tuple_; (with_reducible refine' aL1 ?zA ?zB ?zC ?_); (case zA => tb_rel); (case zB => tb_rel); (case zC => tb_rel); (with_reducible refine' newTupX ?zA ?zB ?zC ?_); (case zA => tb_rel); (case zB => tb_rel); (case zC => tb_rel); intros; tbr_iter args_nil; (with_reducible refine' newTupX ?zA ?zB ?zC ?_); (case zA => tb_rel); (case zB => tb_rel); (case zC => tb_rel); intros; ktn_call 91 args_cons; tbr_iter cInt; ktn_call 91 args_cons; tbr_iter List_; (with_reducible refine' aL1 ?zA ?zB ?zC ?_); (case zA => tb_rel); (case zB => tb_rel); (case zC => tb_rel))
  rename_i vc hc sc Fc Xc
  refine newLX (ds := [enc t]) Fc (XTs.cons (X.up Fc.st) XTs.nil) (Nat.le_of_ble_eq_true rfl) fun l₆ h₆ s₆ F₆ P₆ X₆ _ _ nl₆ _ _ => ?_
  have L₆ := P₆.isList
  (tbr_iter args_nil)
  refine newTup F₆ (Nat.le_of_ble_eq_true rfl) fun tc h₇ s₇ F₇ T₇ => ?_
  (ktn_call 91 args_cons; tbr_iter Tuple_; ktn_call 91 args_cons; tbr_iter Tuple_; tbr_iter aS; tbr_iter aS; ktn_call 91 args_cons; tbr_iter Tuple_; tbr_iter args_nil; (with_reducible refine' newTupX ?zA ?zB ?zC ?_); (case zA => tb_rel); (case zB => tb_rel); (case zC => tb_rel); intros; ktn_call 91 args_cons; tbr_iter Tuple_; (with_reducible refine' aL1 ?zA ?zB ?zC ?_); (case zA => tb_rel); (case zB => tb_rel); (case zC => tb_rel); (with_reducible refine' newTupX ?zA ?zB ?zC ?_); (case zA => tb_rel); (case zB => tb_rel); (case zC => tb_rel); intros; tbr_iter args_nil; (with_reducible refine' newTupX ?zA ?zB ?zC ?_); (case zA => tb_rel); (case zB => tb_rel); (case zC => tb_rel); intros; ktn_call 91 args_cons; tbr_iter cInt; ktn_call 91 args_cons; tbr_iter List_; (with_reducible refine' aL1 ?zA ?zB ?zC ?_); (case zA => tb_rel); (case zB => tb_rel); (case zC => tb_rel))
  rename_i vd hd' sd Fd Xd
  refine newLX (ds := [enc t]) Fd (XTs.cons (X.up Fd.st) XTs.nil) (Nat.le_of_ble_eq_true rfl) fun l₈ h₈ s₈ F₈ P₈ X₈ _ _ nl₈ _ _ => ?_
  have L₈ := P₈.isList
  (tbr_iter args_nil)
  refine newTup F₈ (Nat.le_of_ble_eq_true rfl) fun td h₉ s₉ F₉ T₉ => ?_
  (tbr_iter args_nil)
  refine newLn F₉ (Nat.le_of_ble_eq_true rfl) fun l₁₀ h₁₀ s₁₀ F₁₀ P₁₀ _ _ _ _ _ => ?_
  have L₁₀ : h₁₀.IsList l₄ ([.ref ta, .ref tb] : List Value).toArray := by
    have L₅ := P₅.isList
    tb_rel
  refine addL F₁₀ L₁₀ P₁₀.isList (Nat.le_of_ble_eq_true rfl) fun lr h₁₁ s₁₁ F₁₁ P₁₁ _ nn₁₁ => ?_
  (ktn_call 2 sL; intros)
  rename_i h₁₂ s₁₂ F₁₂
  have P₁₂ := PL.up F₁₁.G s₁₂ P₁₁ (fun q => (F₁₀.newI nn₁₁).1 (List.mem_singleton.mp q))
  obtain ⟨k1, Ta⟩ : ∃ tok, IsTup h₁₂ ta #[va, .int ((0 : Nat) : Int) tok, .ref fl] := ⟨_, by tb_rel⟩
  obtain ⟨k2, Tb⟩ : ∃ tok, IsTup h₁₂ tb #[vb, .int ((1 : Nat) : Int) tok, .ref el] := ⟨_, by tb_rel⟩
  obtain ⟨k3, Tc⟩ : ∃ tok, IsTup h₁₂ tc #[vc, .int ((0 : Nat) : Int) tok, .ref l₆] := ⟨_, by tb_rel⟩
  obtain ⟨k4, Td⟩ : ∃ tok, IsTup h₁₂ td #[vd, .int ((0 : Nat) : Int) tok, .ref l₈] := ⟨_, by tb_rel⟩
  have xa : XT h₁₂ va (enc .S) := by tb_rel
  have xb : XT h₁₂ vb (enc (.E t)) := by tb_rel
  have xc : XT h₁₂ vc (.tuple [sty "tuple", .tuple [enc t]]) := by tb_rel
  have xd : XT h₁₂ vd (enc (.E t)) := by tb_rel
  have Lc : h₁₂.IsList l₆ ([v] : List Value).toArray := by tb_rel
  have Ld : h₁₂.IsList l₈ ([v] : List Value).toArray := by tb_rel
  have yc : XTs h₁₂ [v] ([t].map enc) := XTs.cons (X.up F₁₂.st) XTs.nil
  have td8 : t.dep ≤ 10 := by omega
  have hE10 : (Ty.E t).dep ≤ 12 := by simp only [Ty.dep]; omega
  have row : ∀ (i : Nat) (v' : Value), ([.ref ta, .ref tb] ++ [.ref tc, .ref td] : List Value)[i]? = some v' → ∃ tt, ∃ vw : Value, ∃ k : Nat, ∃ tok due fs, ∃ dv : List Value, v' = .ref tt ∧ IsTup h₁₂ tt #[vw, .int (k : Int) tok, .ref due] ∧ h₁₂.IsList due dv.toArray ∧ XTs h₁₂ dv (fs.map enc) ∧ fs.length ≤ 3 ∧ (∀ f ∈ fs, f.dep ≤ 12) ∧ FldFor prog w mg mb [L] h h₁₂ wv vw k fs := by
    intro i v' hv
    match i, hv with
    | 0, hv =>
      cases hv
      refine hideG fun gP kP => ?_; obtain ⟨f1, _, f3⟩ := vars_ok ok (t := .S) (k := 0) (fs := o.S) rfl; refine kP ?_; clear kP gP
      refine ⟨ta, va, 0, _, fl, o.S, fv, rfl, Ta, IsList.ofE F₁₂ OLf (fun q => nomatch q), Oxf.up F₁₂.st, f1, fun f hf => by have := (f3 f hf).1; omega, fun {hh} s sw {A E g d tk os u Q} hA k => ?_⟩
      refine fields_of_spec (n := 0) (t := .S) hA (sw.gd G) (xa.up s) (WI.up G sw) (fun _ => ⟨rfl, by show o.S.length ≤ 10; omega, f3⟩) (by decide) fun h' tk' l rs st hl xr => k _ _ _ _ st hl ?_
      rwa [show fieldsOf o.W .S 0 = o.S by unfold fieldsOf; rw [if_neg (by decide)]; exact plains_sub ok.S none] at xr
    | 1, hv =>
      cases hv
      refine hideG fun gP kP => ?_; obtain ⟨f1, _, f3⟩ := vars_ok ok (t := .E t) (k := 1) (fs := o.E) rfl; refine kP ?_; clear kP gP
      refine ⟨tb, vb, 1, _, el, o.E, ev, rfl, Tb, IsList.ofE F₁₂ OLe (fun q => nomatch q), Oxe.up F₁₂.st, f1, fun f hf => by have := (f3 f hf).1; omega, fun {hh} s sw {A E g d tk os u Q} hA k => ?_⟩
      refine fields_of_spec (n := 0) (t := .E t) hA (sw.gd G) (xb.up s) (WI.up G sw) (fun _ => ⟨rfl, by show o.E.length ≤ 10; omega, f3⟩) (by decide) fun h' tk' l rs st hl xr => k _ _ _ _ st hl ?_
      rwa [show fieldsOf o.W (.E t) 1 = o.E by unfold fieldsOf; rw [if_neg (show ¬(Ty.E t).kind = Str.ofString "tuple" from (show Str.ofString "adt" ≠ Str.ofString "tuple" by decide))]; exact plains_sub ok.E _] at xr
    | 2, hv =>
      cases hv
      exact ⟨tc, vc, 0, _, l₆, [t], [v], rfl, Tc, Lc, yc, Nat.le_of_ble_eq_true rfl, fun f hf => by rw [List.mem_singleton.mp hf]; omega, fun {hh} s sw {A E g d tk os u Q} hA k => fields_one_spec (n := 0) hA (sw.gd G) (xc.up s) k⟩
    | 3, hv =>
      cases hv
      refine hideG fun gP kP => ?_; obtain ⟨f1, _, f3⟩ := vars_ok ok (t := .E t) (k := 0) (fs := [.prm .T]) rfl; refine kP ?_; clear kP gP
      refine ⟨td, vd, 0, _, l₈, [t], [v], rfl, Td, Ld, yc, Nat.le_of_ble_eq_true rfl, fun f hf => by rw [List.mem_singleton.mp hf]; omega, fun {hh} s sw {A E g d tk os u Q} hA k => ?_⟩
      exact fields_of_spec (n := 0) (t := .E t) hA (sw.gd G) (xd.up s) (WI.up G sw) (fun _ => ⟨rfl, by decide, f3⟩) (by decide) fun h' tk' l rs st hl xr => k _ _ _ _ st hl xr
    | i + 4, hv => simp at hv
  have X₁₂ := X.up F₁₂.st
  clear Ta Tb Tc Td xa xb xc xd Lc Ld yc OLf Oxf OLe Oxe OD0 F₁₁ F₁₀ F₉ F₈ F₇ F₆ F₅ F₄ F₃ F₂ Fa Fb Fc Fd s₂ s₃ s₄ s₅ s₆ s₇ s₈ s₉ s₁₀ s₁₁ s₁₂ sa sb sc sd T₂ T₃ T₇ T₉ P₄ P₅ P₆ P₈ P₁₀ P₁₁ L₆ L₈ L₁₀ X₆ X₈ Xa Xb Xc Xd X₅
  refine' xForL (wr := []) ?hF [Str.ofString "whole", Str.ofString "variant", Str.ofString "due"] [] hA' ?hs ?_
  case hF => exact F₁₂
  case hs => exact fun _ => rfl
  ((with_reducible refine' nL ?zA ?zB ?zC ?_); (case zA => tb_rel); (case zB => tb_rel); (case zC => tb_rel))
  refine ⟨h₁₂, _, lr, _, rfl, rfl, F₁₂, P₁₂.isList, (fun q => nomatch q), (fun _ q => nomatch q), fun _ _ => True, trivial, (fun _ _ _ _ _ _ _ => trivial), ?_, ?_⟩
  · rintro i v' u h₁₃ tk₁₃ E3 hv - st₁₃ Fo F₁₃
    refine hideG fun gP kP => ?_; obtain ⟨tt, vw, kk, tok, due, fs, dv, rfl, Tt, Ld, xd, hl3, hd12, FF⟩ := row i v' hv; refine kP ?_; clear kP gP
    have ndl : due ∉ [Env.locals _] := fun q => list_ne_locals F₁₂ Ld (List.mem_singleton.mp q)
    have Ld₃ := IsList.up F₁₂.G st₁₃ Ld ndl
    have xd₃ := xd.up st₁₃
    refine asg3 F₁₃ hA' (IsTup.up st₁₃ Tt) fun h₁₄ s₁₄ F₁₄ => ?_
    (ktn_call 2 sL; intros)
    (ktn_call 2 sL; intros)
    (ktn_call 2 sL; intros)
    rename_i ha sa Fa hb sb Fb hc sc Fc
    (tbr_iter xIf0; tbr_iter wpAny_isTrue_Compare1; ktn_call 91 Call_; (with_reducible refine' nameG ?zA ?zB ?zC ?zD ?zE ?zF ?_); (case zA => tb_rel); (case zB => tb_rel); (case zC => k_is); (case zD => tb_rel); (case zE => tb_rel); (case zF => tb_rel); (with_reducible refine' callF ?zA ?zB ?zC ?zD ?_); (case zA => tb_rel); (case zB => k_is); (case zC => tb_rel); (case zD => tb_rel); (with_reducible refine' aL ?zA ?zB ?zC ?_); (case zA => tb_rel); (case zB => tb_rel); (case zC => tb_rel); (with_reducible refine' aL ?zA ?zB ?zC ?_); (case zA => tb_rel); (case zB => tb_rel); (case zC => tb_rel); (with_reducible refine' aL1 ?zA ?zB ?zC ?_); (case zA => tb_rel); (case zB => tb_rel); (case zC => tb_rel); (with_reducible refine' And.intro (Fm.G ?zF) ?_; (case zF => assumption)))
    refine FF (st₁₃.trans Fc.st) (Fo.jn Fc).st hA' fun h₁₅ tk₁₅ l rs s₁₅ L₁₅ x₁₅ => ?_
    have F₁₅ := Fc.up s₁₅
    have Ld₅ := IsList.up F₁₃.G F₁₅.st Ld₃ ndl
    have xd₅ := xd₃.up F₁₅.st
    clear F₁₄ Fa Fb
    refine' compEn F₁₅ hA' ?c1 ?c2 ?c3 ?c4 ?c5 ?c6 ?_
    (case c1 => rfl); (case c2 => rfl); (case c3 => decide); (case c4 => exact fun _ => rfl); (case c5 => decide); (case c6 => tb_rel)
    (ktn_call 91 Call_; (with_reducible refine' nameB_enumerate ?zA ?zB ?zC ?zD ?zE ?zF ?_); (case zA => tb_rel); (case zB => tb_rel); (case zC => k_is); (case zD => tb_rel); (case zE => tb_rel); (case zF => tb_rel); ktn_call 2 callT; (with_reducible refine' aL1 ?zA ?zB ?zC ?_); (case zA => tb_rel); (case zB => tb_rel); (case zC => tb_rel))
    refine callEn (.inr Ld₅) fun xv s₁ hE => ⟨_, _, hE, F₁₅, ?_, CompAt.map (rowsOf fs) ?_ ?_ ?_⟩
    · rw [xd₅.len, List.length_map, sizeLine_eq]; omega
    · rw [xd₅.len, rows_len, List.length_map]
    · rintro i v ei C m₃ h₃ tk₃ E3 hei ⟨T, u, x, rfl, hx, hT₃⟩ st₃ hC F₃ hl
      refine hideG fun gP kP => ?_; obtain ⟨p, hp, rfl⟩ := rows_get hei; refine kP ?_; clear kP gP
      obtain ⟨x', hx', xx⟩ := (xd₅.up st₃).at (j := i) (dj := enc p) (by rw [List.getElem?_map, hp]; rfl)
      rw [hx] at hx'; cases hx'
      have hi : i < 1000 := by
        have h1 := (List.getElem?_eq_some_iff.mp hp).1
        omega
      refine asg2 F₃ hA' hT₃ fun h₄ st₄ F₄ => ?_
      (ktn_call 2 sL; intros; ktn_call 2 sL; intros; tbr_iter Tuple_; ktn_call 91 args_cons; ktn_call 91 Call_; (with_reducible refine' nameB_str ?zA ?zB ?zC ?zD ?zE ?zF ?_); (case zA => tb_rel); (case zB => tb_rel); (case zC => k_is); (case zD => tb_rel); (case zE => tb_rel); (case zF => tb_rel); ktn_call 2 callT; (with_reducible refine' aL1 ?zA ?zB ?zC ?_); (case zA => tb_rel); (case zB => tb_rel); (case zC => tb_rel))
      refine strI hi ?_
      ((with_reducible refine' aL1 ?zA ?zB ?zC ?_); (case zA => tb_rel); (case zB => tb_rel); (case zC => tb_rel); (with_reducible refine' newTupX ?zA ?zB ?zC ?_); (case zA => tb_rel); (case zB => tb_rel); (case zC => tb_rel); intros)
      exact ⟨_, _, _, rfl, by assumption, by tb_rel⟩
    · intro D ys h' tk' st' hD h1 hL xs
      have F₁₆ := F₁₅.up st'
      refine neL hA' (IsList.up F₁₅.G st' L₁₅ (fun q => nomatch q)) (x₁₅.up st') hL xs (rows_shaped (by omega) hd12) (rows_shaped (by omega) hd12) ?_
      rw [SeqAt.eqvAll_refl _ (rows_lay (by omega))]
      (tbr_iter wpAny_truthy_bool; ktn_call 1 ifF; tbr_iter xNil; tbr_iter turn_next)
      exact ⟨_, _, _, rfl, F₁₆, by tb_rel, trivial⟩
  · rintro u h' tk' - st' F'
    have X' := X.up F'.st
    (tbr_iter xReturn; tbr_iter wpAny_Compare1; ktn_call 91 Call_; (with_reducible refine' nameG ?zA ?zB ?zC ?zD ?zE ?zF ?_); (case zA => tb_rel); (case zB => tb_rel); (case zC => k_is); (case zD => tb_rel); (case zE => tb_rel); (case zF => tb_rel); (with_reducible refine' callF ?zA ?zB ?zC ?zD ?_); (case zA => tb_rel); (case zB => k_is); (case zC => tb_rel); (case zD => tb_rel); ktn_call 91 args_cons; tbr_iter Tuple_; tbr_iter aS; (with_reducible refine' aL1 ?zA ?zB ?zC ?_); (case zA => tb_rel); (case zB => tb_rel); (case zC => tb_rel); (with_reducible refine' newTupX ?zA ?zB ?zC ?_); (case zA => tb_rel); (case zB => tb_rel); (case zC => tb_rel); intros; ktn_call 91 args_cons; tbr_iter cInt; (with_reducible refine' aL1 ?zA ?zB ?zC ?_); (case zA => tb_rel); (case zB => tb_rel); (case zC => tb_rel); (with_reducible refine' And.intro (Fm.G ?zF) ?_; (case zF => assumption)))
    refine fields_of_spec (n := 0) (t := .box t) (fs := []) hA' (Fm.G (by assumption)) (by tb_rel) (WI.up G (by ktr_room)) (fun hk => absurd hk (show Str.ofString "box" ≠ Str.ofString "adt" by decide)) (by decide) fun h'' tk'' l rs st'' hl xr => ?_
    have F'' := Fm.up (by assumption) st''
    rw [show fieldsOf o.W (.box t) 0 = [] from rfl] at xr
    (tbr_iter List_; tbr_iter args_nil; (with_reducible refine' newLn ?zF ?zs ?_); (case zF => assumption); (case zs => decide))
    intro l₂ h₂₀ st₂₀ F₂₀ P₂₀ _ _ _ _ _
    (skip)
    refine eqL hA' (IsList.up F''.G st₂₀ hl (fun q => nomatch q)) (xr.up st₂₀) P₂₀.isList (vb := []) XTs.nil (by decide +kernel) (by decide +kernel) ?_
    (tbr_iter back_ret)
    exact k _ _ F₂₀.st
end

theorem gd_of {p : Program} {loose : List Str} {mean : ExcName → Option Value} {w : World} {mg mb : Str → Option Value} {h : Heap} (X : (hd.heap_1 w.params).In h) (T : Top p loose mean mg mb h) (tab : h.get? 87 = some (tabObj #[])) : Gd w mg mb h := by
  refine hideG fun gP kP => ?_; obtain ⟨mc, l1, l2⟩ := T.nolimit; refine kP ?_; clear kP gP
  refine hideG fun gP kP => ?_; obtain ⟨mc', d1, d2⟩ := T.nodigits; refine kP ?_; clear kP gP
  refine ⟨X, T.g, T.b, ⟨mc, l1, l2, ?_⟩, T.builtins, ?_, size_of_K X, .inl tab⟩
  · refine hideG fun gP kP => ?_; obtain ⟨o, es, ep, e, hd, r⟩ := l1; refine kP ?_; clear kP gP
    refine hideG fun gP kP => ?_; obtain ⟨o', es', ep', e', hd', r'⟩ := d1; refine kP ?_; clear kP gP
    rw [e] at e'; cases e'
    rw [hd] at hd'; cases hd'
    rw [← r.2, r'.2]; exact d2
  · refine hideG fun gP kP => ?_; obtain ⟨bm, ob, a, b, c⟩ := T.bmain; refine kP ?_; clear kP gP
    refine ⟨bm, ob, a, b, ?_, c⟩
    have e := mg_of (n := Str.ofString "__builtins__") X T.g (by k_is)
    rw [a] at e
    cases e; decide
theorem ints_len {vs : List Value} {is : List Int} (h : IntsAre vs is) : vs.length = is.length := by
  induction h with
  | nil => rfl
  | cons n t _ ih => simp [ih]
theorem ints_all {vs : List Value} {is : List Int} (h : IntsAre vs is) : ∀ v ∈ vs, ∃ i t, v = .int i t := by
  induction h with
  | nil => exact fun _ q => nomatch q
  | cons n t _ ih =>
    intro v hv
    rcases List.mem_cons.mp hv with rfl | hv
    · exact ⟨n, t, rfl⟩
    · exact ih v hv
theorem grown {w : World} {mg mb : Str → Option Value} {h : Heap} (G : Gd w mg mb h) : GrownAt 87 h := by
  rcases G.tab with e | ⟨l, c, c', e, _⟩ <;> exact ⟨_, e⟩
section
variable {prog : Program} {w : World} {mg mb : Str → Option Value}
theorem law_spec {A : Around} {R : Result → Shared → Prop} {h : Heap} {g : Array GenState} {d : Drawn} {tk : Nat} {os : OsState} {sl : Addr} {vs : List Value} (hA : Cx A 40) (G : Gd w mg mb h) (S : h.IsList sl vs.toArray) (hi : ∀ v ∈ vs, ∃ i t, v = .int i t) (hl : vs.length ≤ 63)
    (k : ∀ h' tk', Step w mg mb [] h h' → R (.ok (.ret (.bool true))) ⟨h', g, d, tk', os⟩) : codeAny (model prog w) A (.call (.ref 241) ⟨[.ref sl], []⟩) R ⟨h, g, d, tk, os⟩ := by
  refine' enterC [] (fun _ q => nomatch q) (m := upd nom (Str.ofString "script") (.ref sl)) (cm := nom) G hA ?k1 ?k2 ?k3 ?k4 ?k5 ?k6 ?k7 ?k8 ?k9 ?_
  case k1 => k_is
  case k2 => k_is
  case k3 => exact BindsTo.of_eq rfl
  case k4 => rfl
  case k5 => intro _; rfl
  case k6 => intro _; rfl
  case k7 => rfl
  case k8 => rfl
  case k9 => rfl
  intro L h₁ tk₁ E' st F CN hA' NL
  generalize A.deeper _ = A2 at hA' ⊢
  (ktn_call 1 xAssign; ktn_call 91 Call_; (with_reducible refine' nameG ?zA ?zB ?zC ?zD ?zE ?zF ?_); (case zA => tb_rel); (case zB => tb_rel); (case zC => k_is); (case zD => tb_rel); (case zE => tb_rel); (case zF => tb_rel); (with_reducible refine' callF ?zA ?zB ?zC ?zD ?_); (case zA => tb_rel); (case zB => k_is); (case zC => tb_rel); (case zD => tb_rel); (with_reducible refine' aL ?zA ?zB ?zC ?_); (case zA => tb_rel); (case zB => tb_rel); (case zC => tb_rel); tbr_iter aI1; (with_reducible refine' And.intro (Fm.G ?zF) ?_; (case zF => assumption)))
  refine pool_spec (hA'.le (by omega)) F.G (IsList.ofE F S (fun q => nomatch q)) hi hl fun l h₂ tk₂ s₂ S₂ nl₂ => ?_
  have F₂ := F.up s₂
  have nli := F.newI nl₂
  refine stC F₂ CN rfl rfl rfl fun h₃ s₃ F₃ => ?_
  have S₃ := S₂.up F₂.G s₃ (fun q => (SrcAt.nl F₂ S₂).2 (Str.ofString "source") _ rfl (List.mem_singleton.mp q).symm)
  clear F₂ s₂ S₂
  (ktn_call 1 xAssign; ktn_call 91 Call_; (with_reducible refine' nameG ?zA ?zB ?zC ?zD ?zE ?zF ?_); (case zA => tb_rel); (case zB => tb_rel); (case zC => k_is); (case zD => tb_rel); (case zE => tb_rel); (case zF => tb_rel); (with_reducible refine' callF ?zA ?zB ?zC ?zD ?_); (case zA => tb_rel); (case zB => k_is); (case zC => tb_rel); (case zD => tb_rel); ktn_call 91 args_cons; (with_reducible refine' nameC ?zA ?zB ?zC ?zD ?zE ?zF ?_); (case zA => tb_rel); (case zB => tb_rel); (case zC => tb_rel); (case zD => tb_rel); (case zE => tb_rel); (case zF => tb_rel); tbr_iter args_nil; (with_reducible refine' And.intro (Fm.G ?zF) ?_; (case zF => assumption)))
  refine begun_spec (hA'.le (by omega)) F₃.G S₃ fun ov o h₄ tk₄ ok s₄ S₄ OI₄ => ?_
  have F₄ := F₃.upD s₄ nli.2.1.symm nli.1 nli.2.2
  (ktn_call 2 sL; intros)
  rename_i h₅ s₅ F₅
  have S₅ := S₄.up F₄.G s₅ (fun q => nli.1 (List.mem_singleton.mp q))
  have OI₅ := OI₄.upS F₄.G s₅ (safeL F₄ ⟨rfl, rfl, rfl, rfl, rfl⟩)
  clear S₃ S₄ OI₄ F₃ F₄
  (ktn_call 1 xAssign; ktn_call 91 Call_; (with_reducible refine' nameG ?zA ?zB ?zC ?zD ?zE ?zF ?_); (case zA => tb_rel); (case zB => tb_rel); (case zC => k_is); (case zD => tb_rel); (case zE => tb_rel); (case zF => tb_rel); (with_reducible refine' callF ?zA ?zB ?zC ?zD ?_); (case zA => tb_rel); (case zB => k_is); (case zC => tb_rel); (case zD => tb_rel); (with_reducible refine' aL1 ?zA ?zB ?zC ?_); (case zA => tb_rel); (case zB => tb_rel); (case zC => tb_rel); (with_reducible refine' And.intro (Fm.G ?zF) ?_; (case zF => assumption)))
  refine world_spec (hA'.le (by omega)) F₅.G OI₅ ok fun wv h₆ tk₆ s₆ WI₆ => ?_
  have F₆ := F₅.up s₆
  have OI₆ := OI₅.up F₅.G s₆
  have S₆ := S₅.up F₅.G s₆ (fun q => nomatch q)
  refine stC F₆ CN rfl rfl rfl fun h₇ s₇ F₇ => ?_
  have OI₇ := OI₆.upS F₆.G s₇ (safeC F₆ (n := Str.ofString "around") rfl)
  have WI₇ := WI₆.upS F₆.G s₇ (safeC F₆ (n := Str.ofString "around") rfl)
  have S₇ := S₆.up F₆.G s₇ (fun q => (SrcAt.nl F₆ S₆).2 (Str.ofString "around") _ rfl (List.mem_singleton.mp q).symm)
  clear OI₅ OI₆ S₅ S₆ WI₆ F₅ F₆
  have B₇ := F₇.base []
  (ktn_call 1 xAssign)
  refine' dictE ?zF ?a ?b ?c ?d ?_
  (case zF => exact B₇)
  (case a => rfl)
  (case b => rfl)
  (case c => exact List.cons_ne_nil _ _)
  (case d => exact Nat.le_of_ble_eq_true rfl)
  intro bo h₈ s₈ F₈ D₈ gbo nbo
  have nbi := B₇.newI nbo
  have B₈ := F₈.base []
  (tbr_iter pairTrees_cons_walk; tbr_iter cStr; tbr_iter Tuple_; tbr_iter aS; tbr_iter aS; ktn_call 91 args_cons; tbr_iter Tuple_; tbr_iter args_nil; (with_reducible refine' newTupX ?zA ?zB ?zC ?_); (case zA => tb_rel); (case zB => tb_rel); (case zC => tb_rel); intros; ktn_call 91 args_cons; tbr_iter Tuple_; tbr_iter args_nil; (with_reducible refine' newTupX ?zA ?zB ?zC ?_); (case zA => tb_rel); (case zB => tb_rel); (case zC => tb_rel); intros; tbr_iter args_nil; (with_reducible refine' newTupX ?zA ?zB ?zC ?_); (case zA => tb_rel); (case zB => tb_rel); (case zC => tb_rel); intros; tbr_iter pairTrees_cons_walk; tbr_iter cStr; tbr_iter Tuple_; tbr_iter aS; tbr_iter aS; ktn_call 91 args_cons; tbr_iter Tuple_; tbr_iter args_nil; (with_reducible refine' newTupX ?zA ?zB ?zC ?_); (case zA => tb_rel); (case zB => tb_rel); (case zC => tb_rel); intros; ktn_call 91 args_cons; tbr_iter Tuple_; ktn_call 91 args_cons; tbr_iter Tuple_; tbr_iter aS1; (with_reducible refine' newTupX ?zA ?zB ?zC ?_); (case zA => tb_rel); (case zB => tb_rel); (case zC => tb_rel); intros; tbr_iter args_nil; (with_reducible refine' newTupX ?zA ?zB ?zC ?_); (case zA => tb_rel); (case zB => tb_rel); (case zC => tb_rel); intros; tbr_iter args_nil; (with_reducible refine' newTupX ?zA ?zB ?zC ?_); (case zA => tb_rel); (case zB => tb_rel); (case zC => tb_rel); intros; tbr_iter pairTrees_nil_walk)
  rename_i _ _ _ _ _ _ _ _ _ _ vS hS sS FS xS _ _ _ _ _ _ _ _ _ _ _ _ _ _ _ vE hE sE FE xE
  have nbj := F₇.newI nbo
  refine ⟨_, _, rfl, rfl, (by show List.Nodup [Str.ofString "S", Str.ofString "E"]; decide), D₈.ofE FE (fun q => nbi.1 (List.mem_singleton.mp q)), fun h₉ s₉ D₉ => ?_⟩
  replace D₉ : Dct prog w h₉ bo [(Str.ofString "S", vS), (Str.ofString "E", vE)] := D₉
  have F7E := F₈.jn FE
  have s79 := Step.off F7E.st s₉ nbo
  have F₉ := (F₇.jn F7E).upD s₉ nbj.2.1.symm nbj.1 nbj.2.2
  have OI₉ := OI₇.upS F₇.G s79 (safeL F₇ ⟨rfl, rfl, rfl, rfl, rfl⟩)
  have WI₉ := WI₇.upS F₇.G s79 (safeL F₇ ⟨rfl, rfl, rfl, rfl, rfl⟩)
  have S₉ := S₇.up F₇.G s79 (fun q => nli.1 (List.mem_singleton.mp q))
  have xS₉ : XT h₉ vS (enc .S) := XT.up s₉ (by tb_rel)
  have xE₉ : XT h₉ vE (enc (.E .bool)) := xE.up s₉
  refine stC F₉ CN rfl rfl rfl fun h₁₀ s₁₀ F₁₀ => ?_
  have OI₁₀ := OI₉.upS F₉.G s₁₀ (safeC F₉ (n := Str.ofString "both") rfl)
  have WI₁₀ := WI₉.upS F₉.G s₁₀ (safeC F₉ (n := Str.ofString "both") rfl)
  have S₁₀ := S₉.up F₉.G s₁₀ (fun q => (SrcAt.nl F₉ S₉).2 (Str.ofString "both") _ rfl (List.mem_singleton.mp q).symm)
  have D₁₀ := D₉.up F₉.G s₁₀ (dct_cell (n := Str.ofString "both") F₉ D₉ rfl)
  have xS₁₀ := xS₉.up s₁₀
  have xE₁₀ := xE₉.up s₁₀
  clear OI₇ OI₉ WI₇ WI₉ S₇ S₉ D₈ D₉ xS₉ xE₉ xS xE F₇ F₈ B₇ B₈ FS FE F7E F₉ sS sE s₉ s₁₀ s79 s₈
  have B₁₀ := F₁₀.base []
  (ktn_call 1 xAssign; tbr_iter List_; ktn_call 91 args_cons; tbr_iter Tuple_; tbr_iter aS; ktn_call 91 args_cons; tbr_iter cNone; ktn_call 91 args_cons; tbr_iter cBool; ktn_call 91 args_cons; tbr_iter Tuple_; tbr_iter aS1; (with_reducible refine' newTupX ?zA ?zB ?zC ?_); (case zA => tb_rel); (case zB => tb_rel); (case zC => tb_rel); intros; tbr_iter args_nil; (with_reducible refine' newTupX ?zA ?zB ?zC ?_); (case zA => tb_rel); (case zB => tb_rel); (case zC => tb_rel); intros; ktn_call 91 args_cons; tbr_iter Subscript_; (with_reducible refine' nameC ?zA ?zB ?zC ?zD ?zE ?zF ?_); (case zA => tb_rel); (case zB => tb_rel); (case zC => tb_rel); (case zD => tb_rel); (case zE => tb_rel); (case zF => tb_rel); tbr_iter cStr)
  refine subD (D₁₀.ofE (by assumption) (fun q => nbj.1 (List.mem_singleton.mp q))) rfl (by with_unfolding_all rfl) ?_
  (ktn_call 91 args_cons; tbr_iter Subscript_; (with_reducible refine' nameC ?zA ?zB ?zC ?zD ?zE ?zF ?_); (case zA => tb_rel); (case zB => tb_rel); (case zC => tb_rel); (case zD => tb_rel); (case zE => tb_rel); (case zF => tb_rel); tbr_iter cStr)
  refine subD (D₁₀.ofE (by assumption) (fun q => nbj.1 (List.mem_singleton.mp q))) rfl (by with_unfolding_all rfl) ?_
  (ktn_call 91 args_cons; tbr_iter Tuple_; tbr_iter aS; tbr_iter aS; ktn_call 91 args_cons; tbr_iter Tuple_; tbr_iter args_nil; (with_reducible refine' newTupX ?zA ?zB ?zC ?_); (case zA => tb_rel); (case zB => tb_rel); (case zC => tb_rel); intros; ktn_call 91 args_cons; tbr_iter Tuple_; ktn_call 91 args_cons; tbr_iter Tuple_; tbr_iter aS; ktn_call 91 args_cons; tbr_iter Tuple_; tbr_iter aS1; (with_reducible refine' newTupX ?zA ?zB ?zC ?_); (case zA => tb_rel); (case zB => tb_rel); (case zC => tb_rel); intros; tbr_iter args_nil; (with_reducible refine' newTupX ?zA ?zB ?zC ?_); (case zA => tb_rel); (case zB => tb_rel); (case zC => tb_rel); intros; tbr_iter args_nil; (with_reducible refine' newTupX ?zA ?zB ?zC ?_); (case zA => tb_rel); (case zB => tb_rel); (case zC => tb_rel); intros; tbr_iter args_nil; (with_reducible refine' newTupX ?zA ?zB ?zC ?_); (case zA => tb_rel); (case zB => tb_rel); (case zC => tb_rel); intros; tbr_iter args_nil)
  refine' newLX (ds := [enc (.ref false true .bool), enc .S, enc (.E .bool), enc (.E (.box .bool))]) ?zF ?zx ?zs ?_
  case zF => assumption
  case zx => tb_rel
  case zs => exact Nat.le_of_ble_eq_true rfl
  intro fl h₁₁ s₁₁ F₁₁ P₁₁ X₁₁ _ _ nf₁₁ _ nn₁₁
  (ktn_call 2 sL; intros)
  rename_i h₁₂ s₁₂ F₁₂
  have FJ := F₁₀.jn F₁₂
  have sf₁₀ := safeL F₁₀ ⟨rfl, rfl, rfl, rfl, rfl⟩
  have OI₁₂ := OI₁₀.upS F₁₀.G F₁₂.st sf₁₀
  have WI₁₂ := WI₁₀.upS F₁₀.G F₁₂.st sf₁₀
  have S₁₂ := S₁₀.up F₁₀.G F₁₂.st (fun q => nli.1 (List.mem_singleton.mp q))
  have D₁₂ := D₁₀.up F₁₀.G F₁₂.st (fun q => nbj.1 (List.mem_singleton.mp q))
  have xS₁₂ := xS₁₀.up F₁₂.st
  have xE₁₂ := xE₁₀.up F₁₂.st
  have Lf₁₂ := (PL.up F₁₁.G s₁₂ P₁₁ (fun q => nf₁₁ (List.mem_singleton.mp q))).isList
  have X₁₂ := X₁₁.up s₁₂
  clear OI₁₀ WI₁₀ S₁₀ D₁₀ xS₁₀ xE₁₀ P₁₁ X₁₁ F₁₁ F₁₂ F₁₀ B₁₀ s₁₁ s₁₂ sf₁₀
  refine' xForL (wr := []) ?hF [Str.ofString "thing"] [] hA' ?hs ?_
  case hF => exact FJ
  case hs => exact fun _ => rfl
  (tbr_iter wpAny_BinOp)
  refine' compE ?c1 ?c2 ?c3 ?c4 ?_
  (case c1 => rfl); (case c2 => rfl); (case c3 => decide); (case c4 => exact fun _ => rfl)
  (ktn_call 91 Call_; (with_reducible refine' nameB_range ?zA ?zB ?zC ?zD ?zE ?zF ?_); (case zA => tb_rel); (case zB => tb_rel); (case zC => k_is); (case zD => tb_rel); (case zE => tb_rel); (case zF => tb_rel); ktn_call 2 callT; tbr_iter aI1)
  refine callRange (k := 6) FJ rfl fun rr u' v' h₁₃ tk₁₃ s₁₃ F₁₃ R₁₃ => ?_
  have S₁₃ := S₁₂.up FJ.G s₁₃ (fun q => nomatch q)
  refine comp_range (wr := [l]) F₁₃ hA' R₁₃ (rgOk (by decide)) (Nat.le_of_ble_eq_true rfl) (by decide) rfl (by tb_rel) ?_ ?_
  · intro a ha
    rw [List.mem_singleton.mp ha]
    refine hideG fun gP kP => ?_; obtain ⟨_, _, _, _, _, o, e, _⟩ := S₁₃; refine kP ?_; clear kP gP
    exact ⟨⟨o, e⟩, nli.2.2⟩
  refine ⟨fun _ o => ∃ t : Ty, (t.dep ≤ 5 ∧ noT t = true) ∧ o = some (enc t), fun h => SrcAt h l ∧ Gd w mg mb h, ⟨S₁₃, F₁₃.G⟩, ?_, ?_, ?_⟩
  · rintro L ha hb st hL ⟨Sa, Ga⟩
    refine ⟨Sa.up Ga st fun q => ?_, st.gd Ga⟩
    refine hideG fun gP kP => ?_; obtain ⟨_, _, _, _, _, o, e, _⟩ := S₁₃; refine kP ?_; clear kP gP
    rw [hL l q] at e; cases e
  · rintro i v C m₃ h₃ tk₃ E3 hi ⟨ti, rfl⟩ ⟨Sa, Ga⟩ st₄ hC F₄ hl'
    refine hideG fun gP kP => ?_; obtain ⟨nl', nc'⟩ := Sa.nl F₄; refine kP ?_; clear kP gP
    refine wpAny_assign_Name ?_
    (ktn_call 2 sL; intros)
    refine wpAny_tests_nil ?_
    simp only [if_true]
    (ktn_call 91 Call_; (with_reducible refine' nameG ?zA ?zB ?zC ?zD ?zE ?zF ?_); (case zA => tb_rel); (case zB => tb_rel); (case zC => k_is); (case zD => tb_rel); (case zE => tb_rel); (case zF => tb_rel); (with_reducible refine' callF ?zA ?zB ?zC ?zD ?_); (case zA => tb_rel); (case zB => k_is); (case zC => tb_rel); (case zD => tb_rel); ktn_call 91 args_cons; (with_reducible refine' nameC ?zA ?zB ?zC ?zD ?zE ?zF ?_); (case zA => tb_rel); (case zB => tb_rel); (case zC => tb_rel); (case zD => tb_rel); (case zE => tb_rel); (case zF => tb_rel); tbr_iter aI1; (with_reducible refine' And.intro (Fm.G ?zF) ?_; (case zF => assumption)))
    refine type_spec 3 rfl (hA'.le (by omega)) (Fm.G (by assumption)) (by tb_rel) fun y t h₅ tk₅ hd hn s₅ S₅ x₅ => ?_
    have F₅ := Fm.upD (by assumption) s₅ (.inr (by simp)) nl' nc'
    (skip)
    exact ⟨_, _, _, enc t, rfl, F₅, x₅, ⟨t, ⟨hd, hn⟩, rfl⟩, S₅, F₅.G⟩
  intro D ys os' h₁₄ tk₁₄ hlen hR ⟨S₁₄, _⟩ st₁₄ nD gD LD xD
  refine hideG fun gP kP => ?_; obtain ⟨ts, ts1, ts2, ts3⟩ := os_of hR; refine kP ?_; clear kP gP
  rw [ts3] at xD
  have F₁₄ := F₁₃.upD st₁₄ nli.2.1.symm nli.1 nli.2.2
  have s1214 := (s₁₃.mono (wr' := [l]) (fun _ q => nomatch q)).trans st₁₄
  have sf₁₂ := safeS S₁₂
  have OI₁₄ := OI₁₂.upS FJ.G s1214 sf₁₂
  have WI₁₄ := WI₁₂.upS FJ.G s1214 sf₁₂
  have D₁₄ := Dct.upS FJ.G s1214 sf₁₂ D₁₂ (.inl rfl)
  have xS₁₄ := xS₁₂.up s1214
  have xE₁₄ := xE₁₂.up s1214
  have Lf₁₄ := IsList.upS FJ.G s1214 sf₁₂ Lf₁₂ (hd_xts X₁₂ fun d r e i => by cases e; exact fun q => nomatch q)
  have X₁₄ := X₁₂.up s1214
  clear hR ts3 OI₁₂ WI₁₂ D₁₂ xS₁₂ xE₁₂ Lf₁₂ X₁₂ S₁₂ S₁₃ FJ F₁₃ s₁₃ st₁₄ s1214 sf₁₂
  ((with_reducible refine' nL ?zA ?zB ?zC ?_); (case zA => tb_rel); (case zB => tb_rel); (case zC => tb_rel))
  refine addL F₁₄ LD Lf₁₄ (by rw [xD.len, List.length_map, ts1, hlen]; exact Nat.le_of_ble_eq_true rfl) fun lr h₁₅ s₁₅ F₁₅ P₁₅ glr nlr => ?_
  have OI₁₅ := OI₁₄.up F₁₄.G s₁₅
  have WI₁₅ := WI₁₄.up F₁₄.G s₁₅
  have D₁₅ := D₁₄.up F₁₄.G s₁₅ (fun q => nomatch q)
  have xS₁₅ := xS₁₄.up s₁₅
  have xE₁₅ := xE₁₄.up s₁₅
  have X₁₅ := XTs.app (xD.up s₁₅) (X₁₄.up s₁₅)
  rw [show ts.map enc ++ [enc (.ref false true .bool), enc .S, enc (.E .bool), enc (.E (.box .bool))] = (ts ++ ([.ref false true .bool, .S, .E .bool, .E (.box .bool)] : List Ty)).map enc by rw [List.map_append]; rfl] at X₁₅
  have tsA : ∀ t ∈ ts ++ ([.ref false true .bool, .S, .E .bool, .E (.box .bool)] : List Ty), t.dep ≤ 5 ∧ noT t = true := by
    intro t ht
    rcases List.mem_append.mp ht with ht | ht
    · exact ts2 t ht
    · simp only [List.mem_cons, List.not_mem_nil, or_false] at ht
      rcases ht with rfl | rfl | rfl | rfl <;> exact ⟨by decide, rfl⟩
  generalize ts ++ ([.ref false true .bool, .S, .E .bool, .E (.box .bool)] : List Ty) = tt at X₁₅ tsA
  generalize ys ++ [_, _, _, _] = vv at X₁₅ P₁₅ ⊢
  clear OI₁₄ WI₁₄ D₁₄ xS₁₄ xE₁₄ Lf₁₄ X₁₄ F₁₄ s₁₅ LD xD ts1 ts2 S₁₄
  refine ⟨h₁₅, _, lr, vv, rfl, rfl, F₁₅, P₁₅.isList, (fun q => nomatch q), (fun _ q => nomatch q), fun _ _ => True, trivial, (fun _ _ _ _ _ _ _ => trivial), ?_, ?_⟩
  · rintro i v u h₁₆ tk₁₆ E3 hv - st₁₆ Fo F₁₆
    have hi : i < tt.length := by have := (List.getElem?_eq_some_iff.mp hv).1; rw [X₁₅.len, List.length_map] at this; exact this
    obtain ⟨t, ht⟩ : ∃ t, tt[i]? = some t := ⟨_, List.getElem?_eq_getElem hi⟩
    obtain ⟨v', hv', xv⟩ := X₁₅.at (j := i) (dj := enc t) (by rw [List.getElem?_map, ht]; rfl)
    rw [hv] at hv'; cases hv'
    refine hideG fun gP kP => ?_; obtain ⟨ht5, hnT⟩ := tsA t (List.mem_of_getElem? ht); refine kP ?_; clear kP gP
    refine wpAny_assign_Name ?_
    (ktn_call 2 sL; intros)
    rename_i h₁₇ s₁₇ F₁₇
    have s1517 := st₁₆.trans s₁₇
    have sf₁₅ := safeL F₁₅ ⟨rfl, rfl, rfl, rfl, rfl⟩
    have OI₁₇ := OI₁₅.upS F₁₅.G s1517 sf₁₅
    have WI₁₇ := WI₁₅.upS F₁₅.G s1517 sf₁₅
    have xv₁₇ := xv.up s1517
    clear OI₁₅ WI₁₅ D₁₅ xS₁₅ xE₁₅ X₁₅ xv s1517 sf₁₅ Fo st₁₆ s₁₇ F₁₅ P₁₅
    refine hideG fun gP kP => ?_; obtain ⟨od, fl', el, cl, dl, bd, fv, ev, cv, dv, rfl, lod, OD0, OLf, Oxf, OLe, Oxe, OLc, Oxc, OLd, Oxd, OB⟩ := id OI₁₇; refine kP ?_; clear kP gP
    have B₁₇ := F₁₇.base []
    (tbr_iter xIf0; tbr_iter wpAny_isTrue_Compare1; ktn_call 91 Call_; (with_reducible refine' nameG ?zA ?zB ?zC ?zD ?zE ?zF ?_); (case zA => tb_rel); (case zB => tb_rel); (case zC => k_is); (case zD => tb_rel); (case zE => tb_rel); (case zF => tb_rel); (with_reducible refine' callF ?zA ?zB ?zC ?zD ?_); (case zA => tb_rel); (case zB => k_is); (case zC => tb_rel); (case zD => tb_rel); (with_reducible refine' aL ?zA ?zB ?zC ?_); (case zA => tb_rel); (case zB => tb_rel); (case zC => tb_rel); ktn_call 91 args_cons; (with_reducible refine' nameC ?zA ?zB ?zC ?zD ?zE ?zF ?_); (case zA => tb_rel); (case zB => tb_rel); (case zC => tb_rel); (case zD => tb_rel); (case zE => tb_rel); (case zF => tb_rel); ktn_call 91 args_cons; tbr_iter Subscript_; (with_reducible refine' nL ?zA ?zB ?zC ?_); (case zA => tb_rel); (case zB => tb_rel); (case zC => tb_rel); tbr_iter cStr)
    refine subD OD0 rfl (by with_unfolding_all rfl) ?_
    (tbr_iter args_nil; (with_reducible refine' And.intro (Fm.G ?zF) ?_; (case zF => assumption)))
    refine is_copy_spec 5 ht5 (by decide) (hA'.le (by omega)) F₁₇.G xv₁₇ WI₁₇ OB fun h₁₈ tk₁₈ s₁₈ => ?_
    have B₁₈ := B₁₇.up s₁₈
    have x₁₈ := xv₁₇.up s₁₈
    (ktn_call 91 Call_; (with_reducible refine' nameG ?zA ?zB ?zC ?zD ?zE ?zF ?_); (case zA => tb_rel); (case zB => tb_rel); (case zC => k_is); (case zD => tb_rel); (case zE => tb_rel); (case zF => tb_rel); (with_reducible refine' callF ?zA ?zB ?zC ?zD ?_); (case zA => tb_rel); (case zB => k_is); (case zC => tb_rel); (case zD => tb_rel); (with_reducible refine' aL ?zA ?zB ?zC ?_); (case zA => tb_rel); (case zB => tb_rel); (case zC => tb_rel); (with_reducible refine' aL1 ?zA ?zB ?zC ?_); (case zA => tb_rel); (case zB => tb_rel); (case zC => tb_rel); (with_reducible refine' And.intro (Fm.G ?zF) ?_; (case zF => assumption)))
    refine is_copied_spec 5 ht5 (by decide) (hA'.le (by omega)) B₁₈.G x₁₈ (OI₁₇.up F₁₇.G s₁₈) hnT fun h₁₉ tk₁₉ s₁₉ => ?_
    have B₁₉ := B₁₈.up s₁₉
    have x₁₉ := x₁₈.up s₁₉
    have s1719 := s₁₈.trans s₁₉
    clear B₁₈ x₁₈
    refine ne_bool ?_
    rw [bne_self_eq_false]
    (tbr_iter wpAny_truthy_bool; ktn_call 1 ifF; tbr_iter xIf0; tbr_iter wpAny_isTrue_BoolOp; tbr_iter wpAny_allTrue_Or_cons; tbr_iter wpAny_isTrue_Compare1; ktn_call 91 Call_; (with_reducible refine' nameG ?zA ?zB ?zC ?zD ?zE ?zF ?_); (case zA => tb_rel); (case zB => tb_rel); (case zC => k_is); (case zD => tb_rel); (case zE => tb_rel); (case zF => tb_rel); (with_reducible refine' callF ?zA ?zB ?zC ?zD ?_); (case zA => tb_rel); (case zB => k_is); (case zC => tb_rel); (case zD => tb_rel); (with_reducible refine' aL ?zA ?zB ?zC ?_); (case zA => tb_rel); (case zB => tb_rel); (case zC => tb_rel); ktn_call 91 args_cons; (with_reducible refine' nameC ?zA ?zB ?zC ?zD ?zE ?zF ?_); (case zA => tb_rel); (case zB => tb_rel); (case zC => tb_rel); (case zD => tb_rel); (case zE => tb_rel); (case zF => tb_rel); tbr_iter args_nil; (with_reducible refine' And.intro (Fm.G ?zF) ?_; (case zF => assumption)))
    have hsz : sz o.W t ≤ 400 := by
      have h1 := sz_le ok t
      have h2 : 2 ^ t.dep ≤ 2 ^ 5 := Nat.pow_le_pow_right (by decide) ht5
      omega
    refine needs_drop_spec (hA'.le (by omega)) ok (by omega) hsz B₁₉.G x₁₉ (WI₁₇.up F₁₇.G s1719) fun h₂₀ tk₂₀ s₂₀ => ?_
    have B₂₀ := B₁₉.up s₂₀
    have x₂₀ := x₁₉.up s₂₀
    have s1720 := s1719.trans s₂₀
    clear B₁₉ x₁₉
    (ktn_call 91 Call_; (with_reducible refine' nameG ?zA ?zB ?zC ?zD ?zE ?zF ?_); (case zA => tb_rel); (case zB => tb_rel); (case zC => k_is); (case zD => tb_rel); (case zE => tb_rel); (case zF => tb_rel); (with_reducible refine' callF ?zA ?zB ?zC ?zD ?_); (case zA => tb_rel); (case zB => k_is); (case zC => tb_rel); (case zD => tb_rel); (with_reducible refine' aL ?zA ?zB ?zC ?_); (case zA => tb_rel); (case zB => tb_rel); (case zC => tb_rel); (with_reducible refine' aL1 ?zA ?zB ?zC ?_); (case zA => tb_rel); (case zB => tb_rel); (case zC => tb_rel); (with_reducible refine' And.intro (Fm.G ?zF) ?_; (case zF => assumption)))
    refine is_dropped_spec 6 (by have := rk_le t; omega) (by omega) (by decide) (hA'.le (by omega)) B₂₀.G x₂₀ (OI₁₇.up F₁₇.G s1720) ok fun h₂₁ tk₂₁ s₂₁ => ?_
    have B₂₁ := B₂₀.up s₂₁
    have x₂₁ := x₂₀.up s₂₁
    have s1721 := s1720.trans s₂₁
    clear B₂₀ x₂₀
    refine ne_bool ?_
    rw [bne_self_eq_false]
    (tbr_iter wpAny_truthy_bool; ktn_call 1 ifF; tbr_iter wpAny_allTrue_Or_cons; tbr_iter wpAny_isTrue_Not; ktn_call 91 isTrue_plain; ktn_call 91 Call_; (with_reducible refine' nameG ?zA ?zB ?zC ?zD ?zE ?zF ?_); (case zA => tb_rel); (case zB => tb_rel); (case zC => k_is); (case zD => tb_rel); (case zE => tb_rel); (case zF => tb_rel); (with_reducible refine' callF ?zA ?zB ?zC ?zD ?_); (case zA => tb_rel); (case zB => k_is); (case zC => tb_rel); (case zD => tb_rel); (with_reducible refine' aL ?zA ?zB ?zC ?_); (case zA => tb_rel); (case zB => tb_rel); (case zC => tb_rel); ktn_call 91 args_cons; (with_reducible refine' nameC ?zA ?zB ?zC ?zD ?zE ?zF ?_); (case zA => tb_rel); (case zB => tb_rel); (case zC => tb_rel); (case zD => tb_rel); (case zE => tb_rel); (case zF => tb_rel); (with_reducible refine' aL1 ?zA ?zB ?zC ?_); (case zA => tb_rel); (case zB => tb_rel); (case zC => tb_rel); (with_reducible refine' And.intro (Fm.G ?zF) ?_; (case zF => assumption)))
    refine fields_right_spec (hA'.le (by omega)) B₂₁.G x₂₁ (by omega) (OI₁₇.up F₁₇.G s1721) (WI₁₇.up F₁₇.G s1721) ok fun h₂₂ tk₂₂ s₂₂ => ?_
    have B₂₂ := B₂₁.up s₂₂
    (tbr_iter wpAny_truthy_bool; ktn_call 1 ifF; tbr_iter wpAny_allTrue_Or_nil; ktn_call 1 ifF; tbr_iter xNil; tbr_iter turn_next)
    exact ⟨_, _, _, rfl, F₁₇.jn B₂₂, by tb_rel, trivial⟩
  · rintro u h' tk' - st' F'
    have sf₁₅ := safeL F₁₅ ⟨rfl, rfl, rfl, rfl, rfl⟩
    have OI' := OI₁₅.upS F₁₅.G st' sf₁₅
    have WI' := WI₁₅.upS F₁₅.G st' sf₁₅
    have D' := D₁₅.up F₁₅.G st' (fun q => nbj.1 (List.mem_singleton.mp q))
    have xS' := xS₁₅.up st'
    have xE' := xE₁₅.up st'
    clear OI₁₅ WI₁₅ D₁₅ xS₁₅ xE₁₅ X₁₅ P₁₅ F₁₅
    refine hideG fun gP kP => ?_; obtain ⟨od, fl', el, cl, dl, bd, fv, ev, cv, dv, rfl, lod, OD0, OLf, Oxf, OLe, Oxe, OLc, Oxc, OLd, Oxd, OB⟩ := OI'; refine kP ?_; clear kP gP
    (tbr_iter xReturn; tbr_iter wpAny_Compare1)
    refine' compD_filter F' (fun y => if y = Str.ofString "S" then o.dS else o.dE) hA' ?c1 ?c2 ?c3 ?c4 ?c5 ?c6 ?c7 ?_
    (case c1 => rfl); (case c2 => rfl); (case c3 => decide); (case c4 => exact fun _ => rfl); (case c5 => decide); (case c6 => rfl); (case c7 => tb_rel)
    ((with_reducible refine' nameC ?zA ?zB ?zC ?zD ?zE ?zF ?_); (case zA => tb_rel); (case zB => tb_rel); (case zC => tb_rel); (case zD => tb_rel); (case zE => tb_rel); (case zF => tb_rel))
    refine ⟨h', _, bo, _, rfl, rfl, F', D', gbo, Nat.le_of_ble_eq_true rfl, ?_, ?_⟩
    · intro key y u C m' h₂ h₃ tk₃ E3 hky st₃ F₃
      have hk : ∃ t : Ty, valueAt [(Str.ofString "S", vS), (Str.ofString "E", vE)] key = some y ∧ XT h' y (enc t) ∧ t.dep ≤ 10 ∧ hasD o.W t = if key = Str.ofString "S" then o.dS else o.dE := by
        simp only [List.mem_cons, List.not_mem_nil, or_false] at hky
        rcases hky with e | e
        · cases e; exact ⟨.S, rfl, xS', by decide, hasD_S o⟩
        · cases e; exact ⟨.E .bool, rfl, xE', by decide, hasD_E o _⟩
      refine hideG fun gP kP => ?_; obtain ⟨t, hva, xy, hd10, hhd⟩ := hk; refine kP ?_; clear kP gP
      have B₃ := F₃.base []
      (ktn_call 91 isTrue_plain; ktn_call 91 Call_; (with_reducible refine' nameG ?zA ?zB ?zC ?zD ?zE ?zF ?_); (case zA => tb_rel); (case zB => tb_rel); (case zC => k_is); (case zD => tb_rel); (case zE => tb_rel); (case zF => tb_rel); (with_reducible refine' callF ?zA ?zB ?zC ?zD ?_); (case zA => tb_rel); (case zB => k_is); (case zC => tb_rel); (case zD => tb_rel); ktn_call 91 args_cons; tbr_iter Subscript_; (with_reducible refine' nameC ?zA ?zB ?zC ?zD ?zE ?zF ?_); (case zA => tb_rel); (case zB => tb_rel); (case zC => tb_rel); (case zD => tb_rel); (case zE => tb_rel); (case zF => tb_rel); (with_reducible refine' nL ?zA ?zB ?zC ?_); (case zA => tb_rel); (case zB => tb_rel); (case zC => tb_rel))
      refine subD (D'.up F'.G st₃ (fun q => nomatch q)) hva (by with_unfolding_all rfl) ?_
      (ktn_call 91 args_cons; (with_reducible refine' nameC ?zA ?zB ?zC ?zD ?zE ?zF ?_); (case zA => tb_rel); (case zB => tb_rel); (case zC => tb_rel); (case zD => tb_rel); (case zE => tb_rel); (case zF => tb_rel); tbr_iter args_nil; (with_reducible refine' And.intro (Fm.G ?zF) ?_; (case zF => assumption)))
      refine has_drop_spec (hA'.le (by omega)) hd10 F₃.G (xy.up st₃) (WI'.up F'.G st₃) fun h₄ tk₄ s₄ => ?_
      rw [hhd]
      (tbr_iter wpAny_truthy_bool)
      refine ⟨rfl, h₄, _, rfl, s₄, fun hb F₄ E'' => ?_⟩
      ((with_reducible refine' nL ?zA ?zB ?zC ?_); (case zA => tb_rel); (case zB => tb_rel); (case zC => tb_rel))
      exact ⟨h₄, _, rfl, .refl _ _, Reads.str _ _⟩
    · intro D2 ws h'' tk'' st'' F'' hL xs
      replace xs : XTs h'' ws ((([Str.ofString "S", Str.ofString "E"] : List Str).filter fun y => if y = Str.ofString "S" then o.dS else o.dE).map .str) := xs
      (tbr_iter Subscript_; (with_reducible refine' nL ?zA ?zB ?zC ?_); (case zA => tb_rel); (case zB => tb_rel); (case zC => tb_rel); tbr_iter cStr)
      refine subD (OD0.up F'.G st'' (fun q => nomatch q)) rfl (by with_unfolding_all rfl) ?_
      refine eqL hA' hL xs (IsList.up F'.G st'' OLd (fun q => nomatch q)) (Oxd.up st'') (drops_shaped _ _) (names_shaped _ _) ?_
      rw [show PyData.eqvAll _ (names o.dS o.dE) = true from drops_eq _ _]
      (tbr_iter back_ret)
      exact k _ _ F''.st
end

end Mine
theorem PySem.Challenge.cw_ot0013_01_holds : PySem.Challenge.rw_ot0013_01.Holds := by
  refine Mine.hd ?_
  k_fill
  intro w s₀ s₁ mg mb G Y fa o pm cd doc dV kV ho hdd hcd hD hmg hg args vals as hpre hlay hrd hwl hlo
  have KX := km_in_of Y
  km_tabs Y
  have X := (Ground.X G).1
  have V := (Ground.X G).2
  refine Ground.open G ?_
  intro T B D TE TW
  try (refine guard_noD D (by decide +kernel) ?_; clear D)
  km_lay T hmg ho hdd cd
  wrow_args hpre hlay hrd hwl hlo
  refine enter_call ?_
  kn_posts
  rename_i w8 hs hlay0 hL1 hr1 hl2 w7 w6 w5 w4 w3 hL ra w1 r0 hI hr hc1 hc2
  have efa : Value.ref fa = Value.ref 241 := Option.some.inj (hmg.symm.trans (mg_of (n := Str.ofString "law") KX T.g (by k_is)))
  cases efa
  have GG := Mine.gd_of KX T (hT8 87 (.head _))
  have hcx : Mine.Cx callerA 40 := ⟨rfl, by decide, by decide⟩
  have hlen : w4.length = w8.length := Mine.ints_len hI
  have hpost : ∀ as : List WData, (OpenRow.toRowW (OpenLaw.row PySem.Challenge.rw_ot0013_01)).claim.post as (.bool true) as = true := fun as => by kernel_rfl
  refine Mine.law_spec hcx GG hL (Mine.ints_all hI) (by omega) fun h' tk' st => ⟨⟨.inl ⟨.bool true, .bool true, [], rfl, fun _ => rfl, .bool true, hpost _, fun _ => ⟨List.nodup_nil, fun _ q => nomatch q⟩⟩, fun b ob e => ?_, rfl, hg⟩, ?_, trivial⟩
  · refine st.keep b ob (fun q => ?_) (fun q => nomatch q) (of_hideAll _ e)
    rw [show (ghostOf s₁.heap [(89, 87)]).get? b = none from hideAll_none _ (by rw [q]; exact .head _)] at e
    cases e
  · exact Mine.grown (st.gd GG)
